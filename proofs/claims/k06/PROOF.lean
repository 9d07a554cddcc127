import PyProof.Rows.All
import HandS.ForMost
import HandS.ForExc
import HandS.TupAny
import HandS.TupMul
import HandS.IsInst
import HandS.SortOrd
import KE.KSortTupAny
import HandS.TupSets
import KE.KDictCopyH
import KE.KDictPairs
import HandS.Wide
import HandS.ExcIs
import HandS.Style
import HandS.Flow
import HandS.Iter
import HandS.Zip
import HandS.WordsExc
import KE.GoesEnum
import HandS.Defaults
import HandS.TryMany
import HandS.RaiseMore
import HandS.Head0
import HandS.Head1
import HandS.Head2
import HandS.HeadEnd
import HandS.HeadHook1
import HandS.HeadHook2
import PyProof.ExcBaseAll.ValueError
import HandS.Star
import KE.KTupSum
import HandS.Deep
import KE.SortData
import HandS.SetFor
import HandS.Strs
import PySem.Challenge.RW_rootsaid_k06_polynomials_of_one_unknown
set_option Elab.async false
set_option linter.all false
set_option maxRecDepth 100000
set_option maxHeartbeats 0
/-! RS0: new tuples, told whole (they have no names of their own). -/
namespace L2
open PySem PySem.Spec PyProof.Rows
def tupO (its : List Value) : Obj := { cls := .type "tuple", data := .seq its.toArray }
/-- a new tuple at p -/
def NewT (H : Hp) (xs : List V) (Q : VK) : Prop := ∀ (p : Addr) (o : Obj), o.dict = none → H p = none → Q (.ref p) (upd H p (.frz o (.tup xs)))
section
variable {X : Cx}
theorem laidT {pins : List (Addr × Obj)} {σ : St} {H : Hp} {s : Shared} {xs : List V} {its : List Value} (I : Inv X pins σ H s) (r : Vals xs its) (hz : xs.length ≤ sizeLine) :
    Inv X pins σ (upd H s.heap.objs.size (.frz (tupO its) (.tup xs))) { s with heap := s.heap.push (tupO its) } := by
  have lay := I.laid (t' := s.toks) (a := s.heap.objs.size) (o := .frz (tupO its) (.tup xs)) (h' := s.heap.push (tupO its)) (fun b ob q => Heap.get?_push_of_some _ q) (Nat.le_refl _)
  exact lay ⟨Heap.get?_push_size _ rfl, hz, its, r, IsTup.new _ _⟩
theorem newT_at {pins : List (Addr × Obj)} {σ : St} {H : Hp} {s : Shared} {xs : List V} {Q : VK} (I : Inv X pins σ H s) (q : NewT H xs Q) (its : List Value) : Q (.ref s.heap.objs.size) (upd H s.heap.objs.size (.frz (tupO its) (.tup xs))) :=
  q _ _ rfl (I.hok.fresh (Nat.le_refl _))
def tTupN (t : TA) : TE := fun σ H Q => t σ H fun xs H1 => xs.length ≤ sizeLine ∧ NewT H1 xs Q
theorem pe_tupN {es : List Expr} {x1 : Nat} {pos : Pos} {t : TA} (h : PA X es t) : PE X (.Tuple es x1 pos) (tTupN t) :=
  ⟨fun pins s σ H Q I hq => wpAny_Tuple_spliced (thn (h.run pos pins s σ H _ I hq) fun us s1 ⟨xs, H1, I1, r, z, q⟩ => ⟨by rw [← r.length]; exact z, V.ref _, _, laidT I1 r z, rfl, newT_at I1 q us⟩)⟩
def rCatN (K : PySem.W.Frag) : R2 := fun x y H Q => ∃ a b xs ys, x = .ref a ∧ y = .ref b ∧ SqT K H a xs ∧ SqT K H b ys ∧ xs.length + ys.length ≤ sizeLine ∧ (xs = [] → Q (.ref b) H) ∧ (xs ≠ [] → ys = [] → Q (.ref a) H) ∧ (xs ≠ [] → ys ≠ [] → NewT H (xs ++ ys) Q)
theorem op_catN : OpR X (binaryOp .Add) (rCatN X.K) := by
  intro pins s σ H x y v u Q I rx ry ⟨a, b, xs, ys, ea, eb, ta, tb, hz, c0, c1, c2⟩
  subst ea eb
  cases rx
  cases ry
  obtain ⟨l1, v1, p1, _⟩ := I.tuple ta
  obtain ⟨l2, v2, p2, _⟩ := I.tuple tb
  by_cases hx : xs = []
  · have e : l1 = [] := v1.nil_iff.mpr hx
    subst e
    exact cat_tup0 p1 p2 ⟨.ref b, H, I, rfl, c0 hx⟩
  · refine HT.cat_tup p1 p2 (fun z => hx (v1.nil_iff.mp z)) (fun z => ⟨.ref _, H, I, rfl, c1 hx (v2.nil_iff.mp z)⟩) (fun z => ?_) (by rw [← v1.length, ← v2.length]; exact hz)
    exact ⟨.ref _, _, laidT I (v1.append v2) (by rw [List.length_append]; exact hz), rfl, newT_at I (c2 hx fun w => z (v2.nil_iff.mpr w)) _⟩
def rSlN (K : PySem.W.Frag) : V → Option Int → Option Int → Hp → VK → Prop := fun x lo hi H Q => ∃ a xs, x = .ref a ∧ SqT K H a xs ∧
  (HT.sIx xs.length 0 lo = 0 ∧ HT.sIx xs.length xs.length hi = xs.length → Q (.ref a) H) ∧ (¬ (HT.sIx xs.length 0 lo = 0 ∧ HT.sIx xs.length xs.length hi = xs.length) → NewT H (cutV xs lo hi) Q)
theorem sl_tupN : SlR X (rSlN X.K) := by
  intro pins s σ H x v vl vu lo hi sl Q I rx hs pl pu ⟨a, xs, ea, ta, c1, c2⟩
  subst ea
  cases rx
  obtain ⟨its, r, p, z⟩ := I.tuple ta
  have hn : its.toArray.size = xs.length := by rw [List.size_toArray]; exact r.length.symm
  refine ⟨"tuple", _, PyProof.Rows.slot_tuple_getitem.lookup, p.typeIs, ?_⟩
  by_cases hw : HT.sIx xs.length 0 lo = 0 ∧ HT.sIx xs.length xs.length hi = xs.length
  · exact getItem_tuple_whole p hs pl pu (by rw [hn]; exact hw) ⟨.ref _, H, I, rfl, c1 hw⟩
  · refine HT.getItem_tuple_cut p hs pl pu (by rw [hn]; exact hw) ?_ (by rw [hn]; exact z)
    rw [hn]
    exact ⟨.ref _, _, laidT I ((r.drop (HT.sIx xs.length 0 lo)).take (HT.sIx xs.length xs.length hi - HT.sIx xs.length 0 lo)) (Nat.le_trans (cutV_length xs lo hi) z), rfl, newT_at I (c2 hw) _⟩
def rTupleN (K : PySem.W.Frag) : List V → Hp → VK → Prop := fun xs H Q => ∃ p ys, xs = [.ref p] ∧ ((SqL K H p ys ∧ NewT H ys Q) ∨ (SqT K H p ys ∧ Q (.ref p) H))
theorem call_tupleN : CallR X (.type "tuple") (rTupleN X.K) := by
  intro pins s σ H xs us Q I r ⟨p, ys, ex, h⟩
  subst ex
  obtain ⟨u, eu, rx⟩ := vals1 r
  subst eu
  cases rx
  rcases h with ⟨hq, q⟩ | ⟨hq, q⟩
  · obtain ⟨its, rv, pl, z⟩ := I.list hq
    have hl := rv.length
    refine call_tuple_list pl.isList (fun h' kp => ?_) (by simp only [List.size_toArray] <;> omega)
    have I1 : Inv X pins σ H { s with heap := h' } := I.kept (t' := s.toks) kp
    exact ⟨.ref _, _, laidT I1 rv z, rfl, newT_at I1 q its⟩
  · obtain ⟨its, rv, pl, z⟩ := I.tuple hq
    exact call_tuple_same pl ⟨.ref _, H, I, rfl, q⟩
def rRepN (K : PySem.W.Frag) : R2 := fun x y H Q => ∃ l k xs, x = .ref l ∧ y = .int k ∧ SqT K H l xs ∧ xs ≠ [] ∧ 2 ≤ k ∧ k ≤ 1000 ∧ xs.length ≤ 1000 ∧ NewT H (List.replicate k.toNat xs).flatten Q
theorem op_repN : OpR X (binaryOp .Mult) (rRepN X.K) := by
  intro pins s σ H x y v u Q I rx ry ⟨l, k, xs, ex, ey, ta, hne, h1, h2, hz, q⟩
  subst ex ey
  cases rx
  obtain ⟨t, rfl⟩ := ry
  obtain ⟨its, r, ⟨⟨cls, dd, data, sl⟩, ho, hc, n, hd⟩, _⟩ := I.tuple ta
  simp only at hc hd
  subst hc hd
  have hle : xs.length = its.length := r.length
  have hsz : its.toArray.size = xs.length := by rw [List.size_toArray, hle]
  have hi : its.toArray.isEmpty = false := by
    cases its with
    | nil => exact absurd (List.eq_nil_of_length_eq_zero hle) hne
    | cons a b => rfl
  have hm : ((its.toArray.size : Nat) : Int) * k ≤ 1000 * k := by
    rw [hsz]
    exact Int.mul_le_mul_of_nonneg_right (by omega) (by omega)
  have hb : k.toNat * xs.length ≤ 1000 * 1000 := Nat.mul_le_mul (by omega) hz
  have c0 : (decide (k < -(2 ^ 63)) || decide (k ≥ 2 ^ 63)) = false := by
    rw [decide_eq_false (by omega), decide_eq_false (by omega)] <;> rfl
  have c1 : (its.toArray.isEmpty || k == 1) = false := by
    rw [hi, Bool.false_or]; exact beq_eq_false_iff_ne.mpr (by omega)
  have c2 : (decide (k ≤ 0) || its.toArray.isEmpty) = false := by
    rw [hi, Bool.or_false]; exact decide_eq_false (by omega)
  have c4 : Builtin.Tuple.tupleTooMany (((its.toArray.size : Nat) : Int) * k) = false := by
    unfold Builtin.Tuple.tupleTooMany
    rw [sizeLine_eq]
    exact decide_eq_false (by omega)
  have fl : (List.replicate k.toNat its).flatten.length ≤ sizeLine := by
    rw [PyProof.Rows.lm_len_rep_flat, ← hle, sizeLine_eq]; omega
  have fx : (List.replicate k.toNat xs).flatten.length ≤ sizeLine := by
    rw [PyProof.Rows.lm_len_rep_flat, sizeLine_eq]; omega
  refine wpAny_binaryOp_repeat_ref (T := "tuple") (U := "int") (by decide) ⟨_, ho, rfl⟩ (fun s' => typeIs_int s' k t) noFill_tuple_mul F.fills_int_mul F.slot_int_rmul repeat_tuple F.slot_int_index.lookup
    (call_meets F.slot_int_rmul (typeIs_int s k t) F.entry_int_rmul (F.args_int_rmul_2 _ _) (int_rmul_tuple k t l its.toArray n dd sl) ⟨ho, rfl, ⟨_, ho, rfl⟩,
      call_meets F.slot_tuple_mul ⟨_, ho, rfl⟩ F.entry_tuple_mul (F.args_tuple_mul_2 _ _) (tuple_mulW l its.toArray n dd sl k t c0 c1 c2 (by omega) c4 (by rw [size_rep, List.size_toArray]; exact fl)) ⟨ho, ?_⟩⟩)
  rw [size_rep]
  exact ⟨.ref _, _, laidT I (r.rep k.toNat) fx, rfl, newT_at I q _⟩
/-- isinstance(x, (c1, c2, ..)), the tuple anywhere -/
def rIsiN (K : PySem.W.Frag) : List V → Hp → VK → Prop := fun xs H Q => ∃ (x : V) (tp : Addr) (cs : List V) (t : Value) (us : List Value) (b : Bool), xs = [x, .ref tp] ∧ SqT K H tp cs ∧ Paired ClsV cs us ∧ TyX K H x t ∧ PySem.W.kitAny K t us = some b ∧ Q (.bl b) H
theorem call_isiN : CallR X (.builtin "isinstance") (rIsiN X.K) := by
  intro pins s σ H xs us Q I r ⟨x, tp, cs, t, ws, b, ex, ta, kc, ty, e, q⟩
  subst ex
  obtain ⟨u1, u2, eu, r1, r2⟩ := vals2 r
  subst eu
  cases r2
  obtain ⟨its, rv, ⟨⟨oc, od, dt, sl⟩, ho, hc, n, hd⟩, _⟩ := I.tuple ta
  simp only at hc hd
  subst hc hd
  obtain ⟨P, Z, p, hx⟩ := kit_of I r1 ty
  have ew := ClsV.all kc rv
  subst ew
  exact PySem.W.kia_tup Z I.kIn p ho e hx fun tk => ⟨.bl b, H, I.tok tk, rfl, q⟩
end
end L2

namespace RS
open PySem PySem.Spec PyProof.Rows L2
/-- a tuple as it lies -/
def Tp (K : PySem.W.Frag) (H : Hp) (a : Addr) (xs : List V) : Prop := (∃ o : Obj, o.dict = none ∧ H a = some (.frz o (.tup xs))) ∨
    ∃ (o : Obj) (its : Array Value) (n : Nat), K.lookup a = some o ∧ o.cls = .type "tuple" ∧ o.dict = none ∧ o.data = .seq its n ∧ its.size ≤ sizeLine ∧ Vals xs its.toList
theorem Tp.sq {K : PySem.W.Frag} {H : Hp} {a : Addr} {xs : List V} (h : Tp K H a xs) : SqT K H a xs := by
  rcases h with ⟨o, _, h⟩ | ⟨o, its, n, h1, h2, _, h3⟩
  · exact .inl (.inr ⟨o, h⟩)
  · exact .inr ⟨o, its, n, h1, h2, h3⟩
end RS

/-! RSK: rows of int tuples of any lengths, sorted. -/
namespace RSK
open PySem PyProof.Rows SrtO
def TupI (h : Heap) (v : Value) (ns : List Int) : Prop := ∃ (a : Addr) (o : Obj) (xs : Array Value) (n : Nat), v = .ref a ∧ h.get? a = some o ∧ o.cls = .type "tuple" ∧ o.data = .seq xs n ∧ IntsAre xs.toList ns
theorem TupI.keeps {h h' : Heap} {v : Value} {ns : List Int} (x : TupI h v ns) (k : ∀ b o, h.get? b = some o → o.cls = .type "tuple" → h'.get? b = some o) : TupI h' v ns := by
  obtain ⟨a, o, xs, n, e, ho, hc, hd, hi⟩ := x
  exact ⟨a, o, xs, n, e, k a o ho hc, hc, hd, hi⟩
abbrev lexI := HT.lexLt
theorem lexI_self (x : Int) (r t : List Int) : lexI (x :: r) (x :: t) = lexI r t := by
  show HT.lexLt _ _ = _
  rw [HT.lexLt_cons, if_pos rfl]
theorem lexI_ne {x y : Int} (h : x ≠ y) (r t : List Int) : lexI (x :: r) (y :: t) = decide (x < y) := by
  show HT.lexLt _ _ = _
  rw [HT.lexLt_cons, if_neg h]
theorem lexI_asym : ∀ a b : List Int, lexI a b = true → lexI b a = false
  | [], [], _ => rfl
  | [], _ :: _, _ => rfl
  | _ :: _, [], h => absurd (show false = true from h) Bool.false_ne_true
  | x :: r, y :: t, h => by
    by_cases e : x = y
    · subst e
      rw [lexI_self] at h ⊢
      exact lexI_asym r t h
    · rw [lexI_ne e] at h
      rw [lexI_ne (Ne.symm e)]
      have := of_decide_eq_true h
      exact decide_eq_false (by omega)
theorem lexI_tr : ∀ a b c : List Int, lexI b a = false → lexI c b = false → lexI c a = false
  | a, b, [], h1, h2 => by
    cases a with
    | nil => rfl
    | cons x r =>
      cases b with
      | nil => exact absurd (show true = false from h1) Bool.noConfusion
      | cons y t => exact absurd (show true = false from h2) Bool.noConfusion
  | [], _, _ :: _, _, _ => rfl
  | x :: r, [], z :: u, h1, _ => absurd (show true = false from h1) Bool.noConfusion
  | x :: r, y :: t, z :: u, h1, h2 => by
    by_cases e1 : y = x
    · subst e1
      rw [lexI_self] at h1
      by_cases e2 : z = y
      · subst e2
        rw [lexI_self] at h2 ⊢
        exact lexI_tr r t u h1 h2
      · rw [lexI_ne e2] at h2 ⊢
        exact h2
    · rw [lexI_ne e1] at h1
      have h1 := of_decide_eq_false h1
      by_cases e2 : z = y
      · subst e2
        rw [lexI_ne e1]
        exact decide_eq_false h1
      · rw [lexI_ne e2] at h2
        have h2 := of_decide_eq_false h2
        have e3 : z ≠ x := by omega
        rw [lexI_ne e3]
        exact decide_eq_false (by omega)
theorem lexI_eq : ∀ a b : List Int, lexI a b = false → lexI b a = false → a = b
  | [], [], _, _ => rfl
  | [], _ :: _, h, _ => absurd (show true = false from h) Bool.noConfusion
  | _ :: _, [], _, h => absurd (show true = false from h) Bool.noConfusion
  | x :: r, y :: t, h1, h2 => by
    by_cases e : x = y
    · subst e
      rw [lexI_self] at h1 h2
      rw [lexI_eq r t h1 h2]
    · rw [lexI_ne e] at h1
      rw [lexI_ne (Ne.symm e)] at h2
      have h1 := of_decide_eq_false h1
      have h2 := of_decide_eq_false h2
      exact absurd (show x = y by omega) e
theorem swoI (k : Value → List Int) : Swo fun v u => lexI (k v) (k u) := ⟨fun x y h => lexI_asym _ _ h, fun x y z h1 h2 => lexI_tr _ _ _ h1 h2⟩
theorem ints_inj : ∀ {vs : List Value} {a b : List Int}, IntsAre vs a → IntsAre vs b → a = b
  | _, _, _, .nil, .nil => rfl
  | _, _, _, .cons n t x, .cons _ _ y => by rw [ints_inj x y]
section
variable {prog : Program} {w : World} {A : Around} {E : Value → Shared → Prop} {s : Shared}
theorem oneI {f : Bool} {a b : Int} {t u : Tok} {Q : Bool → Shared → Prop} (h : Q (decide (a < b)) s) : wpAny (model prog w) A (oneLt' f (.int a t) (.int b u)) Q E s := oneLt_any_int h
/-- items beside items -/
theorem katI {b fin : Bool} {Q : Bool → Shared → Prop} : ∀ (ps qs : List Value) (i : Nat) (as bs : List Int), IntsAre ps as → IntsAre qs bs → fin = decide (ps.length < qs.length) → Q (lexI as bs) s →
    PySem.W.KatLex prog w A b fin Q (ps.zip qs) i s
  | _, _, i, _, _, .nil, .nil, hf, h => by
    have e : fin = false := hf
    subst e
    exact PySem.W.kat_nil h
  | _, _, i, _, _, .nil, .cons m u y, hf, h => by
    have e : fin = true := by rw [hf]; exact decide_eq_true (Nat.succ_pos _)
    subst e
    exact PySem.W.kat_nil h
  | _, _, i, _, _, .cons n t x, .nil, hf, h => by
    have e : fin = false := by rw [hf]; exact decide_eq_false (Nat.not_lt_zero _)
    subst e
    exact PySem.W.kat_nil h
  | _, _, i, _, _, .cons (vs := ps) n t x, .cons (vs := qs) m u y, hf, h => by
    have hf' : fin = decide (ps.length < qs.length) := by rw [hf]; simp only [List.length_cons, Nat.add_lt_add_iff_right]
    refine PySem.W.kat_cons (wpAny_eqBool_int ?_)
    refine PySem.W.kat_go (fun e => PySem.W.kat_yes ?_) (fun e => PySem.W.kat_no ?_)
    · have z : n = m := by simpa using e
      subst z
      rw [lexI_self] at h
      exact katI ps qs (i + 1) _ _ x y hf' h
    · have z : n ≠ m := by simpa using e
      rw [lexI_ne z] at h
      exact oneI h
theorem TupI.isTup {h : Heap} {a : Addr} {ns : List Int} (x : TupI h (.ref a) ns) : ∃ xs, IsTup h a xs ∧ IntsAre xs.toList ns := by
  obtain ⟨b, o, xs, n, e, ho, hc, hd, hi⟩ := x
  cases e
  exact ⟨xs, ⟨o, ho, hc, n, hd⟩, hi⟩
theorem ltTuples {v u : Value} {as bs : List Int} {b : Bool} {Q : Bool → Shared → Prop} (x : TupI s.heap v as) (y : TupI s.heap u bs) (h : Q (lexI as bs) s) : wpAny (model prog w) A (keyLt' (tuples' b) v u) Q E s := by
  obtain ⟨a, o, xs, n, rfl, ho, hc, hd, hi⟩ := x
  obtain ⟨a2, o2, ys, n2, rfl, ho2, hc2, hd2, hi2⟩ := y
  exact PySem.W.kat_lt ho hd ho2 hd2 (katI _ _ 0 as bs hi hi2 (by rw [Array.length_toList, Array.length_toList]) h)
theorem ltGeneral {v u : Value} {as bs : List Int} {Q : Bool → Shared → Prop} (hu : A.units < cLine) (x : TupI s.heap v as) (y : TupI s.heap u bs) (h : Q (lexI as bs) s) : wpAny (model prog w) A (oneLt' false v u) Q E s := by
  have ⟨a, _, _, _, e1, _⟩ := x
  have ⟨a2, _, _, _, e2, _⟩ := y
  subst e1 e2
  obtain ⟨xs, h1, i1⟩ := x.isTup
  obtain ⟨ys, h2, i2⟩ := y.isTup
  exact PySem.W.kat_one _ _ (HT.lt_tupInts h1 h2 i1 i2 hu h)
theorem ltOneType {v u : Value} {as bs : List Int} {Q : Bool → Shared → Prop} (hu : A.units < cLine) (x : TupI s.heap v as) (y : TupI s.heap u bs) (h : Q (lexI as bs) s) : wpAny (model prog w) A (keyLt' oneType' v u) Q E s := by
  have ⟨a, o, xs, n, e1, ho, hc, hd, hi⟩ := x
  have ⟨a2, o2, ys, n2, e2, ho2, hc2, hd2, hi2⟩ := y
  subst e1 e2
  rw [keyLt'_oneType, oneLt'_eq]
  simp only [if_true]
  refine wpAny_bind (wpAny_cRoomFor hu ?_)
  obtain ⟨cls, dd, data, sl⟩ := o
  obtain ⟨cls2, dd2, data2, sl2⟩ := o2
  simp only at hc hd hc2 hd2
  subst hc hd hc2 hd2
  refine wpAny_bind (wpAny_callSpecialIfBound?_slot ⟨_, ho, rfl⟩ PySem.F.slot_tuple_lt (call_meets PySem.F.slot_tuple_lt ⟨_, ho, rfl⟩ PySem.F.entry_tuple_lt (PySem.F.args_tuple_lt_2 _ _)
    (HT.tuple_lt_ints a a2 xs ys n n2 dd dd2 sl sl2 as bs hi hi2) ⟨ho, ho2, ?_⟩))
  exact wpAny_truthy_bool h
/-! ### which kind the keys are of -/
def FirstI (h : Heap) (f : Value → Option Value) (v : Value) : Prop := ∃ (a : Addr) (o : Obj) (xs : Array Value) (n : Nat), v = .ref a ∧ h.get? a = some o ∧ o.cls = .type "tuple" ∧ o.data = .seq xs n ∧ xs[0]? = f v
theorem firsts_at {M : Model} {f : Value → Option Value} : ∀ (vs : List Value) {Q : List (Option Value) → Shared → Prop}, (∀ v ∈ vs, FirstI s.heap f v) → Q (vs.map f) s → wpAny M A (vs.mapM firstOfTuple') Q E s
  | [], _, _, h => by rw [List.mapM_nil]; exact wpAny_pure h
  | v :: vs, Q, t, h => by
    obtain ⟨a, o, xs, n, e, ho, hc, hd, hf⟩ := t v List.mem_cons_self
    rw [List.mapM_cons]
    refine wpAny_bind ?_
    rw [PySem.W.kas_first_eq, e]
    refine wpAny_bind (PySem.W.Looks.here (show PySem.W.Looks M s.heap (typeOf (.ref a)) o.cls from (PySem.W.Looks.ld ho).andThen .now) ?_)
    rw [hc, if_neg (by first | decide | simp)]
    refine wpAny_bind (listItems_at ho hd (wpAny_pure ?_))
    rw [hf]
    exact wpAny_bind (firsts_at vs (Q := fun bs s' => wpAny M A (pure (f v :: bs)) Q E s') (fun v hv => t v (List.mem_cons_of_mem _ hv)) (wpAny_pure h))
/-- one is empty, not the first -/
theorem kind_gen {M : Model} {f : Value → Option Value} {v0 : Value} {vs : List Value} {Q : SortKind → Shared → Prop} (t : ∀ v ∈ v0 :: vs, FirstI s.heap f v) (h0 : (f v0).isSome = true) (hn : ((v0 :: vs).all fun v => (f v).isSome) = false) (h : Q general' s) :
    wpAny M A (keyKind' (v0 :: vs).toArray) Q E s := by
  rw [keyKind'_eq, List.mapM_toArray, map_eq_pure_bind]
  refine wpAny_bind (wpAny_bind (firsts_at _ t (wpAny_pure ?_)))
  rw [if_neg (by
    rw [List.all_toArray', List.all_map] <;> first | rfl | skip
    rw [show ((fun x => Option.isSome x) ∘ f) = fun v => (f v).isSome from rfl, hn]
    exact Bool.false_ne_true)]
  rw [if_pos (by simpa using h0)]
  exact wpAny_pure h
/-- the first is empty -/
theorem kind_one {M : Model} {f : Value → Option Value} {v0 : Value} {vs : List Value} {Q : SortKind → Shared → Prop} (t : ∀ v ∈ v0 :: vs, FirstI s.heap f v) (h0 : f v0 = none) (h : Q oneType' s) :
    wpAny M A (keyKind' (v0 :: vs).toArray) Q E s := by
  rw [keyKind'_eq, List.mapM_toArray, map_eq_pure_bind]
  refine wpAny_bind (wpAny_bind (firsts_at _ t (wpAny_pure ?_)))
  rw [if_neg (by simp [h0]), if_neg (by simp [h0])]
  rw [oneTypeOnly'_eq, List.mapM_toArray, map_eq_pure_bind]
  refine wpAny_bind (wpAny_bind (wpAny_bind (PySem.W.kas_mapM (r := Value.type "tuple") _ (fun v hv Q' hq => ?_) (wpAny_pure ?_))))
  · obtain ⟨a, o, xs, n, e, ho, hc, hd, hf⟩ := t v hv
    rw [e]
    exact PySem.W.Looks.here (show PySem.W.Looks M s.heap (typeOf (.ref a)) (.type "tuple") from by rw [← hc]; exact (PySem.W.Looks.ld ho).andThen .now) hq
  · have hall : ((List.map (fun _ => Value.type "tuple") (v0 :: vs)).toArray.all fun x => x == Value.type "tuple") = true := by
      simp only [List.all_toArray, List.all_map, List.all_eq_true]
      intro _ _
      first | rfl | decide | simp
    have h0 : (List.map (fun _ => Value.type "tuple") (v0 :: vs)).toArray[0]? = some (Value.type "tuple") := by simp
    rw [h0]
    simp only [hall, if_true]
    exact wpAny_pure (wpAny_pure h)
theorem kat_of {h : Heap} {f : Value → Option Value} : ∀ {vs : List Value}, (∀ v ∈ vs, FirstI h f v) → (∀ v ∈ vs, (f v).isSome = true) → PySem.W.KatTups h vs (vs.map fun v => (f v).getD .none)
  | [], _, _ => PySem.W.KatTups.nil
  | v :: vs, t, q => by
    obtain ⟨a, o, xs, n, e, ho, hc, hd, hf⟩ := t v List.mem_cons_self
    have r := kat_of (vs := vs) (fun v hv => t v (List.mem_cons_of_mem _ hv)) fun v hv => q v (List.mem_cons_of_mem _ hv)
    have z := q v List.mem_cons_self
    rw [List.map_cons]
    refine ⟨⟨a, o, xs, n, e, ho, hc, hd, ?_⟩, r⟩
    rw [hf]
    cases y : f v with
    | none => rw [y] at z; cases z
    | some w => rfl
/-- the numbers that a tuple of the heap holds -/
noncomputable def nsOf (h : Heap) (v : Value) : List Int := by
  classical exact if x : ∃ ns, TupI h v ns then x.choose else []
theorem nsOf_ok {h : Heap} {v : Value} {ns : List Int} (x : TupI h v ns) : nsOf h v = ns := by
  have e : nsOf h v = (Exists.choose (⟨ns, x⟩ : ∃ ns, TupI h v ns)) := by
    unfold nsOf
    exact dif_pos ⟨ns, x⟩
  rw [e]
  obtain ⟨a, o, xs, n, e1, ho, hc, hd, hi⟩ := Exists.choose_spec (⟨ns, x⟩ : ∃ ns, TupI h v ns)
  obtain ⟨a2, o2, ys, n2, e2, ho2, hc2, hd2, hi2⟩ := x
  cases e1.symm.trans e2
  cases ho.symm.trans ho2
  cases hd.symm.trans hd2
  exact ints_inj hi hi2
/-- rows of int tuples can be sorted -/
theorem sortableI {a : Addr} {vs : List Value} (hu : A.units < cLine) (h2 : 2 ≤ vs.length) (hp : ∀ v ∈ vs, ∃ ns, TupI s.heap v ns) (ha : ∀ o, s.heap.get? a = some o → o.cls ≠ .type "tuple") :
    SortableO prog w A s a vs fun v u => lexI (nsOf s.heap v) (nsOf s.heap u) := by
  intro h' keep
  have up : ∀ v ∈ vs, TupI h' v (nsOf s.heap v) := fun v hm => by
    obtain ⟨ns, x⟩ := hp v hm
    rw [nsOf_ok x]
    exact x.keeps fun b o e c => keep b o (fun z => by subst z; exact ha o e c) e
  let f : Value → Option Value := fun v => match v with
    | .ref b => (match h'.get? b with
      | some o => (match o.data with
        | .seq xs _ => xs[0]?
        | _ => none)
      | none => none)
    | _ => none
  have hf : ∀ v ∈ vs, FirstI h' f v := fun v hm => by
    obtain ⟨b, o, xs, n, e, ho, hc, hd, hi⟩ := up v hm
    refine ⟨b, o, xs, n, e, ho, hc, hd, ?_⟩
    subst e
    show xs[0]? = (match h'.get? b with
      | some o => (match o.data with
        | .seq xs _ => xs[0]?
        | _ => none)
      | none => none)
    rw [ho]
    dsimp only
    rw [hd]
  have hi : ∀ v ∈ vs, ∀ w, f v = some w → ∃ n t, w = Value.int n t := fun v hm w hw => by
    obtain ⟨b, o, xs, n, e, ho, hc, hd, hfv⟩ := hf v hm
    obtain ⟨b2, o2, ys, n2, e2, ho2, hc2, hd2, hi2⟩ := up v hm
    cases e.symm.trans e2
    cases ho.symm.trans ho2
    cases hd.symm.trans hd2
    rw [← hfv, ← Array.getElem?_toList] at hw
    generalize nsOf s.heap v = q at hi2
    generalize xs.toList = l at hi2 hw
    cases hi2 with
    | nil => simp at hw
    | cons n t r => simp at hw; exact ⟨n, t, hw.symm⟩
  match vs, h2, up, hf, hi with
  | v0 :: rest, h2, up, hf, hi =>
  by_cases c1 : ∀ v ∈ v0 :: rest, (f v).isSome = true
  · refine ⟨tuples' true, fun Q E hq => ?_, fun p q hm hm' => ltTuples (s := { s with heap := h' }) (up _ hm) (up _ hm') ⟨rfl, rfl⟩⟩
    refine PySem.W.kat_kind (s := { s with heap := h' }) (T := .type "int") (kat_of hf c1) (by simp) (fun g hm => ?_) (by rfl) ?_
    · obtain ⟨v, hv, rfl⟩ := List.mem_map.mp hm
      cases y : f v with
      | none => have := c1 v hv; rw [y] at this; cases this
      | some w =>
        obtain ⟨n, t, rfl⟩ := hi v hv w y
        exact PySem.W.Looks.now
    · have e : (Value.type "int" != Value.type "tuple") = true := by first | decide +kernel | rfl | decide
      rw [e]
      exact hq
  · cases y : f v0 with
    | none => exact ⟨oneType', fun Q E hq => kind_one (s := { s with heap := h' }) hf y hq, fun p q hm hm' => ltOneType (s := { s with heap := h' }) hu (up _ hm) (up _ hm') ⟨rfl, rfl⟩⟩
    | some w =>
      refine ⟨general', fun Q E hq => kind_gen (s := { s with heap := h' }) hf (by rw [y]; rfl) ?_ hq, fun p q hm hm' => ltGeneral (s := { s with heap := h' }) hu (up _ hm) (up _ hm') ⟨rfl, rfl⟩⟩
      cases z : ((v0 :: rest).all fun v => (f v).isSome) with
      | false => rfl
      | true => exact absurd (fun v hv => List.all_eq_true.mp z v hv) c1
end
/-! ### sorted(d), d a dict of int tuples -/
def Asc (l : List (List Int)) : Prop := l.Pairwise fun x y => lexI y x = false
theorem asc_uniq : ∀ {a b : List (List Int)}, a.Perm b → Asc a → Asc b → a = b
  | [], b, p, _, _ => p.nil_eq
  | x :: r, [], p, _, _ => absurd p.length_eq (by simp)
  | x :: r, y :: t, p, ha, hb => by
    have hxy : x = y := by
      have hx : x ∈ y :: t := p.mem_iff.mp List.mem_cons_self
      have hy : y ∈ x :: r := p.mem_iff.mpr List.mem_cons_self
      rcases List.mem_cons.mp hx with e | hx
      · exact e
      · rcases List.mem_cons.mp hy with e | hy
        · exact e.symm
        · exact lexI_eq x y ((List.pairwise_cons.mp hb).1 x hx) ((List.pairwise_cons.mp ha).1 y hy)
    subst hxy
    rw [asc_uniq (List.Perm.cons_inv p) (List.pairwise_cons.mp ha).2 (List.pairwise_cons.mp hb).2]
end RSK
namespace RSK
open PySem PySem.Spec PyProof.Rows L2 SrtO
/-! ### dicts whose keys are int tuples, wherever these stand -/
abbrev DX := List (List Int × Addr × Value)
def entI (x : List Int × Addr × Value) : DictEntry := ⟨reduceHash (Builtin.Tuple.tupleHashOf (x.1.map hashInt)), .ref x.2.1, x.2.2⟩
abbrev tk (P : Program) (w : World) : HeapKind P w (List Int) := tupleKind (intKind P w)
theorem entI_eq (P : Program) (w : World) : entryOfKey (tk P w) = entI := rfl
def dxO (a : Addr) (xs : DX) : HO := .ext fun h => (a == sysModules) = false ∧ ∃ o es ep, h.get? a = some o ∧ o.ExactDict ∧ o.data = .dict es ep ∧ es.toList = xs.map entI
structure DxAt (K : PySem.W.Frag) (H : Hp) (a : Addr) (xs : DX) : Prop where
  at_ : H a = some (dxO a xs)
  keys : ∀ x ∈ xs, SqT K H x.2.1 (x.1.map V.int)
  nd : (xs.map (·.1)).Nodup
  len : xs.length < sizeLine
section
variable {X : Cx} {pins : List (Addr × Obj)} {σ : L2.St} {H : Hp} {s : Shared} {a b : Addr} {xs : DX} {k : List Int}
theorem tupI_sq (I : Inv X pins σ H s) (h : SqT X.K H b (k.map V.int)) : TupI s.heap (.ref b) k := by
  obtain ⟨its, r, ⟨o, ho, hc, n, hd⟩, _⟩ := I.tuple h
  exact ⟨b, o, its.toArray, n, rfl, ho, hc, hd, by simpa using r.ints⟩
theorem itemsI {P : Program} {w : World} : ∀ {vs : List Value} {ns : List Int}, IntsAre vs ns → ItemsAre (intKind P w) ns vs
  | _, _, .nil => .nil
  | _, _, .cons n t r => .cons (intKind_is P w n t) (itemsI r)
theorem key_sq (I : Inv X pins σ H s) (h : SqT X.K H b (k.map V.int)) : (tk X.prog X.w).is s.heap k b := by
  obtain ⟨b2, o, ys, n, e, ho, hc, hd, hi⟩ := tupI_sq I h
  cases e
  exact ⟨o, ys, n, ho, hc, hd, itemsI hi⟩
theorem dx_of (I : Inv X pins σ H s) (d : DxAt X.K H a xs) : (a == sysModules) = false ∧ s.heap.DictOfH (tk X.prog X.w) a xs := by
  obtain ⟨⟨hs, o, es, ep, h1, h2, h3, h4⟩, _⟩ := (show ObjOk X.prog X.w H s.heap a (dxO a xs) from I.hok a _ d.at_)
  exact ⟨hs, o, es, ep, h1, h2, h3, h4, fun x hx => key_sq I (d.keys x hx), d.nd⟩
theorem dx_new {P : Program} {w : World} {H' : Hp} {h' : Heap} (hs : (a == sysModules) = false) (d : h'.DictOfH (tk P w) a xs) : ObjOk P w H' h' a (dxO a xs) := by
  obtain ⟨o, es, ep, h1, h2, h3, h4, _⟩ := d
  exact ⟨⟨hs, o, es, ep, h1, h2, h3, h4⟩, ⟨o, h1⟩, fun g1 g2 ⟨q1, o, es, ep, q2, q3⟩ st => ⟨q1, o, es, ep, st _ q2, q3⟩⟩
theorem dx_type (I : Inv X pins σ H s) (d : DxAt X.K H a xs) : s.TypeIs (.ref a) "dict" ∧ ∀ c, Value.ref a = .ref c → ∃ ob, s.heap.get? c = some ob ∧ ob.dict = none := by
  obtain ⟨_, o, es, ep, h1, h2, _⟩ := dx_of I d
  refine ⟨⟨o, h1, h2.1⟩, fun c q => ?_⟩
  cases q
  exact ⟨o, h1, h2.2.1⟩
/-- {} -/
def NewD (H : Hp) (xs : DX) (Q : VK) : Prop := ∀ p, H p = none → Q (.ref p) (upd H p (dxO p xs))
def tDNewI : TE := fun _ H Q => NewD H [] Q
theorem pe_dnewI {pos : Pos} : PE X (.Dict [] [] pos) tDNewI := ⟨fun pins s σ H Q I h => by
  have ne : (s.heap.objs.size == sysModules) = false := beq_eq_false_iff_ne.mpr (Ne.symm (Nat.ne_of_lt I.big))
  have new : ObjOk X.prog X.w (upd H s.heap.objs.size (dxO s.heap.objs.size [])) (s.heap.push { cls := .type "dict", data := .dict #[] }) s.heap.objs.size (dxO s.heap.objs.size []) := dx_new ne (Heap.DictOfH.new s.heap)
  exact wpAny_Dict_empty ⟨.ref s.heap.objs.size, _, I.laid (t' := s.toks) (fun _ _ q => Heap.get?_push_of_some _ q) (Nat.le_refl _) new, rfl, h _ (I.hok.fresh (Nat.le_refl _))⟩⟩
/-- d[k] -/
def tDGetI (K : PySem.W.Frag) (td ty : TE) : TE := fun σ H Q => td σ H fun x H1 => ty σ H1 fun y H2 => ∃ a b xs k q v, x = .ref a ∧ y = .ref b ∧ DxAt K H2 a xs ∧ SqT K H2 b (k.map V.int) ∧ atKey xs k = some q ∧ RelV v q.2 ∧ Q v H2
theorem pe_dgetI {o i : Expr} {pos : Pos} {td ty : TE} (hu : X.A.units + 1 < cLine) (ho : PE X o td) (hi : PE X i ty) (hs : NoSl i) : PE X (.Subscript o i pos) (tDGetI X.K td ty) := ⟨fun pins s σ H Q I h =>
  subD_of PySem.F.slot_dict_getitem.lookup hs (thn (ho.run pins s σ H _ I h) fun u s1 ⟨x, H1, I1, rx, q1⟩ => thn (hi.run pins s1 σ H1 _ I1 q1) fun iv s2 ⟨y, H2, I2, ry, a, b, xs, k, q, v, ex, ey, d, tb, hq, rv, q2⟩ => by
    subst ex ey
    cases rx
    cases ry
    exact ⟨(dx_type I2 d).1, wpAny_getItem_heap (tupleKind_room_in1 hu) (key_sq I2 tb) (dx_of I2 d).2 hq ⟨v, H2, I2.tok _, rv, q2⟩⟩)⟩
/-- d.get(k, x) -/
def tDGet2I (K : PySem.W.Frag) (td ty tx : TE) : TE := fun σ H Q => td σ H fun x H1 => ∃ a xs0, x = .ref a ∧ DxAt K H1 a xs0 ∧ ty σ H1 fun y H2 => tx σ H2 fun z H3 => ∃ b xs k, y = .ref b ∧ DxAt K H3 a xs ∧ SqT K H3 b (k.map V.int) ∧
  (∀ q, atKey xs k = some q → ∃ v, RelV v q.2 ∧ Q v H3) ∧ (atKey xs k = none → Q z H3)
theorem pe_dget2I {o e f : Expr} {apos cpos : Pos} {td ty tx : TE} (hu : X.A.units + 1 < cLine) (ho : PE X o td) (he : PE X e ty) (hf : PE X f tx) (m : M2 X o "get" apos e f cpos) : PE X (.Call (.Attribute o "get" apos) [e, f] [] cpos) (tDGet2I X.K td ty tx) := ⟨fun pins s σ H Q I h => by
  refine wpAny_Call_method m.base m.few m.line PySem.F.plainAttrs_dict PySem.F.slot_dict_get PySem.F.type_dict_get (thn (ho.run pins s σ H _ I h) fun u s1 ⟨x, H1, I1, rx, a, xs0, ex, d0, q1⟩ => ?_)
  subst ex
  cases rx
  obtain ⟨t1, t2⟩ := dx_type I1 d0
  refine ⟨t1, t2, ?_⟩
  rw [m.trees]
  refine Calls.callWith_builtin rfl (Calls.evalArgs_plain (Calls.spliced_cons (thn (he.run pins s1 σ H1 _ I1 q1) fun iv s2 ⟨y, H2, I2, ry, q2⟩ => Calls.spliced_cons (thn (hf.run pins s2 σ H2 _ I2 q2) fun fv s3 ⟨z, H3, I3, rz, b, xs, k, ey, d, tb, q4, q5⟩ => Calls.spliced_nil ?_))))
  subst ey
  cases ry
  obtain ⟨hs, dd⟩ := dx_of I3 d
  refine call_meetsIn PySem.F.slot_dict_get dd.typeIs PySem.F.entry_dict_get (PySem.F.args_dict_get_3 _ _ _) (meetsH_dict_get_default (tk X.prog X.w) a b hs fv) ⟨tupleKind_room_in1 hu, k, xs, key_sq I3 tb, dd, ?_⟩
  cases hq : atKey xs k with
  | none => exact ⟨z, H3, I3.tok _, rz, q5 hq⟩
  | some q =>
    obtain ⟨v, rv, q3⟩ := q4 q hq
    exact ⟨v, H3, I3.tok _, rv, q3⟩⟩
/-- d[k] = v -/
def rSetI (K : PySem.W.Frag) : TSet := fun o i v H Q => ∃ a b xs k, o = .ref a ∧ i = .ref b ∧ DxAt K H a xs ∧ SqT K H b (k.map V.int) ∧ ∀ u, RelV v u → Q (upd H a (dxO a (storedH xs k b u)))
theorem set_dx (hu : X.A.units + 1 < cLine) : PSet X (rSetI X.K) := by
  intro pins s σ H o i v ov iv u Q I ro ri rv ⟨a, b, xs, k, eo, ei, d, tb, q⟩
  subst eo ei
  cases ro
  cases ri
  obtain ⟨hs, dd⟩ := dx_of I d
  refine wpAny_setItem_heap (hsz := Nat.le_of_lt d.len) (tupleKind_room_in1 hu) (key_sq I tb) dd fun h' dd' sb => ⟨_, ?_, q u rv⟩
  have he : ∃ q, h'.get? a = some q := let ⟨q, _, _, hq, _⟩ := dd'; ⟨q, hq⟩
  exact d_write I (by rw [d.at_]; exact True.intro) sb he (dx_new hs dd')
/-- sorted(d) -/
def rSortDX (K : PySem.W.Frag) : List V → Hp → VK → Prop := fun vs H Q => ∃ a xs, vs = [.ref a] ∧ DxAt K H a xs ∧
  ∀ (bs : List Addr) (ys : List (List Int)) (p : Addr), ys.Perm (xs.map (·.1)) → Asc ys → Paired (fun b k => ∃ v, (k, b, v) ∈ xs) bs ys → H p = none → Q (.ref p) (upd H p (.lst (bs.map V.ref)))
theorem refs_rows {f : Value → List Int} : ∀ {out : List Value}, (∀ v ∈ out, ∃ x ∈ xs, v = .ref x.2.1 ∧ f v = x.1) → ∃ bs : List Addr, out = bs.map Value.ref ∧ Paired (fun b k => ∃ v, (k, b, v) ∈ xs) bs (out.map f)
  | [], _ => ⟨[], rfl, .nil⟩
  | v :: out, h => by
    obtain ⟨bs, e, r⟩ := refs_rows (out := out) fun v hv => h v (List.mem_cons_of_mem _ hv)
    obtain ⟨⟨k, b, u⟩, hx, e1, e2⟩ := h v List.mem_cons_self
    refine ⟨b :: bs, by rw [e, e1]; rfl, ?_⟩
    rw [List.map_cons, e2]
    exact .cons ⟨u, hx⟩ r
theorem vals_refs : ∀ bs : List Addr, Vals (bs.map V.ref) (bs.map Value.ref)
  | [] => .nil
  | _ :: bs => .cons rfl (vals_refs bs)
theorem cr_sortDX (hcalm : X.calm = true) (hu : X.A.units + 64 < cLine) : CallR X (.builtin "sorted") (rSortDX X.K) := by
  intro pins s σ H vs us Q I r ⟨a, xs, ex, d, q⟩
  subst ex
  obtain ⟨u, eu, rx⟩ := vals1 r
  subst eu
  cases rx
  obtain ⟨lo, dd⟩ := dx_of I d
  obtain ⟨es, ep, raw, hsz, hes⟩ := dd.raw
  have hxl := d.len
  refine Calls.call_function_entry PyProof.Rows.kind_sorted PyProof.Rows.plain_sorted PyProof.Rows.entry_sorted (PyProof.Rows.args_sorted1 _) ?_
  unfold Builtin.«sorted»
  refine wpAny_bind (m := checkCount "sorted" 1 1 _) (wpAny_pure ?_)
  refine wpAny_bind (PySem.W.kdu_collect (A := X.A.in1) (PySem.KdlSrc.rawDict lo) (I.ok.hd hcalm) raw (by rw [hsz]; omega) fun hp tk acc hk hacc => ?_)
  have I1 : Inv X pins σ H { s with heap := hp, toks := tk } := I.kept hk
  have hal : acc.toList = xs.map fun y => Value.ref y.2.1 := by
    refine List.ext_getElem? fun j => ?_
    rw [List.getElem?_map]
    by_cases hj : j < es.size
    · have hj2 : j < acc.size := by rw [hacc.1]; exact hj
      have e1 : acc.toList[j]? = some acc[j] := by rw [Array.getElem?_toList, Array.getElem?_eq_getElem hj2]
      obtain ⟨_, e2⟩ := hacc.2 j acc[j] (Array.getElem?_eq_getElem hj2)
      obtain ⟨y, e3, e4, _, _⟩ := hes j hj
      rw [e1, e3, e2, e4]; rfl
    · rw [List.getElem?_eq_none (by rw [Array.length_toList, hacc.1]; omega), List.getElem?_eq_none (by rw [← hsz]; omega)]; rfl
  have hz2 : acc.toList.length ≤ sizeLine := by rw [hal, List.length_map]; omega
  refine wpAny_bind (wpAny_newList ?_ hz2)
  have hoL : (hp.push (seqObj "list" acc.toList.toArray 0)).get? hp.objs.size = some (seqObj "list" acc.toList.toArray 0) := Heap.get?_push_size _ rfl
  show wpAny _ _ _ _ _ { s with heap := hp.push (seqObj "list" acc.toList.toArray 0), toks := tk }
  have tups : ∀ v ∈ acc.toList, ∃ x ∈ xs, v = .ref x.2.1 ∧ TupI (hp.push (seqObj "list" acc.toList.toArray 0)) v x.1 := fun v hv => by
    rw [hal] at hv
    obtain ⟨y, hy, rfl⟩ := List.mem_map.mp hv
    exact ⟨y, hy, rfl, (tupI_sq I1 (d.keys y hy)).keeps fun b o e _ => Heap.get?_push_of_some _ e⟩
  refine wpAny_bind (wpAny_holding (wpAny_call_entry slot_list_sort ⟨_, hoL, rfl⟩ entry_list_sort (list_sort_ord (s := { s with heap := hp.push (seqObj "list" acc.toList.toArray 0), toks := tk }) (swoI (nsOf (hp.push (seqObj "list" acc.toList.toArray 0)))) hoL hz2
    (fun h2 => sortableI (s := { s with heap := hp.push (seqObj "list" acc.toList.toArray 0), toks := tk }) ?hu h2 (fun v hv => let ⟨x, _, _, t⟩ := tups v hv; ⟨_, t⟩) fun o e c => ?hc) fun out hs hb => ⟨_, rfl, ?fin⟩) (args_list_sort _)))
  case hu => exact Nat.lt_of_le_of_lt (Nat.le_add_right _ 60) (by first | exact hu | (show X.A.units + 1 + 1 + 60 < cLine; omega))
  case hc =>
    rw [hoL] at e
    cases e
    exact absurd (Value.type.inj c) (by decide)
  case fin =>
    obtain ⟨bs, eb, pb⟩ := refs_rows (xs := xs) (f := nsOf (hp.push (seqObj "list" acc.toList.toArray 0))) (out := out) fun v hv => by
      obtain ⟨x, hx, e1, t⟩ := tups v (hb.perm.mem_iff.mp hv)
      exact ⟨x, hx, e1, nsOf_ok t⟩
    have pm := hb.perm.map (nsOf (hp.push (seqObj "list" acc.toList.toArray 0)))
    have ek : acc.toList.map (nsOf (hp.push (seqObj "list" acc.toList.toArray 0))) = xs.map (·.1) := (congrArg (List.map _) hal).trans (List.map_map.trans (List.map_congr_left fun y hy => nsOf_ok ((tupI_sq I1 (d.keys y hy)).keeps fun b o e _ => Heap.get?_push_of_some _ e)))
    rw [ek] at pm
    have asc : Asc (out.map (nsOf (hp.push (seqObj "list" acc.toList.toArray 0)))) := List.pairwise_map.mpr hs
    obtain ⟨e', he'⟩ := PyProof.Rows.sortedHeap_at (vs := acc.toList) (out := out.toArray) hoL
    have hl2 : (bs.map V.ref).length ≤ sizeLine := by
      have q := congrArg List.length eb
      rw [List.length_map] at q ⊢
      rw [← q, hb.perm.length_eq]
      exact hz2
    refine wpAny_pure ⟨_, rfl, .ref hp.objs.size, upd H hp.objs.size (.lst (bs.map V.ref)), I1.laid (t' := tk) (fun b u e => ?_) (Nat.le_refl _) (show ObjOk X.prog X.w _ _ _ (.lst (bs.map V.ref)) from ⟨hl2, bs.map Value.ref, e', vals_refs bs, by rw [← eb]; exact he'⟩), rfl,
      q bs _ _ pm asc pb (I1.hok.fresh (Nat.le_refl _))⟩
    have hlt : b < hp.objs.size := Heap.lt_size e
    rw [PyProof.Rows.sortedHeap_old (Nat.ne_of_lt hlt) (by rw [size_push']; exact Nat.lt_succ_of_lt hlt)]
    exact Heap.get?_push_of_some _ e
/-- dict(pairs) -/
def rDictI (K : PySem.W.Frag) : List V → Hp → VK → Prop := fun vs H Q => ∃ (a : Addr) (ps : List Addr) (es : List (List Int × Addr × V)), vs = [.ref a] ∧ (SqL K H a (ps.map V.ref) ∨ RS.Tp K H a (ps.map V.ref)) ∧
  Paired (fun p e => SqT K H p [.ref e.2.1, e.2.2] ∧ SqT K H e.2.1 (e.1.map V.int)) ps es ∧ es.length ≤ sizeLine ∧
  ∀ ds : DX, Paired (fun (e : List Int × Addr × V) (d : List Int × Addr × Value) => d.1 = e.1 ∧ d.2.1 = e.2.1 ∧ RelV e.2.2 d.2.2) es ds → NewD H (storedAllH [] ds) Q
theorem pairs_at (I : Inv X pins σ H s) : ∀ {ps : List Addr} {es : List (List Int × Addr × V)}, Paired (fun p e => SqT X.K H p [.ref e.2.1, e.2.2] ∧ SqT X.K H e.2.1 (e.1.map V.int)) ps es →
    ∃ ds : DX, Paired (fun (e : List Int × Addr × V) (d : List Int × Addr × Value) => d.1 = e.1 ∧ d.2.1 = e.2.1 ∧ RelV e.2.2 d.2.2) es ds ∧ Paired (fun p (d : List Int × Addr × Value) => PairAt s.heap p (.ref d.2.1) d.2.2 ∧ TupI s.heap (.ref d.2.1) d.1) ps ds
  | _, _, .nil => ⟨[], .nil, .nil⟩
  | _, _, .cons (a := p) (b := e) h t => by
    obtain ⟨ds, r1, r2⟩ := pairs_at I t
    obtain ⟨its, rv, tp, _⟩ := I.tuple h.1
    obtain ⟨u1, u2, eu, a1, a2⟩ := vals2 rv
    subst eu
    cases a1
    exact ⟨(e.1, e.2.1, u2) :: ds, .cons ⟨rfl, rfl, a2⟩ r1, .cons ⟨.inl tp, tupI_sq I h.2⟩ r2⟩
theorem pget2 {α β : Type} {F : α → β → Prop} : ∀ {l : List α} {m : List β} {j : Nat} {y : β}, Paired F l m → m[j]? = some y → ∃ x, l[j]? = some x ∧ F x y
  | _, _, _, _, .nil, e => by simp at e
  | _, _, 0, _, .cons h _, e => by simp at e; subst e; exact ⟨_, rfl, h⟩
  | _, _, j + 1, _, .cons _ t, e => by
    obtain ⟨x, h1, h2⟩ := pget2 (j := j) t (by simpa using e)
    exact ⟨x, by simpa using h1, h2⟩
theorem refs_is : ∀ {ps : List Addr} {us : List Value}, Vals (ps.map V.ref) us → us = ps.map Value.ref
  | [], _, .nil => rfl
  | p :: ps, _, .cons r t => by
    cases r
    rw [refs_is t]; rfl
theorem plain_tp (I : Inv X pins σ H s) {ps : List Addr} (h : RS.Tp X.K H a (ps.map V.ref)) : PlainSeq "tuple" s.heap a (ps.map Value.ref).toArray := by
  rcases h with ⟨o, hd, h⟩ | ⟨o, its, n, h1, h2, h3, h4, h5, h6⟩
  · obtain ⟨g, _, its, rv, o2, g2, hc, n, h4⟩ := (show ObjOk X.prog X.w H s.heap a (.frz o (.tup (ps.map V.ref))) from I.hok a _ h)
    cases g.symm.trans g2
    rw [← refs_is rv]
    exact ⟨o, n, g, hc, hd, h4⟩
  · have e := refs_is h6
    refine ⟨o, n, I.kIn a o h1, h2, h3, ?_⟩
    rw [← e, Array.toArray_toList]; exact h4
theorem cr_dictI (hcalm : X.calm = true) (hu : X.A.units + 64 < cLine) : CallR X (.type "dict") (rDictI X.K) := by
  intro pins s σ H vs us Q I r ⟨a, ps, es, ex, ha, hp, hz, q⟩
  subst ex
  obtain ⟨u, eu, rx⟩ := vals1 r
  subst eu
  cases rx
  obtain ⟨ds, r1, r2⟩ := pairs_at I hp
  have hl : ps.length = ds.length := r2.length
  have hl2 : es.length = ds.length := r1.length
  let prs : List (Value × Value) := ds.map fun d => (.ref d.2.1, d.2.2)
  let Ts : Nat → Addr := fun j => (ps[j]?).getD 0
  have hn : prs.length = ds.length := List.length_map _
  have items : PairItems s.heap (ps.map Value.ref).toArray Ts prs := by
    refine ⟨by rw [List.size_toArray, List.length_map, hl, hn], fun j k v hj => ?_⟩
    have hj : (ds.map fun d => ((Value.ref d.2.1, d.2.2) : Value × Value))[j]? = some (k, v) := hj
    rw [List.getElem?_map] at hj
    obtain ⟨d, hd, e⟩ := Option.map_eq_some_iff.mp hj
    obtain ⟨p, h1, h2, h3⟩ := pget2 r2 hd
    cases e
    have e2 : Ts j = p := by show (ps[j]?).getD 0 = p; rw [h1]; rfl
    refine ⟨by rw [e2, List.getElem?_toArray, List.getElem?_map, h1]; rfl, by rw [e2]; exact h2⟩
  have tups : ∀ x ∈ ds, TupI s.heap (.ref x.2.1) x.1 := fun x hx => by
    obtain ⟨j, hj⟩ := List.getElem?_of_mem hx
    obtain ⟨p, _, _, h3⟩ := pget2 r2 hj
    exact h3
  have hk : PairsHaveH (tk X.prog X.w) prs.length (PairRel prs) ds := ⟨hn.symm, fun i key v e => by
    have e : (ds.map fun d => ((Value.ref d.2.1, d.2.2) : Value × Value))[i]? = some (key, v) := e
    rw [List.getElem?_map] at e
    obtain ⟨d, hd, e2⟩ := Option.map_eq_some_iff.mp e
    cases e2
    exact ⟨d.1, d.2.1, hd, rfl⟩⟩
  have stay : KeysStay (tk X.prog X.w) s.heap s.heap.objs.size [] ds := fun h' keep x hx => by
    obtain ⟨b2, o, ys, n, e, ho, hc, hd, hi⟩ := tups x hx
    cases e
    exact ⟨o, ys, n, keep _ o (Nat.ne_of_lt (Heap.lt_size ho)) (by simp) ho, hc, hd, itemsI hi⟩
  have ne : (s.heap.objs.size == sysModules) = false := beq_eq_false_iff_ne.mpr (Ne.symm (Nat.ne_of_lt I.big))
  have fin : ∀ h' tk', h'.DictOfH (tk X.prog X.w) s.heap.objs.size (storedAllH [] ds) → (∀ b o, b ∉ ([] : List Addr) → s.heap.get? b = some o → h'.get? b = some o) → EP X pins σ Q (.ref s.heap.objs.size) { s with heap := h', toks := tk' } := fun h' tk' dd kp =>
    ⟨.ref s.heap.objs.size, _, I.laid (t' := tk') (fun b o e => kp b o (by simp) e) (Nat.le_refl _) (dx_new ne dd), rfl, q ds r1 _ (I.hok.fresh (Nat.le_refl _))⟩
  have room : (tk X.prog X.w).room X.A.in1.in1 := by show X.A.units + 1 + 1 < cLine; omega
  rcases ha with ha | ha
  · obtain ⟨its, rv, pl, _⟩ := I.list ha
    have e := refs_is rv
    subst e
    obtain ⟨o, n, g, hc, hd, h4⟩ := pl
    exact call_dict_pairsH (PairArg.list a _ Ts prs) (I.ok.hd hcalm) room ⟨⟨o, n, g, hc, hd, h4⟩, items⟩ hk stay (by omega) fin
  · exact call_dict_pairsH (PairArg.tuple a _ Ts prs) (I.ok.hd hcalm) room ⟨plain_tp I ha, items⟩ hk stay (by omega) fin
end
end RSK

/-! RS: values, states, readings. A def's body as a function in passing style; each rule says that the function's way is the def's. -/
namespace RS
open PySem PySem.Spec PyProof.Rows L2

/-- built-in types -/
inductive Ty where
  | int | bool | str | list | tuple | dict | ve | le
def Ty.name : Ty → String
  | .int => "int" | .bool => "bool" | .str => "str" | .list => "list" | .tuple => "tuple" | .dict => "dict" | .ve => "ValueError" | .le => "LookupError"
/-- values: sq false is a tuple, sq true a list that nobody changes; ref: an object of the store -/
inductive G where
  | non | bl (b : Bool) | int (i : Int) | str (x : Str) | ty (t : Ty) | cls (k : Nat) | ref (n : Nat) | sq (l : Bool) (xs : List G)
  /-- the script -/
  | fz (xs : List Int)
  /-- a tuple that is only taken apart -/
  | sw (xs : List G)
/-- objects of the store -/
inductive O where
  | lst (xs : List G)
  | urn (c : Nat)
  /-- a list of ints, not empty -/
  | nums
  | dK (kvs : List (Key × G))
  | dT (kvs : List (List Int × G))
  | ins (k : Nat) (fs : List (Str × G))
structure Sto where
  sz : Nat
  ob : List (Nat × O)
def getO : List (Nat × O) → Nat → Option O
  | [], _ => none
  | p :: r, n => match Nat.beq p.1 n with
    | true => some p.2
    | false => getO r n
def putO : List (Nat × O) → Nat → O → List (Nat × O)
  | [], _, _ => []
  | p :: r, n, o => match Nat.beq p.1 n with
    | true => (n, o) :: r
    | false => p :: putO r n o
def delO : List (Nat × O) → Nat → List (Nat × O)
  | [], _ => []
  | p :: r, n => match Nat.beq p.1 n with
    | true => delO r n
    | false => p :: delO r n
theorem beqN {a b : Nat} : Nat.beq a b = decide (a = b) := by
  by_cases h : a = b
  · subst h; simp
  · rw [decide_eq_false h]; exact Bool.eq_false_iff.mpr fun z => h (Nat.eq_of_beq_eq_true z)
theorem getO_cons (p : Nat × O) (r : List (Nat × O)) (n : Nat) : getO (p :: r) n = if p.1 = n then some p.2 else getO r n := by
  show (match Nat.beq p.1 n with | true => some p.2 | false => getO r n) = _
  rw [beqN]
  by_cases h : p.1 = n
  · simp [h]
  · simp [h]
theorem putO_cons (p : Nat × O) (r : List (Nat × O)) (n : Nat) (o : O) : putO (p :: r) n o = if p.1 = n then (n, o) :: r else p :: putO r n o := by
  show (match Nat.beq p.1 n with | true => (n, o) :: r | false => p :: putO r n o) = _
  rw [beqN]
  by_cases h : p.1 = n
  · simp [h]
  · simp [h]
theorem delO_cons (p : Nat × O) (r : List (Nat × O)) (n : Nat) : delO (p :: r) n = if p.1 = n then delO r n else p :: delO r n := by
  show (match Nat.beq p.1 n with | true => delO r n | false => p :: delO r n) = _
  rw [beqN]
  by_cases h : p.1 = n
  · simp [h]
  · simp [h]
theorem getO_put (n m : Nat) (o : O) : ∀ l : List (Nat × O), getO (putO l n o) m = if m = n then (getO l n).map (fun _ => o) else getO l m
  | [] => by by_cases h : m = n <;> simp [putO, getO, h]
  | p :: r => by
    have ih := getO_put n m o r
    rw [putO_cons]
    by_cases h : p.1 = n
    · rw [if_pos h, getO_cons, getO_cons, getO_cons]
      by_cases q : m = n
      · subst q; simp [h]
      · have : ¬ n = m := fun e => q e.symm
        have h2 : ¬ p.1 = m := fun e => q (e.symm.trans h)
        simp [q, this, h2]
    · rw [if_neg h, getO_cons, ih, getO_cons, getO_cons]
      by_cases q : m = n
      · subst q
        have h2 : ¬ p.1 = m := h
        simp [h2]
      · simp [q]
theorem getO_del (n m : Nat) : ∀ l : List (Nat × O), getO (delO l n) m = if m = n then none else getO l m
  | [] => by by_cases h : m = n <;> simp [delO, getO, h]
  | p :: r => by
    have ih := getO_del n m r
    rw [delO_cons]
    by_cases h : p.1 = n
    · rw [if_pos h, ih, getO_cons]
      by_cases q : m = n
      · simp [q]
      · have h2 : ¬ p.1 = m := fun e => q (e.symm.trans h)
        simp [q, h2]
    · rw [if_neg h, getO_cons, ih, getO_cons]
      by_cases q : m = n
      · subst q
        have h2 : ¬ p.1 = m := h
        simp [h2]
      · simp [q]

/-! ### the ghost: where the store's objects lie, which lists stay as they are -/
structure Gh where
  sz : Nat
  at_ : Nat → Addr
  F : Addr → Prop
  /-- lists that nobody sees yet -/
  P : Addr → Prop
/-- what stays from one moment to a later one -/
structure FutR (g : Gh) (H : Hp) (g' : Gh) (H' : Hp) : Prop where
  sz : g.sz ≤ g'.sz
  at_ : ∀ n, n < g.sz → g'.at_ n = g.at_ n
  F : ∀ a, g.F a → g'.F a
  lst : ∀ a vs, g.F a → H a = some (.lst vs) → H' a = some (.lst vs)
  tup : ∀ a vs, H a = some (.tup vs) → H' a = some (.tup vs)
  frz : ∀ a o u, H a = some (.frz o u) → H' a = some (.frz o u)
  there : ∀ a, H a ≠ none → H' a ≠ none
structure Fut (g : Gh) (H : Hp) (g' : Gh) (H' : Hp) : Prop extends FutR g H g' H' where
  P : ∀ a, g.P a → g'.P a
  pin : ∀ a vs, g.P a → H a = some (.lst vs) → H' a = some (.lst vs)
theorem FutR.refl {g : Gh} {H : Hp} : FutR g H g H := ⟨Nat.le_refl _, fun _ _ => rfl, fun _ h => h, fun _ _ _ h => h, fun _ _ h => h, fun _ _ _ h => h, fun _ h => h⟩
theorem Fut.refl {g : Gh} {H : Hp} : Fut g H g H := ⟨.refl, fun _ h => h, fun _ _ _ h => h⟩
theorem FutR.trans {g1 g2 g3 : Gh} {H1 H2 H3 : Hp} (a : FutR g1 H1 g2 H2) (b : FutR g2 H2 g3 H3) : FutR g1 H1 g3 H3 :=
  ⟨Nat.le_trans a.sz b.sz, fun n h => (b.at_ n (Nat.lt_of_lt_of_le h a.sz)).trans (a.at_ n h), fun x h => b.F x (a.F x h), fun x vs h r => b.lst x vs (a.F x h) (a.lst x vs h r), fun x vs r => b.tup x vs (a.tup x vs r), fun x o u r => b.frz x o u (a.frz x o u r), fun x h => b.there x (a.there x h)⟩
theorem Fut.trans {g1 g2 g3 : Gh} {H1 H2 H3 : Hp} (a : Fut g1 H1 g2 H2) (b : Fut g2 H2 g3 H3) : Fut g1 H1 g3 H3 :=
  ⟨a.toFutR.trans b.toFutR, fun x h => b.P x (a.P x h), fun x vs h r => b.pin x vs (a.P x h) (a.pin x vs h r)⟩

/-- the script as it lies -/
def Fz (K : PySem.W.Frag) (H : Hp) (a : Addr) (vs : List V) : Prop := (∃ o, H a = some (.frz o (.lst vs))) ∨
    ∃ (o : Obj) (its : Array Value) (n : Nat), K.lookup a = some o ∧ o.cls = .type "list" ∧ o.dict = none ∧ o.data = .seq its n ∧ its.size ≤ sizeLine ∧ Vals vs its.toList
theorem Fz.sq {K : PySem.W.Frag} {H : Hp} {a : Addr} {xs : List V} (h : Fz K H a xs) : SqL K H a xs := by
  rcases h with ⟨o, h⟩ | h
  · exact .inl (.inr ⟨o, h⟩)
  · exact .inr h
section
variable (K : PySem.W.Frag) (cl : Nat → Addr) (g : Gh) (H : Hp)
mutual
/-- a value stands for another one -/
inductive Rp : G → V → Prop
  | non : Rp .non .non
  | bl (b : Bool) : Rp (.bl b) (.bl b)
  | int (i : Int) : Rp (.int i) (.int i)
  | str (x : Str) : Rp (.str x) (.str x)
  | ty (t : Ty) : Rp (.ty t) (.ty t.name)
  | cls (k : Nat) : Rp (.cls k) (.ref (cl k))
  | ref (n : Nat) (h : n < g.sz) : Rp (.ref n) (.ref (g.at_ n))
  | tup {a : Addr} {xs : List G} {vs : List V} (h : Tp K H a vs) (r : RpL xs vs) : Rp (.sq false xs) (.ref a)
  | lst {a : Addr} {xs : List G} {vs : List V} (f : g.F a) (h : H a = some (.lst vs)) (r : RpL xs vs) : Rp (.sq true xs) (.ref a)
  | fz {a : Addr} {xs : List Int} (h : Fz K H a (xs.map V.int)) : Rp (.fz xs) (.ref a)
  | sw {a : Addr} {xs : List G} {vs : List V} (h : H a = some (.tup vs)) (r : RpL xs vs) : Rp (.sw xs) (.ref a)
inductive RpL : List G → List V → Prop
  | nil : RpL [] []
  | cons {x : G} {v : V} {xs : List G} {vs : List V} (h : Rp x v) (r : RpL xs vs) : RpL (x :: xs) (v :: vs)
end
end
section
variable {K : PySem.W.Frag} {cl : Nat → Addr} {g g' : Gh} {H H' : Hp}
theorem Tp.futR (f : FutR g H g' H') {a : Addr} {vs : List V} (h : Tp K H a vs) : Tp K H' a vs := by
  rcases h with ⟨o, z, h⟩ | h
  · exact .inl ⟨o, z, f.frz _ _ _ h⟩
  · exact .inr h
theorem Fz.futR (f : FutR g H g' H') {a : Addr} {vs : List V} (h : Fz K H a vs) : Fz K H' a vs := by
  rcases h with ⟨o, h⟩ | h
  · exact .inl ⟨o, f.frz _ _ _ h⟩
  · exact .inr h
mutual
theorem Rp.futR (f : FutR g H g' H') : ∀ {x : G} {v : V}, Rp K cl g H x v → Rp K cl g' H' x v
  | _, _, .non => .non
  | _, _, .bl b => .bl b
  | _, _, .int i => .int i
  | _, _, .str x => .str x
  | _, _, .ty n => .ty n
  | _, _, .cls k => .cls k
  | _, _, .ref n h => by
    rw [← f.at_ n h]
    exact .ref n (Nat.lt_of_lt_of_le h f.sz)
  | _, _, .tup h r => .tup (Tp.futR f h) (RpL.futR f r)
  | _, _, .lst x h r => .lst (f.F _ x) (f.lst _ _ x h) (RpL.futR f r)
  | _, _, .fz h => .fz (Fz.futR f h)
  | _, _, .sw h r => .sw (f.tup _ _ h) (RpL.futR f r)
theorem RpL.futR (f : FutR g H g' H') : ∀ {xs : List G} {vs : List V}, RpL K cl g H xs vs → RpL K cl g' H' xs vs
  | _, _, .nil => .nil
  | _, _, .cons h r => .cons (Rp.futR f h) (RpL.futR f r)
end
theorem Tp.fut (f : Fut g H g' H') {a : Addr} {vs : List V} (h : Tp K H a vs) : Tp K H' a vs := h.futR f.toFutR
theorem Rp.fut (f : Fut g H g' H') {x : G} {v : V} (h : Rp K cl g H x v) : Rp K cl g' H' x v := h.futR f.toFutR
theorem RpL.fut (f : Fut g H g' H') {x : List G} {v : List V} (h : RpL K cl g H x v) : RpL K cl g' H' x v := h.futR f.toFutR
theorem RpL.length : ∀ {xs : List G} {vs : List V}, RpL K cl g H xs vs → xs.length = vs.length
  | _, _, .nil => rfl
  | _, _, .cons _ r => congrArg (· + 1) r.length
theorem RpL.get : ∀ {xs : List G} {vs : List V} {i : Nat} {x : G}, RpL K cl g H xs vs → xs[i]? = some x → ∃ v, vs[i]? = some v ∧ Rp K cl g H x v
  | _, _, _, _, .nil, e => by simp at e
  | _, _, 0, _, .cons h _, e => by simp at e; subst e; exact ⟨_, rfl, h⟩
  | _, _, i + 1, _, .cons _ r, e => by
    obtain ⟨v, h1, h2⟩ := RpL.get (i := i) r (by simpa using e)
    exact ⟨v, by simpa using h1, h2⟩
theorem RpL.getV : ∀ {xs : List G} {vs : List V} {i : Nat} {v : V}, RpL K cl g H xs vs → vs[i]? = some v → ∃ x, xs[i]? = some x ∧ Rp K cl g H x v
  | _, _, _, _, .nil, e => by simp at e
  | _, _, 0, _, .cons h _, e => by simp at e; subst e; exact ⟨_, rfl, h⟩
  | _, _, i + 1, _, .cons _ r, e => by
    obtain ⟨v, h1, h2⟩ := RpL.getV (i := i) r (by simpa using e)
    exact ⟨v, by simpa using h1, h2⟩
theorem RpL.append : ∀ {xs ys : List G} {vs us : List V}, RpL K cl g H xs vs → RpL K cl g H ys us → RpL K cl g H (xs ++ ys) (vs ++ us)
  | _, _, _, _, .nil, s => s
  | _, _, _, _, .cons h r, s => .cons h (RpL.append r s)
theorem RpL.take : ∀ {xs : List G} {vs : List V} (n : Nat), RpL K cl g H xs vs → RpL K cl g H (xs.take n) (vs.take n)
  | _, _, 0, _ => .nil
  | _, _, _ + 1, .nil => .nil
  | _, _, n + 1, .cons h r => .cons h (RpL.take n r)
theorem RpL.drop : ∀ {xs : List G} {vs : List V} (n : Nat), RpL K cl g H xs vs → RpL K cl g H (xs.drop n) (vs.drop n)
  | _, _, 0, r => r
  | _, _, _ + 1, .nil => .nil
  | _, _, n + 1, .cons _ r => RpL.drop n r
theorem RpL.reverse : ∀ {xs : List G} {vs : List V}, RpL K cl g H xs vs → RpL K cl g H xs.reverse vs.reverse
  | _, _, .nil => .nil
  | _, _, .cons h r => by
    rw [List.reverse_cons, List.reverse_cons]
    exact RpL.append (RpL.reverse r) (.cons h .nil)
theorem RpL.set {y : G} {u : V} (q : Rp K cl g H y u) : ∀ {xs : List G} {vs : List V} (i : Nat), RpL K cl g H xs vs → RpL K cl g H (xs.set i y) (vs.set i u)
  | _, _, _, .nil => .nil
  | _, _, 0, .cons _ r => .cons q r
  | _, _, i + 1, .cons h r => .cons h (RpL.set q i r)
theorem rd_ne {H : Hp} {a : Addr} {u : HO} (h : Rd H a u) : H a ≠ none := by
  rcases h with h | ⟨o, h⟩ <;> rw [h] <;> simp
end

section
variable (K : PySem.W.Frag) (cl : Nat → Addr) (g : Gh) (H : Hp)
def RpD {κ : Type} : List (κ × G) → List (κ × V) → Prop := Paired fun p q => p.1 = q.1 ∧ Rp K cl g H p.2 q.2
/-- a dict of int tuples beside its entries -/
def RpX : List (List Int × G) → RSK.DX → Prop := Paired fun p q => p.1 = q.1 ∧ Tp K H q.2.1 (p.1.map V.int) ∧ ∃ v, RelV v q.2.2 ∧ Rp K cl g H p.2 v
def RpO (a : Addr) : O → HO → Prop
  | .lst xs, h => ∃ vs, h = .lst vs ∧ RpL K cl g H xs vs
  | .urn c, h => ∃ x y z : Int, h = .lst [.int x, .int y, .int z] ∧ 0 ≤ x ∧ 0 ≤ y ∧ y < 2 ^ 63 ∧ 0 ≤ z ∧ z ≤ c
  | .nums, h => ∃ n : Int, ∃ ns : List Int, h = .lst ((n :: ns).map V.int)
  | .dK kvs, h => ∃ ks, h = .dK ks ∧ RpD K cl g H kvs ks
  | .dT kvs, h => ∃ xs, h = RSK.dxO a xs ∧ (kvs.map (·.1)).Nodup ∧ kvs.length < sizeLine ∧ RpX K cl g H kvs xs
  | .ins k fs, h => ∃ dx ks, h = .ins (cl k) dx ks ∧ RpD K cl g H fs ks
/-- the store as it lies -/
structure StOk (st : Sto) : Prop where
  sz : st.sz = g.sz
  ob : ∀ n o, getO st.ob n = some o → n < g.sz ∧ ¬ g.F (g.at_ n) ∧ ∃ h, H (g.at_ n) = some h ∧ RpO K cl g H (g.at_ n) o h
  inj : ∀ n m o o', getO st.ob n = some o → getO st.ob m = some o' → g.at_ n = g.at_ m → n = m
  fz : ∀ a, g.F a → ∃ vs, H a = some (.lst vs)
  pob : ∀ n o, getO st.ob n = some o → ¬ g.P (g.at_ n)
  pz : ∀ a, g.P a → ∃ vs, H a = some (.lst vs)
  pf : ∀ a, g.P a → ¬ g.F a
end
section
variable {K : PySem.W.Frag} {cl : Nat → Addr} {g g' : Gh} {H H' : Hp}
theorem RpD.futR {κ : Type} (f : FutR g H g' H') {kvs : List (κ × G)} {ks : List (κ × V)} (r : RpD K cl g H kvs ks) : RpD K cl g' H' kvs ks := Paired.mapP r fun _ _ z => ⟨z.1, z.2.futR f⟩
theorem RpX.futR (f : FutR g H g' H') {kvs : List (List Int × G)} {xs : RSK.DX} (r : RpX K cl g H kvs xs) : RpX K cl g' H' kvs xs := Paired.mapP r fun _ _ ⟨z1, z2, v, z3, z4⟩ => ⟨z1, z2.futR f, v, z3, z4.futR f⟩
theorem RpO.futR (f : FutR g H g' H') {a : Addr} {o : O} {h : HO} (r : RpO K cl g H a o h) : RpO K cl g' H' a o h := by
  cases o with
  | lst xs => obtain ⟨vs, e, r⟩ := r; exact ⟨vs, e, r.futR f⟩
  | urn c => exact r
  | nums => exact r
  | dK kvs => obtain ⟨ks, e, r⟩ := r; exact ⟨ks, e, r.futR f⟩
  | dT kvs => obtain ⟨ks, e, nd, z, r⟩ := r; exact ⟨ks, e, nd, z, RpX.futR f r⟩
  | ins k fs => obtain ⟨dx, ks, e, r⟩ := r; exact ⟨dx, ks, e, r.futR f⟩
theorem RpD.fut {κ : Type} (f : Fut g H g' H') {kvs : List (κ × G)} {ks : List (κ × V)} (r : RpD K cl g H kvs ks) : RpD K cl g' H' kvs ks := r.futR f.toFutR
theorem RpO.fut (f : Fut g H g' H') {a : Addr} {o : O} {h : HO} (r : RpO K cl g H a o h) : RpO K cl g' H' a o h := r.futR f.toFutR
theorem rd_upd {H : Hp} {a p : Addr} {o u : HO} (h : Rd H a u) (hp : H p = none) : Rd (upd H p o) a u := by
  have ne : a ≠ p := fun e => rd_ne h (e ▸ hp)
  rcases h with h | ⟨b, h⟩
  · exact .inl (by rw [upd_ne ne]; exact h)
  · exact .inr ⟨b, by rw [upd_ne ne]; exact h⟩
theorem upd_old {H : Hp} {a p : Addr} {o u : HO} (h : H a = some u) (hp : H p = none) : upd H p o a = some u := by
  rw [upd_ne fun e => by rw [e, hp] at h; cases h]; exact h
/-- a new thing is tracked -/
theorem Fut.new {p : Addr} {o : HO} (hp : H p = none) : Fut g H g (upd H p o) :=
  ⟨⟨Nat.le_refl _, fun _ _ => rfl, fun _ h => h, fun _ _ _ h => upd_old h hp, fun _ _ h => upd_old h hp, fun _ _ _ h => upd_old h hp, fun a h => by
    by_cases e : a = p
    · subst e; rw [upd_same]; simp
    · rw [upd_ne e]; exact h⟩, fun _ h => h, fun _ _ _ h => upd_old h hp⟩
theorem StOk.fut {st : Sto} (s : StOk K cl g H st) {H' : Hp} (f : Fut g H g H') (k : ∀ n o, getO st.ob n = some o → H' (g.at_ n) = H (g.at_ n)) : StOk K cl g H' st :=
  ⟨s.sz, fun n o e => by
    obtain ⟨h1, h2, h, h3, h4⟩ := s.ob n o e
    exact ⟨h1, h2, h, by rw [k n o e]; exact h3, h4.fut f⟩, s.inj, fun a ha => by
    obtain ⟨vs, h⟩ := s.fz a ha
    exact ⟨vs, f.lst a vs ha h⟩, s.pob, fun a ha => by
    obtain ⟨vs, h⟩ := s.pz a ha
    exact ⟨vs, f.pin a vs ha h⟩, s.pf⟩
theorem StOk.new {st : Sto} (s : StOk K cl g H st) {p : Addr} {o : HO} (hp : H p = none) : StOk K cl g (upd H p o) st :=
  s.fut (Fut.new hp) fun n u e => by
    obtain ⟨_, _, h, h3, _⟩ := s.ob n u e
    exact upd_ne fun z => by rw [z, hp] at h3; cases h3
/-- a new list that stays as it is -/
def Gh.fix (g : Gh) (p : Addr) : Gh := { g with F := fun a => g.F a ∨ a = p }
theorem Fut.fix {p : Addr} {vs : List V} (hp : H p = none) : Fut g H (g.fix p) (upd H p (.lst vs)) :=
  ⟨⟨Nat.le_refl _, fun _ _ => rfl, fun _ h => .inl h, fun _ _ _ h => upd_old h hp, fun _ _ h => upd_old h hp, fun _ _ _ h => upd_old h hp, (Fut.new (g := g) hp).there⟩, fun _ h => h, fun _ _ _ h => upd_old h hp⟩
theorem StOk.fix {st : Sto} (s : StOk K cl g H st) {p : Addr} {vs : List V} (hp : H p = none) : StOk K cl (g.fix p) (upd H p (.lst vs)) st := by
  have f : Fut g H (g.fix p) (upd H p (.lst vs)) := Fut.fix hp
  refine ⟨s.sz, fun n o e => ?_, s.inj, fun a ha => ?_, s.pob, fun a ha => ?_, fun a ha z => ?_⟩
  rotate_left 2
  · obtain ⟨ws, h⟩ := s.pz a ha
    exact ⟨ws, upd_old h hp⟩
  · rcases z with z | z
    · exact s.pf a ha z
    · obtain ⟨ws, h⟩ := s.pz a ha
      rw [z, hp] at h; cases h
  · obtain ⟨h1, h2, h, h3, h4⟩ := s.ob n o e
    have ne : g.at_ n ≠ p := fun z => by rw [z, hp] at h3; cases h3
    refine ⟨h1, fun z => z.elim h2 ne, h, ?_, h4.fut f⟩
    show upd H p _ (g.at_ n) = some h
    rw [upd_ne ne]; exact h3
  · rcases ha with ha | ha
    · obtain ⟨ws, h⟩ := s.fz a ha
      exact ⟨ws, upd_old h hp⟩
    · subst ha; exact ⟨vs, upd_same⟩
/-- a new object of the store -/
def Sto.add (st : Sto) (o : O) : Sto := ⟨st.sz + 1, (st.sz, o) :: st.ob⟩
def Gh.add (g : Gh) (p : Addr) : Gh := { g with sz := g.sz + 1, at_ := fun n => if n = g.sz then p else g.at_ n }
theorem Fut.add {p : Addr} {o : HO} (hp : H p = none) : Fut g H (g.add p) (upd H p o) :=
  ⟨⟨Nat.le_succ _, fun n h => if_neg (Nat.ne_of_lt h), fun _ h => h, fun _ _ _ h => upd_old h hp, fun _ _ h => upd_old h hp, fun _ _ _ h => upd_old h hp, (Fut.new (g := g) hp).there⟩, fun _ h => h, fun _ _ _ h => upd_old h hp⟩
theorem StOk.add {st : Sto} (s : StOk K cl g H st) {p : Addr} {h : HO} {o : O} (hp : H p = none) (r : RpO K cl (g.add p) (upd H p h) p o h) : StOk K cl (g.add p) (upd H p h) (st.add o) := by
  have f : Fut g H (g.add p) (upd H p h) := Fut.add hp
  have nF : ¬ g.F p := fun z => by
    obtain ⟨vs, q⟩ := s.fz p z
    rw [q] at hp; cases hp
  have ge : ∀ n u, getO (st.add o).ob n = some u → (n = g.sz ∧ u = o) ∨ (n ≠ g.sz ∧ getO st.ob n = some u) := fun n u e => by
    have e : getO ((st.sz, o) :: st.ob) n = some u := e
    rw [getO_cons] at e
    by_cases q : st.sz = n
    · rw [if_pos q] at e
      exact .inl ⟨(s.sz.symm.trans q).symm, (Option.some.inj e).symm⟩
    · rw [if_neg q] at e
      exact .inr ⟨fun z => q (s.sz.trans z.symm), e⟩
  have atn : ∀ n, n ≠ g.sz → (g.add p).at_ n = g.at_ n := fun n h => if_neg h
  have ats : (g.add p).at_ g.sz = p := if_pos rfl
  refine ⟨congrArg (· + 1) s.sz, fun n u e => ?_, fun n m u u' e e' q => ?_, fun a ha => ?_, fun n u e z => ?_, fun a ha => ?_, s.pf⟩
  rotate_left 3
  · have z : g.P ((g.add p).at_ n) := z
    rcases ge n u e with ⟨rfl, rfl⟩ | ⟨hn, e⟩
    · rw [ats] at z
      obtain ⟨ws, h⟩ := s.pz p z
      rw [hp] at h; cases h
    · rw [atn n hn] at z
      exact s.pob n u e z
  · obtain ⟨ws, h⟩ := s.pz a ha
    exact ⟨ws, upd_old h hp⟩
  · rcases ge n u e with ⟨rfl, rfl⟩ | ⟨hn, e⟩
    · refine ⟨Nat.lt_succ_self _, ?_, h, ?_, ?_⟩
      · rw [ats]; exact nF
      · rw [ats]; exact upd_same
      · rw [ats]; exact r
    · obtain ⟨h1, h2, w, h3, h4⟩ := s.ob n u e
      have ne : g.at_ n ≠ p := fun z => by rw [z, hp] at h3; cases h3
      refine ⟨Nat.lt_succ_of_lt h1, ?_, w, ?_, ?_⟩
      · rw [atn n hn]; exact h2
      · rw [atn n hn, upd_ne ne]; exact h3
      · rw [atn n hn]; exact h4.fut f
  · rcases ge n u e with ⟨h1, _⟩ | ⟨h1, e1⟩ <;> rcases ge m u' e' with ⟨h2, _⟩ | ⟨h2, e2⟩
    · rw [h1, h2]
    · subst h1
      rw [ats, atn m h2] at q
      obtain ⟨_, _, w, h3, _⟩ := s.ob m u' e2
      rw [← q, hp] at h3; cases h3
    · subst h2
      rw [ats, atn n h1] at q
      obtain ⟨_, _, w, h3, _⟩ := s.ob n u e1
      rw [q, hp] at h3; cases h3
    · rw [atn n h1, atn m h2] at q
      exact s.inj n m u u' e1 e2 q
  · obtain ⟨ws, q⟩ := s.fz a ha
    exact ⟨ws, upd_old q hp⟩
/-- an object of the store is written -/
def Sto.put (st : Sto) (n : Nat) (o : O) : Sto := { st with ob := putO st.ob n o }
theorem rd_write {H : Hp} {a x : Addr} {o u : HO} (h : Rd H a u) (ne : a ≠ x) : Rd (upd H x o) a u := by
  rcases h with h | ⟨b, h⟩
  · exact .inl (by rw [upd_ne ne]; exact h)
  · exact .inr ⟨b, by rw [upd_ne ne]; exact h⟩
/-- no tuple, nothing locked -/
def Wr : HO → Prop
  | .lst _ => True
  | .dK _ => True
  | .dT _ => True
  | .ins _ _ _ => True
  | .ext _ => True
  | _ => False
theorem wr_rd {H : Hp} {a x : Addr} {w : HO} {vs : List V} (hw : Wr w) (hx : H x = some w) (h : Rd H a (.tup vs)) : a ≠ x := by
  rintro rfl
  rcases h with h | ⟨b, h⟩ <;> rw [hx] at h <;> cases h <;> exact hw
theorem Fut.write {st : Sto} (s : StOk K cl g H st) {n : Nat} {o : O} {w w' : HO} (e : getO st.ob n = some o) (hx : H (g.at_ n) = some w) (hw : Wr w) : Fut g H g (upd H (g.at_ n) w') :=
  ⟨⟨Nat.le_refl _, fun _ _ => rfl, fun _ h => h, fun a vs f h => by
    have ne : a ≠ g.at_ n := fun z => (s.ob n o e).2.1 (by rw [← z]; exact f)
    rw [upd_ne ne]; exact h, fun a vs h => by
    have ne : a ≠ g.at_ n := fun z => by rw [z, hx] at h; cases h; exact hw
    rw [upd_ne ne]; exact h, fun a ob u h => by
    have ne : a ≠ g.at_ n := fun z => by rw [z, hx] at h; cases h; exact hw
    rw [upd_ne ne]; exact h, fun a h => by
    by_cases e : a = g.at_ n
    · subst e; rw [upd_same]; simp
    · rw [upd_ne e]; exact h⟩, fun _ h => h, fun a vs p h => by
    have ne : a ≠ g.at_ n := fun z => s.pob n o e (by rw [← z]; exact p)
    rw [upd_ne ne]; exact h⟩
theorem StOk.write {st : Sto} (s : StOk K cl g H st) {n : Nat} {o o' : O} {w w' : HO} (e : getO st.ob n = some o) (hx : H (g.at_ n) = some w) (hw : Wr w) (r : RpO K cl g (upd H (g.at_ n) w') (g.at_ n) o' w') : StOk K cl g (upd H (g.at_ n) w') (st.put n o') := by
  have f : Fut g H g (upd H (g.at_ n) w') := Fut.write s e hx hw
  have ge : ∀ m u, getO (st.put n o').ob m = some u → (m = n ∧ u = o') ∨ (m ≠ n ∧ getO st.ob m = some u) := fun m u q => by
    have q : getO (putO st.ob n o') m = some u := q
    rw [getO_put] at q
    by_cases z : m = n
    · rw [if_pos z, e] at q
      exact .inl ⟨z, (Option.some.inj q).symm⟩
    · rw [if_neg z] at q
      exact .inr ⟨z, q⟩
  obtain ⟨b1, b2, _⟩ := s.ob n o e
  refine ⟨s.sz, fun m u q => ?_, fun m m' u u' q q' z => ?_, fun a ha => ?_, fun m u q => ?_, fun a ha => ?_, s.pf⟩
  rotate_left 3
  · rcases ge m u q with ⟨rfl, _⟩ | ⟨_, q⟩
    · exact s.pob m o e
    · exact s.pob m u q
  · obtain ⟨ws, q⟩ := s.pz a ha
    exact ⟨ws, f.pin a ws ha q⟩
  · rcases ge m u q with ⟨rfl, rfl⟩ | ⟨hm, q⟩
    · exact ⟨b1, b2, w', upd_same, r⟩
    · obtain ⟨h1, h2, h, h3, h4⟩ := s.ob m u q
      refine ⟨h1, h2, h, ?_, h4.fut f⟩
      rw [upd_ne fun z => hm (s.inj m n u o q e z)]; exact h3
  · have old : ∀ m u, getO (st.put n o').ob m = some u → ∃ u, getO st.ob m = some u := fun m u q => by
      rcases ge m u q with ⟨rfl, _⟩ | ⟨_, q⟩
      · exact ⟨o, e⟩
      · exact ⟨u, q⟩
    obtain ⟨_, q1⟩ := old m u q
    obtain ⟨_, q2⟩ := old m' u' q'
    exact s.inj m m' _ _ q1 q2 z
  · obtain ⟨ws, q⟩ := s.fz a ha
    exact ⟨ws, f.lst a ws ha q⟩
/-- a list of the store is left as it is from now on -/
def Sto.del (st : Sto) (n : Nat) : Sto := { st with ob := delO st.ob n }
theorem StOk.freeze {st : Sto} (s : StOk K cl g H st) {n : Nat} {xs : List G} (e : getO st.ob n = some (.lst xs)) : Fut g H (g.fix (g.at_ n)) H ∧ StOk K cl (g.fix (g.at_ n)) H (st.del n) ∧ Rp K cl (g.fix (g.at_ n)) H (.sq true xs) (.ref (g.at_ n)) := by
  obtain ⟨h1, h2, h, h3, vs, rfl, h4⟩ := s.ob n _ e
  have f : Fut g H (g.fix (g.at_ n)) H := ⟨⟨Nat.le_refl _, fun _ _ => rfl, fun _ h => .inl h, fun _ _ _ h => h, fun _ _ h => h, fun _ _ _ h => h, fun _ h => h⟩, fun _ h => h, fun _ _ _ h => h⟩
  refine ⟨f, ⟨s.sz, fun m u q => ?_, fun m m' u u' q q' z => ?_, fun a ha => ?_, fun m u q => ?_, s.pz, fun a ha z => z.elim (s.pf a ha) fun z => s.pob n _ e (by rw [← (show _ = g.at_ n from z)]; exact ha)⟩, .lst (.inr rfl) h3 (h4.fut f)⟩
  · have q : getO (delO st.ob n) m = some u := q
    rw [getO_del] at q
    by_cases z : m = n
    · rw [if_pos z] at q; cases q
    · rw [if_neg z] at q
      obtain ⟨k1, k2, w, k3, k4⟩ := s.ob m u q
      exact ⟨k1, fun y => y.elim k2 fun y => z (s.inj m n u _ q e y), w, k3, k4.fut f⟩
  · have q : getO (delO st.ob n) m = some u := q
    have q' : getO (delO st.ob n) m' = some u' := q'
    rw [getO_del] at q q'
    by_cases z1 : m = n
    · rw [if_pos z1] at q; cases q
    · by_cases z2 : m' = n
      · rw [if_pos z2] at q'; cases q'
      · rw [if_neg z1] at q
        rw [if_neg z2] at q'
        exact s.inj m m' u u' q q' z
  · rcases ha with ha | ha
    · exact s.fz a ha
    · subst ha; exact ⟨vs, h3⟩
  · have q : getO (delO st.ob n) m = some u := q
    rw [getO_del] at q
    by_cases z : m = n
    · rw [if_pos z] at q; cases q
    · rw [if_neg z] at q
      exact s.pob m u q

/-! ### a list that nobody sees yet -/
def Gh.pin (g : Gh) (D : Addr) : Gh := { g with P := fun a => g.P a ∨ a = D }
def Gh.unpin (g : Gh) (D : Addr) : Gh := { g with P := fun a => g.P a ∧ a ≠ D }
theorem FutR.unpin {D : Addr} : FutR g H (g.unpin D) H := ⟨Nat.le_refl _, fun _ _ => rfl, fun _ h => h, fun _ _ _ h => h, fun _ _ h => h, fun _ _ _ h => h, fun _ h => h⟩
theorem pin_new {st : Sto} (s : StOk K cl g H st) {D : Addr} {vs : List V} (hp : H D = none) : FutR g H (g.pin D) (upd H D (.lst vs)) ∧ StOk K cl (g.pin D) (upd H D (.lst vs)) st ∧ Fut g H ((g.pin D).unpin D) (upd H D (.lst vs)) := by
  have f : Fut g H g (upd H D (.lst vs)) := Fut.new hp
  have nP : ¬ g.P D := fun z => by
    obtain ⟨ws, h⟩ := s.pz D z
    rw [hp] at h; cases h
  have nF : ¬ g.F D := fun z => by
    obtain ⟨ws, h⟩ := s.fz D z
    rw [hp] at h; cases h
  have s' : StOk K cl g (upd H D (.lst vs)) st := s.new hp
  have f2 : FutR g H (g.pin D) (upd H D (.lst vs)) := ⟨f.sz, f.at_, f.F, f.lst, f.tup, f.frz, f.there⟩
  have f3 : FutR g (upd H D (.lst vs)) (g.pin D) (upd H D (.lst vs)) := ⟨Nat.le_refl _, fun _ _ => rfl, fun _ h => h, fun _ _ _ h => h, fun _ _ h => h, fun _ _ _ h => h, fun _ h => h⟩
  refine ⟨f2, ⟨s'.sz, fun n o e => ?_, s'.inj, s'.fz, fun n o e z => ?_, fun a ha => ?_, fun a ha z => ?_⟩, ⟨⟨f.sz, f.at_, f.F, f.lst, f.tup, f.frz, f.there⟩, fun a h => ⟨.inl h, fun e => nP (e ▸ h)⟩, f.pin⟩⟩
  · obtain ⟨h1, h2, h, h3, h4⟩ := s'.ob n o e
    exact ⟨h1, h2, h, h3, h4.futR f3⟩
  · rcases z with z | z
    · exact s.pob n o e z
    · have z : g.at_ n = D := z
      obtain ⟨_, _, h, h3, _⟩ := s.ob n o e
      rw [z, hp] at h3; cases h3
  · rcases ha with ha | ha
    · exact s'.pz a ha
    · subst ha; exact ⟨vs, upd_same⟩
  · rcases ha with ha | ha
    · exact s.pf a ha z
    · subst ha; exact nF z
/-- it is written -/
theorem pin_write {st : Sto} (s : StOk K cl g H st) {D : Addr} {vs ws : List V} (hP : g.P D) (hD : H D = some (.lst vs)) : FutR g H g (upd H D (.lst ws)) ∧ StOk K cl g (upd H D (.lst ws)) st ∧ Fut (g.unpin D) H (g.unpin D) (upd H D (.lst ws)) := by
  have ne : ∀ a, g.F a → a ≠ D := fun a h e => s.pf D hP (e ▸ h)
  have f : FutR g H g (upd H D (.lst ws)) := ⟨Nat.le_refl _, fun _ _ => rfl, fun _ h => h, fun a us h q => by rw [upd_ne (ne a h)]; exact q, fun a us q => by
    rw [upd_ne fun e => by rw [e, hD] at q; cases q]; exact q, fun a o u q => by
    rw [upd_ne fun e => by rw [e, hD] at q; cases q]; exact q, fun a q => by
    by_cases e : a = D
    · subst e; rw [upd_same]; simp
    · rw [upd_ne e]; exact q⟩
  refine ⟨f, ⟨s.sz, fun n o e => ?_, s.inj, fun a ha => ?_, s.pob, fun a ha => ?_, s.pf⟩, ⟨⟨f.sz, f.at_, f.F, f.lst, f.tup, f.frz, f.there⟩, fun _ h => h, fun a us h q => by rw [upd_ne h.2]; exact q⟩⟩
  · obtain ⟨h1, h2, h, h3, h4⟩ := s.ob n o e
    refine ⟨h1, h2, h, ?_, h4.futR f⟩
    rw [upd_ne fun z => s.pob n o e (by rw [z]; exact hP)]; exact h3
  · obtain ⟨us, h⟩ := s.fz a ha
    exact ⟨us, by rw [upd_ne (ne a ha)]; exact h⟩
  · by_cases e : a = D
    · subst e; exact ⟨ws, upd_same⟩
    · obtain ⟨us, h⟩ := s.pz a ha
      exact ⟨us, by rw [upd_ne e]; exact h⟩
/-- behind a turn -/
theorem Fut.unpin {D : Addr} (f : Fut g H g' H') : Fut (g.unpin D) H (g'.unpin D) H' := ⟨⟨f.sz, f.at_, f.F, f.lst, f.tup, f.frz, f.there⟩, fun a h => ⟨f.P a h.1, h.2⟩, fun a us h q => f.pin a us h.1 q⟩
/-- from now on it stays -/
theorem pin_fix {st : Sto} (s : StOk K cl g H st) {D : Addr} {vs : List V} {xs : List G} (hP : g.P D) (hD : H D = some (.lst vs)) (r : RpL K cl g H xs vs) : FutR g H ((g.unpin D).fix D) H ∧ Fut (g.unpin D) H ((g.unpin D).fix D) H ∧ StOk K cl ((g.unpin D).fix D) H st ∧ Rp K cl ((g.unpin D).fix D) H (.sq true xs) (.ref D) := by
  have f : FutR g H ((g.unpin D).fix D) H := ⟨Nat.le_refl _, fun _ _ => rfl, fun _ h => .inl h, fun _ _ _ h => h, fun _ _ h => h, fun _ _ _ h => h, fun _ h => h⟩
  refine ⟨f, ⟨⟨f.sz, f.at_, fun _ h => .inl h, fun _ _ _ h => h, f.tup, f.frz, f.there⟩, fun _ h => h, fun _ _ _ h => h⟩, ⟨s.sz, fun n o e => ?_, s.inj, fun a ha => ?_, fun n o e z => s.pob n o e z.1, fun a ha => s.pz a ha.1, fun a ha z => z.elim (s.pf a ha.1) ha.2⟩, .lst (.inr rfl) hD (r.futR f)⟩
  · obtain ⟨h1, h2, h, h3, h4⟩ := s.ob n o e
    refine ⟨h1, fun z => z.elim h2 fun z => s.pob n o e ?_, h, h3, h4.futR f⟩
    have z : g.at_ n = D := z
    rw [z]; exact hP
  · rcases ha with ha | ha
    · exact s.fz a ha
    · subst ha; exact ⟨vs, hD⟩
/-- from now on it is an object of the store -/
theorem pin_add {st : Sto} (s : StOk K cl g H st) {D : Addr} {vs : List V} {xs : List G} (hP : g.P D) (hD : H D = some (.lst vs)) (r : RpL K cl g H xs vs) : FutR g H ((g.unpin D).add D) H ∧ Fut (g.unpin D) H ((g.unpin D).add D) H ∧ StOk K cl ((g.unpin D).add D) H (st.add (.lst xs)) ∧ Rp K cl ((g.unpin D).add D) H (.ref st.sz) (.ref D) := by
  have f : FutR g H ((g.unpin D).add D) H := ⟨Nat.le_succ _, fun n h => if_neg (Nat.ne_of_lt h), fun _ h => h, fun _ _ _ h => h, fun _ _ h => h, fun _ _ _ h => h, fun _ h => h⟩
  have ge : ∀ n u, getO (st.add (.lst xs)).ob n = some u → (n = g.sz ∧ u = .lst xs) ∨ (n ≠ g.sz ∧ getO st.ob n = some u) := fun n u e => by
    have e : getO ((st.sz, .lst xs) :: st.ob) n = some u := e
    rw [getO_cons] at e
    by_cases q : st.sz = n
    · rw [if_pos q] at e
      exact .inl ⟨(s.sz.symm.trans q).symm, (Option.some.inj e).symm⟩
    · rw [if_neg q] at e
      exact .inr ⟨fun z => q (s.sz.trans z.symm), e⟩
  have atn : ∀ n, n ≠ g.sz → ((g.unpin D).add D).at_ n = g.at_ n := fun n h => if_neg h
  have ats : ((g.unpin D).add D).at_ g.sz = D := if_pos rfl
  have ne : ∀ n u, getO st.ob n = some u → g.at_ n ≠ D := fun n u e z => s.pob n u e (by rw [z]; exact hP)
  refine ⟨f, ⟨⟨f.sz, f.at_, fun _ h => h, fun _ _ _ h => h, f.tup, f.frz, f.there⟩, fun _ h => h, fun _ _ _ h => h⟩, ⟨congrArg (· + 1) s.sz, fun n u e => ?_, fun n m u u' e e' q => ?_, s.fz, fun n u e z => ?_, fun a ha => s.pz a ha.1, fun a ha z => s.pf a ha.1 z⟩, ?_⟩
  · rcases ge n u e with ⟨rfl, rfl⟩ | ⟨hn, e⟩
    · refine ⟨Nat.lt_succ_self _, ?_, .lst vs, ?_, vs, rfl, r.futR f⟩
      · rw [ats]; exact s.pf D hP
      · rw [ats]; exact hD
    · obtain ⟨h1, h2, w, h3, h4⟩ := s.ob n u e
      refine ⟨Nat.lt_succ_of_lt h1, ?_, w, ?_, ?_⟩
      · rw [atn n hn]; exact h2
      · rw [atn n hn]; exact h3
      · rw [atn n hn]; exact h4.futR f
  · rcases ge n u e with ⟨h1, _⟩ | ⟨h1, e1⟩ <;> rcases ge m u' e' with ⟨h2, _⟩ | ⟨h2, e2⟩
    · rw [h1, h2]
    · subst h1
      rw [ats, atn m h2] at q
      exact absurd q.symm (ne m u' e2)
    · subst h2
      rw [ats, atn n h1] at q
      exact absurd q (ne n u e1)
    · rw [atn n h1, atn m h2] at q
      exact s.inj n m u u' e1 e2 q
  · have z : g.P (((g.unpin D).add D).at_ n) ∧ ((g.unpin D).add D).at_ n ≠ D := z
    rcases ge n u e with ⟨rfl, rfl⟩ | ⟨hn, e⟩
    · exact z.2 ats
    · rw [atn n hn] at z
      exact s.pob n u e z.1
  · have := Rp.ref (K := K) (cl := cl) (g := (g.unpin D).add D) (H := H) st.sz (by show st.sz < g.sz + 1; rw [s.sz]; exact Nat.lt_succ_self _)
    have e : ((g.unpin D).add D).at_ st.sz = D := if_pos s.sz
    rw [e] at this
    exact this
end
end RS

/-! RS: the judgements. -/
namespace RS
open PySem PySem.Spec L2

/-! ### checks, forcing -/
def ck (b : Bool) (p : Prop) : Prop := match b with
  | true => p
  | false => False
theorem ck.l {b : Bool} {p : Prop} (h : ck b p) : b = true := by cases b with
  | true => rfl
  | false => exact h.elim
theorem ck.r {b : Bool} {p : Prop} (h : ck b p) : p := by cases b with
  | true => exact h
  | false => exact h.elim
/-- a list's spine is walked at once -/
def fL {α : Type} : List α → (List α → Prop) → Prop
  | [], k => k []
  | x :: r, k => fL r fun r' => k (x :: r')
theorem fL_eq {α : Type} : ∀ (xs : List α) (k : List α → Prop), fL xs k = k xs
  | [], _ => rfl
  | x :: r, k => fL_eq r fun r' => k (x :: r')
def ckL {α : Type} (b : Bool) (xs : List α) (k : List α → Prop) : Prop := ck b (fL xs k)
theorem ckL.l {α : Type} {b : Bool} {xs : List α} {k : List α → Prop} (h : ckL b xs k) : b = true := ck.l h
theorem ckL.r {α : Type} {b : Bool} {xs : List α} {k : List α → Prop} (h : ckL b xs k) : k xs := by
  have h := ck.r h
  rw [fL_eq] at h
  exact h
/-- numbers are reckoned at once -/
def fN (n : Nat) (k : Nat → Prop) : Prop := match n with
  | 0 => k 0
  | m + 1 => k (Nat.succ m)
theorem fN_eq (n : Nat) (k : Nat → Prop) : fN n k = k n := by cases n <;> rfl
def fI (i : Int) (k : Int → Prop) : Prop := match i with
  | .ofNat n => fN n fun n => k (.ofNat n)
  | .negSucc n => fN n fun n => k (.negSucc n)
theorem fI_eq (i : Int) (k : Int → Prop) : fI i k = k i := by
  cases i with
  | ofNat n => exact fN_eq n (fun n => k (.ofNat n))
  | negSucc n => exact fN_eq n (fun n => k (.negSucc n))
/-- the row's name at a place, none of the two that Python keeps -/
def nB (N : List Str) (i : Nat) (x : Str) : Bool := decide (N[i]? = some x) && (!(x == ("__debug__" : Str)) && !(x == ("__classdict__" : Str)))
theorem nB_ok {N : List Str} {i : Nat} {x : Str} (h : nB N i x = true) : N[i]? = some x ∧ (x == ("__debug__" : Str)) = false ∧ (x == ("__classdict__" : Str)) = false := by
  unfold nB at h
  rw [Bool.and_eq_true, Bool.and_eq_true] at h
  exact ⟨of_decide_eq_true h.1, by simpa using h.2.1, by simpa using h.2.2⟩
/-- a new object, its number reckoned at once -/
def fAdd (st : Sto) (o : O) (k : G → Sto → Prop) : Prop := fN st.sz fun n => fN (n + 1) fun m => k (.ref n) ⟨m, (n, o) :: st.ob⟩
theorem fAdd_eq (st : Sto) (o : O) (k : G → Sto → Prop) : fAdd st o k = k (.ref st.sz) (st.add o) := by
  unfold fAdd
  rw [fN_eq, fN_eq]; rfl
def nthL {α : Type} : List α → Nat → Option α
  | [], _ => none
  | x :: r, n => match n with
    | 0 => some x
    | m + 1 => nthL r m
theorem nthL_eq {α : Type} : ∀ (xs : List α) (n : Nat), nthL xs n = xs[n]?
  | [], n => rfl
  | x :: r, 0 => rfl
  | x :: r, m + 1 => (nthL_eq r m).trans (List.getElem?_cons_succ).symm
/-- a cell is set, the row's spine walked -/
def fset {α : Type} : List α → Nat → α → (List α → Prop) → Prop
  | [], _, _, k => k []
  | x :: r, n, y, k => match n with
    | 0 => k (y :: r)
    | m + 1 => fset r m y fun r' => k (x :: r')
theorem fset_eq {α : Type} : ∀ (xs : List α) (n : Nat) (y : α) (k : List α → Prop), fset xs n y k = k (xs.set n y)
  | [], _, _, _ => rfl
  | x :: r, 0, _, _ => rfl
  | x :: r, m + 1, y, k => fset_eq r m y fun r' => k (x :: r')

/-- where one stands -/
structure Cf where
  P : Program
  w : World
  K : PySem.W.Frag
  mg : Str → Option Value
  base : Heap
  sc : Scope
  N : List Str
  cl : Nat → Addr
  n : Nat
  /-- not in an except suite -/
  cm : Bool
  /-- in a def's own frame (no comprehension's block) -/
  fr : Bool
  /-- the cells that are this frame's own -/
  fk : Str → Bool
  /-- the caught exception: slot, place, class -/
  px : Option (Nat × Addr × Nat)
def cfOf (X : Cx) (cl : Nat → Addr) (n : Nat) (cm fr : Bool) (fk : Str → Bool) (px : Option (Nat × Addr × Nat)) : Cf := ⟨X.prog, X.w, X.K, X.mg, X.base, X.env.scope, X.N, cl, n, cm, fr, fk, px⟩
structure At (c : Cf) (X : Cx) : Prop where
  eq : ∃ cl n cm fr fk px, c = cfOf X cl n cm fr fk px
  calm : X.calm = c.cm
  room : c.cm = true → Room c.n X.A
  units : X.A.units + 64 < cLine
  frame : c.fr = true → X.stack = X.env :: X.outer ∧ X.env.frame = some X.env.locals ∧ X.ex = []
  nd : c.N.Nodup
  fn : ∀ x, c.fk x = true → X.fn x = true
  exc : ∀ p, c.px = some p → ∃ (X0 : Cx) (oe : Obj) (pn : List (Addr × Obj)), X = X0.suite p.2.1 ((p.2.1, oe) :: pn) ∧ Zc (.ref (c.cl p.2.2)) none oe ∧ ∃ vs, oe.data = .fields vs

abbrev L := List (Option G)
abbrev KG := G → Sto → Prop
abbrev KX := Nat → Sto → Prop
abbrev Ev := L → Sto → KG → KX → Prop
abbrev EvT := L → Sto → (Bool → Sto → Prop) → KX → Prop
abbrev EvA := L → Sto → (List G → Sto → Prop) → KX → Prop
structure KS where
  nx : L → Sto → Prop
  rt : G → Sto → Prop
  bk : L → Sto → Prop
  ct : L → Sto → Prop
  ex : Nat → L → Sto → Prop
abbrev EvS := L → Sto → KS → Prop

section
variable (c : Cf)
abbrev Cf.Rp (g : Gh) (H : Hp) (x : G) (v : V) : Prop := RS.Rp c.K c.cl g H x v
abbrev Cf.RpL (g : Gh) (H : Hp) (x : List G) (v : List V) : Prop := RS.RpL c.K c.cl g H x v
abbrev Cf.Ok (g : Gh) (H : Hp) (st : Sto) : Prop := StOk c.K c.cl g H st
/-- the slots -/
def RelL (g : Gh) (H : Hp) (l : L) (σ : St) : Prop := l.length = σ.length ∧ ∀ (i : Nat) x, l[i]? = some (some x) → ∃ v, σ[i]? = some (some v) ∧ c.Rp g H x v
def PxOk (σ : St) : Prop := ∀ p, c.px = some p → ∀ v, σ[p.1]? = some v → v = some (V.ref p.2.1)
structure Bs (g : Gh) (H : Hp) (st : Sto) (l : L) (σ : St) : Prop where
  ok : c.Ok g H st
  l : RelL c g H l σ
  px : PxOk c σ
/-- an exception: of an own class without attributes -/
def ExR (x : Nat) (cls : Value) (d : Option Addr) : Prop := cls = .ref (c.cl x) ∧ d = none
/-- a later moment -/
structure Nw (g : Gh) (H : Hp) (st' : Sto) (g' : Gh) (H' : Hp) : Prop where
  f : Fut g H g' H'
  ok : c.Ok g' H' st'
def KeepG (g : Gh) (H : Hp) (k : KG) (Q : VK) : Prop := ∀ x st' g' H' v, k x st' → Nw c g H st' g' H' → c.Rp g' H' x v → Q v H'
def KeepB (g : Gh) (H : Hp) (k : Bool → Sto → Prop) (Q : Bool → Hp → Prop) : Prop := ∀ b st' g' H', k b st' → Nw c g H st' g' H' → Q b H'
def KeepA (g : Gh) (H : Hp) (k : List G → Sto → Prop) (Q : List V → Hp → Prop) : Prop := ∀ xs st' g' H' vs, k xs st' → Nw c g H st' g' H' → c.RpL g' H' xs vs → Q vs H'
def KeepX (g : Gh) (H : Hp) (ex : KX) (E : XK) : Prop := ∀ x st' g' H' cls d, ex x st' → Nw c g H st' g' H' → ExR c x cls d → E cls d H'
def KeepL (g : Gh) (H : Hp) (k : L → Sto → Prop) (D : St → Hp → Prop) : Prop := ∀ l' st' g' H' σ', k l' st' → Fut g H g' H' → Bs c g' H' st' l' σ' → D σ' H'
def KeepXL (g : Gh) (H : Hp) (ex : Nat → L → Sto → Prop) (W : WX) : Prop := ∀ x l' st' g' H' σ' cls d, ex x l' st' → Fut g H g' H' → Bs c g' H' st' l' σ' → ExR c x cls d → W cls d σ' H'

def tE (W : WX) (ev : Ev) : TE := fun σ H Q => ∃ g l st k ex, Bs c g H st l σ ∧ ev l st k ex ∧ KeepG c g H k Q ∧ KeepX c g H ex (fun cls d H' => W cls d σ H')
def tT (W : WX) (ev : EvT) : TT := fun σ H Q => ∃ g l st k ex, Bs c g H st l σ ∧ ev l st k ex ∧ KeepB c g H k Q ∧ KeepX c g H ex (fun cls d H' => W cls d σ H')
def tA (W : WX) (ev : EvA) : TA := fun σ H Q => ∃ g l st k ex, Bs c g H st l σ ∧ ev l st k ex ∧ KeepA c g H k Q ∧ KeepX c g H ex (fun cls d H' => W cls d σ H')
structure KeepS (g : Gh) (H : Hp) (K : KS) (D : Ends) (W : WX) : Prop where
  nx : KeepL c g H K.nx D.nx
  rt : KeepG c g H K.rt D.rt
  bk : KeepL c g H K.bk D.bk
  ct : KeepL c g H K.ct D.ct
  ex : KeepXL c g H K.ex W
def tS (W : WX) (ev : EvS) : TS := fun D σ H => ∃ g l st K, Bs c g H st l σ ∧ ev l st K ∧ KeepS c g H K D W

/-- the rules' judgements -/
def EE (e : Expr) (ev : Ev) : Prop := ∀ X, At c X → ∀ W, Takes X W → PE X e (tE c W ev)
def ET (e : Expr) (ev : EvT) : Prop := ∀ X, At c X → ∀ W, Takes X W → PT X e (tT c W ev)
def EA (es : List Expr) (ev : EvA) : Prop := ∀ X, At c X → ∀ W, Takes X W → PA X es (tA c W ev)
def ES (s : Stmt) (ev : EvS) : Prop := ∀ X, At c X → ∀ W, Takes X W → PassesOwn (model X.prog X.w) X.A X.env X.xe → PS X s (tS c W ev)
def ESs (s : List Stmt) (ev : EvS) : Prop := ∀ X, At c X → ∀ W, Takes X W → PassesOwn (model X.prog X.w) X.A X.env X.xe → PSs X s (tS c W ev)
end

/-! ### weaker readings -/
section
variable {X : Cx} {e : Expr} {s : Stmt} {ss : List Stmt} {es : List Expr}
theorem _root_.L2.PE.imp {t t' : TE} (h : PE X e t) (i : ∀ σ H Q, t' σ H Q → t σ H Q) : PE X e t' := ⟨fun pins s σ H Q I q => h.run pins s σ H Q I (i σ H Q q)⟩
theorem _root_.L2.PT.imp {t t' : TT} (h : PT X e t) (i : ∀ σ H Q, t' σ H Q → t σ H Q) : PT X e t' := ⟨fun pins s σ H Q I q => h.run pins s σ H Q I (i σ H Q q)⟩
theorem _root_.L2.PW.imp {t t' : TT} (h : PW X e t) (i : ∀ σ H Q, t' σ H Q → t σ H Q) : PW X e t' := ⟨fun wh pins s σ H Q I q => h.run wh pins s σ H Q I (i σ H Q q)⟩
theorem _root_.L2.PA.imp {t t' : TA} (h : PA X es t) (i : ∀ σ H Q, t' σ H Q → t σ H Q) : PA X es t' := ⟨fun pos pins s σ H Q I q => h.run pos pins s σ H Q I (i σ H Q q)⟩
theorem _root_.L2.PS.imp {t t' : TS} (h : PS X s t) (i : ∀ D σ H, t' D σ H → t D σ H) : PS X s t' := ⟨fun pins s σ H D I q => h.run pins s σ H D I (i D σ H q)⟩
theorem _root_.L2.PSs.imp {t t' : TS} (h : PSs X ss t) (i : ∀ D σ H, t' D σ H → t D σ H) : PSs X ss t' := ⟨fun pins s σ H D I q => h.run pins s σ H D I (i D σ H q)⟩
end
section
variable {c : Cf} {g g' g'' : Gh} {H H' H'' : Hp} {st : Sto} {l : L} {σ : St}
theorem RelL.fut (f : Fut g H g' H') (r : RelL c g H l σ) : RelL c g' H' l σ := ⟨r.1, fun i x e => by
  obtain ⟨v, h1, h2⟩ := r.2 i x e
  exact ⟨v, h1, h2.fut f⟩⟩
theorem Bs.nw {st' : Sto} (b : Bs c g H st l σ) (n : Nw c g H st' g' H') : Bs c g' H' st' l σ := ⟨n.ok, b.l.fut n.f, b.px⟩
theorem Nw.trans {st1 st2 : Sto} (a : Nw c g H st1 g' H') (b : Nw c g' H' st2 g'' H'') : Nw c g H st2 g'' H'' := ⟨a.f.trans b.f, b.ok⟩
theorem Nw.refl (b : Bs c g H st l σ) : Nw c g H st g H := ⟨Fut.refl, b.ok⟩
theorem KeepX.fut {ex : KX} {E : XK} (k : KeepX c g H ex E) (f : Fut g H g' H') : KeepX c g' H' ex E := fun x st' g2 H2 cls d e n r => k x st' g2 H2 cls d e ⟨f.trans n.f, n.ok⟩ r
theorem KeepG.fut {k : KG} {Q : VK} (h : KeepG c g H k Q) (f : Fut g H g' H') : KeepG c g' H' k Q := fun x st' g2 H2 v e n r => h x st' g2 H2 v e ⟨f.trans n.f, n.ok⟩ r
theorem KeepB.fut {k : Bool → Sto → Prop} {Q : Bool → Hp → Prop} (h : KeepB c g H k Q) (f : Fut g H g' H') : KeepB c g' H' k Q := fun x st' g2 H2 e n => h x st' g2 H2 e ⟨f.trans n.f, n.ok⟩
theorem KeepA.fut {k : List G → Sto → Prop} {Q : List V → Hp → Prop} (h : KeepA c g H k Q) (f : Fut g H g' H') : KeepA c g' H' k Q := fun x st' g2 H2 v e n r => h x st' g2 H2 v e ⟨f.trans n.f, n.ok⟩ r
theorem KeepL.fut {k : L → Sto → Prop} {D : St → Hp → Prop} (h : KeepL c g H k D) (f : Fut g H g' H') : KeepL c g' H' k D := fun l' st' g2 H2 σ' e n r => h l' st' g2 H2 σ' e (f.trans n) r
theorem KeepXL.fut {k : Nat → L → Sto → Prop} {W : WX} (h : KeepXL c g H k W) (f : Fut g H g' H') : KeepXL c g' H' k W := fun x l' st' g2 H2 σ' cls d e n r => h x l' st' g2 H2 σ' cls d e (f.trans n) r
theorem KeepS.fut {K : KS} {D : Ends} {W : WX} (h : KeepS c g H K D W) (f : Fut g H g' H') : KeepS c g' H' K D W := ⟨h.nx.fut f, h.rt.fut f, h.bk.fut f, h.ct.fut f, h.ex.fut f⟩
theorem KeepXL.at {k : Nat → L → Sto → Prop} {W : WX} (h : KeepXL c g H k W) (b : Bs c g H st l σ) : KeepX c g H (fun x st' => k x l st') (fun cls d H' => W cls d σ H') := fun x st' g2 H2 cls d e n r => h x l st' g2 H2 σ cls d e n.f (b.nw n) r
end

/-! ### names, constants -/
section
variable {c : Cf}
def eC (x : G) : Ev := fun _ st k _ => k x st
def eVar (i : Nat) : Ev := fun l st k _ => match nthL l i with
  | some (some x) => k x st
  | _ => False
theorem v_var (i : Nat) {x : Str} {pos : Pos} (hN : c.N[i]? = some x) (hv : Vis c.sc x) (hd : (x == ("__debug__" : Str)) = false := by decide +kernel) (hcd : (x == ("__classdict__" : Str)) = false := by decide +kernel) : EE c (.Name x pos) (eVar i) := by
  intro X hX W tk
  obtain ⟨cl, n, cm, fr, fk, px, rfl⟩ := hX.eq
  refine (pe_var (X := X) hN hv hd hcd).imp fun σ H Q q => ?_
  obtain ⟨g, l, st, k, ex, b, h, hk, _⟩ := q
  unfold eVar at h
  rw [nthL_eq] at h
  split at h
  · rename_i y e
    obtain ⟨v, e1, r⟩ := b.l.2 i y e
    exact ⟨v, e1, hk _ _ _ _ _ h (.refl b) r⟩
  · exact h.elim
theorem v_varN (i : Nat) {x : Str} {pos : Pos} (h : nB c.N i x = true) (hv : Vis c.sc x) : EE c (.Name x pos) (eVar i) := v_var i (nB_ok h).1 hv (nB_ok h).2.1 (nB_ok h).2.2
theorem const_of {X : Cx} {W : WX} {e : Expr} {v : V} {x : G} (h : PE X e (tC v)) (r : ∀ g H, c.Rp g H x v) : PE X e (tE c W (eC x)) := h.imp fun σ H Q q => by
  obtain ⟨g, l, st, k, ex, b, h, hk, _⟩ := q
  exact hk _ _ _ _ _ h (.refl b) (r _ _)
theorem v_int {i : Int} {j : Nat} {pos : Pos} : EE c (.Constant (.int i) j pos) (eC (.int i)) := fun X _ W _ => const_of (v := .int i) pe_int fun _ _ => .int i
theorem v_bl {i : Bool} {j : Nat} {pos : Pos} : EE c (.Constant (.bool i) j pos) (eC (.bl i)) := fun X _ W _ => const_of (v := .bl i) pe_bl fun _ _ => .bl i
theorem v_non {j : Nat} {pos : Pos} : EE c (.Constant .none j pos) (eC .non) := fun X _ W _ => const_of (v := .non) pe_non fun _ _ => .non
theorem v_str {i : Str} {j : Nat} {pos : Pos} : EE c (.Constant (.str i) j pos) (eC (.str i)) := fun X _ W _ => const_of (v := .str i) pe_str fun _ _ => .str i
/-- an own class as a value -/
theorem v_cls (k : Nat) {x : Str} {pos : Pos} (hm : c.mg x = some (.ref (c.cl k))) (hg : c.sc.names.lookup x = some .globalImplicit) (hd : (x == ("__debug__" : Str)) = false := by decide +kernel) : EE c (.Name x pos) (eC (.cls k)) := by
  intro X hX W tk
  obtain ⟨cl, n, cm, fr, fk, px, rfl⟩ := hX.eq
  exact const_of (c := cfOf X cl n cm fr fk px) (pe_glob (X := X) (v := .ref (cl k)) hg hm rfl hd) fun _ _ => .cls k
/-- a built-in type as a value -/
theorem v_ty (T : Ty) {x : Str} {pos : Pos} (hm : c.mg x = none) (hv : bootBuiltins x = some (.type T.name)) (hg : c.sc.names.lookup x = some .globalImplicit) (hn : x ≠ "__name__" := by decide +kernel) (hd : (x == ("__debug__" : Str)) = false := by decide +kernel) : EE c (.Name x pos) (eC (.ty T)) := by
  intro X hX W tk
  obtain ⟨cl, n, cm, fr, fk, px, rfl⟩ := hX.eq
  exact const_of (c := cfOf X cl n cm fr fk px) (pe_bltn (X := X) (v := .ty T.name) hg hm hv rfl hn hd) fun _ _ => .ty T
/-- a module's constant number -/
theorem v_globI {i : Int} {t : Tok} {x : Str} {pos : Pos} (hm : c.mg x = some (.int i t)) (hg : c.sc.names.lookup x = some .globalImplicit) (hd : (x == ("__debug__" : Str)) = false := by decide +kernel) : EE c (.Name x pos) (eC (.int i)) := by
  intro X hX W tk
  obtain ⟨cl, n, cm, fr, fk, px, rfl⟩ := hX.eq
  exact const_of (c := cfOf X cl n cm fr fk px) (pe_glob (X := X) (v := .int i) hg hm ⟨t, rfl⟩ hd) fun _ _ => .int i

/-! ### arguments, displays -/
def aNil : EvA := fun _ st k _ => k [] st
def aCons (a : Ev) (r : EvA) : EvA := fun l st k ex => a l st (fun x st1 => r l st1 (fun xs st2 => k (x :: xs) st2) ex) ex
theorem x_nil : EA c [] aNil := fun X _ W _ => pa_nil.imp fun σ H Q q => by
  obtain ⟨g, l, st, k, ex, b, h, hk, _⟩ := q
  exact hk _ _ _ _ _ h (.refl b) .nil
/-- from a sequence of two readings -/
theorem seqE {W : WX} {a : Ev} {R : St → Hp → V → Prop} {σ : St} {H : Hp} {g : Gh} {l : L} {st : Sto} {ex : KX} {k : KG} (b : Bs c g H st l σ) (h : a l st k ex) (hx : KeepX c g H ex (fun cls d H' => W cls d σ H'))
    {Q : VK} (q : ∀ x st' g' H' v, k x st' → Nw c g H st' g' H' → c.Rp g' H' x v → Q v H') : tE c W a σ H Q := ⟨g, l, st, k, ex, b, h, q, hx⟩
theorem x_cons {e : Expr} {es : List Expr} {a : Ev} {r : EvA} (h1 : EE c e a) (h2 : EA c es r) (hs : ∀ env, starEach (e :: es) env = (false, eval e env) :: starEach es env := by intro _; rfl) : EA c (e :: es) (aCons a r) := by
  intro X hX W tk
  refine (pa_cons (h1 X hX W tk) (h2 X hX W tk) (hs _)).imp fun σ H Q q => ?_
  obtain ⟨g, l, st, k, ex, b, h, hk, hx⟩ := q
  refine ⟨g, l, st, _, ex, b, h, fun x st1 g1 H1 v h1 n1 r1 => ?_, hx⟩
  refine ⟨g1, l, st1, _, ex, b.nw n1, h1, fun xs st2 g2 H2 vs h2 n2 r2 => ?_, hx.fut n1.f⟩
  exact hk _ _ _ _ _ h2 (n1.trans n2) (.cons (r1.fut n2.f) r2)
/-- a new tuple, a new list that stays as it is, a new list -/
def eTup (a : EvA) : Ev := fun l st k ex => a l st (fun xs st1 => ck (Nat.ble xs.length 10000) (k (.sq false xs) st1)) ex
def eLst (a : EvA) : Ev := fun l st k ex => a l st (fun xs st1 => ck (Nat.ble xs.length 10000) (k (.sq true xs) st1)) ex
def eLstM (a : EvA) : Ev := fun l st k ex => a l st (fun xs st1 => ck (Nat.ble xs.length 10000) (fAdd st1 (.lst xs) k)) ex
theorem le_line {n : Nat} (h : Nat.ble n 10000 = true) : n ≤ sizeLine := by
  have := Nat.le_of_ble_eq_true h
  rw [sizeLine_eq]; omega
section
variable {g : Gh} {H : Hp} {st : Sto} {p : Addr} {xs : List G} {vs : List V}
theorem new_tup {o : Obj} (ok : c.Ok g H st) (r : c.RpL g H xs vs) (ho : o.dict = none) (hp : H p = none) : Nw c g H st g (upd H p (.frz o (.tup vs))) ∧ c.Rp g (upd H p (.frz o (.tup vs))) (.sq false xs) (.ref p) :=
  ⟨⟨.new hp, ok.new hp⟩, .tup (.inl ⟨o, ho, upd_same⟩) (r.fut (Fut.new hp))⟩
theorem new_sw (ok : c.Ok g H st) (r : c.RpL g H xs vs) (hp : H p = none) : Nw c g H st g (upd H p (.tup vs)) ∧ c.Rp g (upd H p (.tup vs)) (.sw xs) (.ref p) :=
  ⟨⟨.new hp, ok.new hp⟩, .sw upd_same (r.fut (Fut.new hp))⟩
theorem new_fix (ok : c.Ok g H st) (r : c.RpL g H xs vs) (hp : H p = none) : Nw c g H st (g.fix p) (upd H p (.lst vs)) ∧ c.Rp (g.fix p) (upd H p (.lst vs)) (.sq true xs) (.ref p) :=
  ⟨⟨.fix hp, ok.fix hp⟩, .lst (.inr rfl) upd_same (r.fut (Fut.fix hp))⟩
theorem new_obj {o : O} {h : HO} (ok : c.Ok g H st) (r : RpO c.K c.cl (g.add p) (upd H p h) p o h) (hp : H p = none) : Nw c g H (st.add o) (g.add p) (upd H p h) ∧ c.Rp (g.add p) (upd H p h) (.ref st.sz) (.ref p) := by
  refine ⟨⟨.add hp, ok.add hp r⟩, ?_⟩
  have e : (g.add p).at_ st.sz = p := if_pos ok.sz
  have := RS.Rp.ref (K := c.K) (cl := c.cl) (g := g.add p) (H := upd H p h) st.sz (by show st.sz < g.sz + 1; rw [ok.sz]; exact Nat.lt_succ_self _)
  rw [e] at this
  exact this
theorem new_lst (ok : c.Ok g H st) (r : c.RpL g H xs vs) (hp : H p = none) : Nw c g H (st.add (.lst xs)) (g.add p) (upd H p (.lst vs)) ∧ c.Rp (g.add p) (upd H p (.lst vs)) (.ref st.sz) (.ref p) :=
  new_obj ok ⟨vs, rfl, r.fut (Fut.add hp)⟩ hp
end
theorem v_tup {es : List Expr} {a : EvA} {x1 : Nat} {pos : Pos} (h : EA c es a) : EE c (.Tuple es x1 pos) (eTup a) := by
  intro X hX W tk
  refine (pe_tupN (h X hX W tk)).imp fun σ H Q q => ?_
  obtain ⟨g, l, st, k, ex, b, h, hk, hx⟩ := q
  refine ⟨g, l, st, _, ex, b, h, fun xs st1 g1 H1 vs h1 n1 r1 => ⟨by rw [← r1.length]; exact le_line h1.l, fun p o ho hp => ?_⟩, hx⟩
  obtain ⟨n2, r2⟩ := new_tup n1.ok r1 ho hp
  exact hk _ _ _ _ _ h1.r (n1.trans n2) r2
theorem v_lst {es : List Expr} {a : EvA} {pos : Pos} (h : EA c es a) : EE c (.List es pos) (eLst a) := by
  intro X hX W tk
  refine (pe_lst (h X hX W tk)).imp fun σ H Q q => ?_
  obtain ⟨g, l, st, k, ex, b, h, hk, hx⟩ := q
  refine ⟨g, l, st, _, ex, b, h, fun xs st1 g1 H1 vs h1 n1 r1 => ⟨by rw [← r1.length]; exact le_line h1.l, fun p hp => ?_⟩, hx⟩
  obtain ⟨n2, r2⟩ := new_fix n1.ok r1 hp
  exact hk _ _ _ _ _ h1.r (n1.trans n2) r2
theorem v_lstM {es : List Expr} {a : EvA} {pos : Pos} (h : EA c es a) : EE c (.List es pos) (eLstM a) := by
  intro X hX W tk
  refine (pe_lst (h X hX W tk)).imp fun σ H Q q => ?_
  obtain ⟨g, l, st, k, ex, b, h, hk, hx⟩ := q
  refine ⟨g, l, st, _, ex, b, h, fun xs st1 g1 H1 vs h1 n1 r1 => ⟨by rw [← r1.length]; exact le_line h1.l, fun p hp => ?_⟩, hx⟩
  obtain ⟨n2, r2⟩ := new_lst n1.ok r1 hp
  have h1r := h1.r
  rw [fAdd_eq] at h1r
  exact hk _ _ _ _ _ h1r (n1.trans n2) r2
end
end RS

/-! RS: operators, comparisons, tests, subscripts. -/
namespace RS
open PySem PySem.Spec L2

def listO : Option O → Option (List G)
  | some (.lst xs) => some xs
  | _ => none
/-- the items of a list -/
def seqL (st : Sto) : G → Option (List G)
  | .sq l xs => match l with
    | true => some xs
    | false => none
  | .ref n => listO (getO st.ob n)
  | _ => none
def seqT : G → Option (List G)
  | .sq l xs => match l with
    | true => none
    | false => some xs
  | _ => none
/-- .. of a list or a tuple -/
def seqA (st : Sto) : G → Option (List G)
  | .sq _ xs => some xs
  | .ref n => listO (getO st.ob n)
  | _ => none
section
variable {c : Cf} {g : Gh} {H : Hp} {st : Sto} {v : G} {x : V} {xs : List G}
theorem listO_some {o : Option O} (e : listO o = some xs) : o = some (.lst xs) := by
  cases o with
  | none => cases e
  | some o => cases o <;> first | (cases e; done) | (injection e with e; rw [e])
theorem obj_lst (ok : c.Ok g H st) (r : c.Rp g H v x) {n : Nat} (hv : v = .ref n) (e : getO st.ob n = some (.lst xs)) : ∃ vs, x = .ref (g.at_ n) ∧ H (g.at_ n) = some (.lst vs) ∧ c.RpL g H xs vs := by
  subst hv
  cases r
  obtain ⟨_, _, h, h3, vs, rfl, h4⟩ := ok.ob n _ e
  exact ⟨vs, rfl, h3, h4⟩
theorem seqL_rp (ok : c.Ok g H st) (r : c.Rp g H v x) (e : seqL st v = some xs) : ∃ a vs, x = .ref a ∧ H a = some (.lst vs) ∧ c.RpL g H xs vs := by
  cases v with
  | sq l ys =>
    cases l with
    | true =>
      cases e
      cases r with
      | lst f h r => exact ⟨_, _, rfl, h, r⟩
    | false => cases e
  | ref n =>
    obtain ⟨vs, h1, h2, h3⟩ := obj_lst ok r rfl (listO_some e)
    exact ⟨_, vs, h1, h2, h3⟩
  | _ => cases e
theorem seqT_rp (r : c.Rp g H v x) (e : seqT v = some xs) : ∃ a vs, x = .ref a ∧ Tp c.K H a vs ∧ c.RpL g H xs vs := by
  cases v with
  | sq l ys =>
    cases l with
    | true => cases e
    | false =>
      cases e
      cases r with
      | tup h r => exact ⟨_, _, rfl, h, r⟩
  | _ => cases e
theorem seqA_rp (ok : c.Ok g H st) (r : c.Rp g H v x) (e : seqA st v = some xs) : ∃ a vs, x = .ref a ∧ (SqL c.K H a vs ∨ SqT c.K H a vs) ∧ c.RpL g H xs vs := by
  cases v with
  | sq l ys =>
    cases e
    cases r with
    | lst f h r => exact ⟨_, _, rfl, .inl (.of h), r⟩
    | tup h r => exact ⟨_, _, rfl, .inr h.sq, r⟩
  | ref n =>
    obtain ⟨vs, h1, h2, h3⟩ := obj_lst ok r rfl (listO_some e)
    exact ⟨_, vs, h1, .inl (.of h2), h3⟩
  | _ => cases e
end

/-! ### two-place operators -/
abbrev Op2 := G → G → Sto → KG → Prop
def eBin (op : Op2) (a b : Ev) : Ev := fun l st k ex => a l st (fun x st1 => b l st1 (fun y st2 => op x y st2 k) ex) ex
/-- the operator does what the reading asks -/
def O2 (c : Cf) (op : Op2) (r : R2) : Prop := ∀ a b st k g H x y Q, c.Ok g H st → c.Rp g H a x → c.Rp g H b y → op a b st k → KeepG c g H k Q → r x y H Q
section
variable {c : Cf} {a b : Expr} {ea eb : Ev} {pos : Pos} {op : Op2}
theorem bin_tE {X : Cx} {W : WX} {r : R2} (h : O2 c op r) {σ : St} {H : Hp} {Q : VK} (q : tE c W (eBin op ea eb) σ H Q) : tOp r (tE c W ea) (tE c W eb) σ H Q := by
  obtain ⟨g, l, st, k, ex, b, h1, hk, hx⟩ := q
  refine ⟨g, l, st, _, ex, b, h1, fun x st1 g1 H1 v h2 n1 r1 => ?_, hx⟩
  refine ⟨g1, l, st1, _, ex, b.nw n1, h2, fun y st2 g2 H2 u h3 n2 r2 => ?_, hx.fut n1.f⟩
  exact h _ _ _ _ _ _ _ _ _ n2.ok (r1.fut n2.f) r2 h3 (hk.fut (n1.f.trans n2.f))
theorem v_bin {o : Operator} {r : Cx → R2} (hr : ∀ X, At c X → OpR X (binaryOp o) (r X) ∧ O2 c op (r X)) (ha : EE c a ea) (hb : EE c b eb) : EE c (.BinOp a o b pos) (eBin op ea eb) := fun X hX W tk =>
  (pe_op (hr X hX).1 (ha X hX W tk) (hb X hX W tk)).imp fun _ _ _ q => bin_tE (X := X) (hr X hX).2 q
theorem v_cmp {o : CmpOp} {r : Cx → R2} (hr : ∀ X, At c X → OpR X (compareOp o) (r X) ∧ O2 c op (r X)) (hm : behindInMarks o b = false) (ha : EE c a ea) (hb : EE c b eb) : EE c (.Compare a [o] [b] pos) (eBin op ea eb) := fun X hX W tk =>
  (pe_cmpR (hr X hX).1 (ha X hX W tk) (hb X hX W tk) hm).imp fun _ _ _ q => bin_tE (X := X) (hr X hX).2 q
/-- a value that must be a truth, as a test -/
def eTest (e : Ev) : EvT := fun l st k ex => e l st (fun v st1 => match v with
  | .bl b => k b st1
  | _ => False) ex
theorem test_tT {W : WX} {t : TE} (i : ∀ σ H Q, tE c W ea σ H Q → t σ H Q) {σ : St} {H : Hp} {Q : Bool → Hp → Prop} (q : tT c W (eTest ea) σ H Q) : tTest t σ H Q := by
  obtain ⟨g, l, st, k, ex, b, h1, hk, hx⟩ := q
  refine i _ _ _ ⟨g, l, st, _, ex, b, h1, fun v st1 g1 H1 x h2 n1 r1 => ?_, hx⟩
  cases v <;> first
    | exact h2.elim
    | (cases r1; exact ⟨_, rfl, hk _ _ _ _ h2 n1⟩)
theorem t_cmp {o : CmpOp} {r : Cx → R2} (hr : ∀ X, At c X → OpR X (compareOp o) (r X) ∧ O2 c op (r X)) (hm : behindInMarks o b = false) (ha : EE c a ea) (hb : EE c b eb) : ET c (.Compare a [o] [b] pos) (eTest (eBin op ea eb)) := fun X hX W tk =>
  (pt_cmpR (hr X hX).1 (ha X hX W tk) (hb X hX W tk) hm).imp fun _ _ _ q => test_tT (fun _ _ _ q => bin_tE (X := X) (hr X hX).2 q) q
/-- an expression whose value is a truth -/
theorem t_val (ha : EE c a ea) (he : ∀ env whole, isTrue a env whole = (do let v ← whole; standAt a.pos; holding [v] (truthy v)) := by intro _ _; rfl) : ET c a (eTest ea) := fun X hX W tk =>
  (pt_val (ha X hX W tk) (he _)).imp fun _ _ _ q => by
    obtain ⟨g, l, st, k, ex, b, h1, hk, hx⟩ := q
    refine ⟨g, l, st, _, ex, b, h1, fun v st1 g1 H1 x h2 n1 r1 => ?_, hx⟩
    cases v <;> first
      | exact h2.elim
      | (cases r1; exact ⟨_, rfl, hk _ _ _ _ h2 n1⟩)
/-- the truth of any value -/
def truO : Option O → Option Bool
  | some (.lst xs) => (match xs with
    | [] => some false
    | _ :: _ => some true)
  | some (.dK xs) => (match xs with
    | [] => some false
    | _ :: _ => some true)
  | _ => none
def truG (st : Sto) : G → Option Bool
  | .non => some false
  | .bl b => some b
  | .int i => some (!PySem.W.Z.eqB i 0)
  | .sq _ xs => match xs with
    | [] => some false
    | _ :: _ => some true
  | .ref n => truO (getO st.ob n)
  | _ => none
def eTru (e : Ev) : EvT := fun l st k ex => e l st (fun v st1 => match truG st1 v with
  | some b => k b st1
  | none => False) ex
theorem eqB_dec (i j : Int) : PySem.W.Z.eqB i j = decide (i = j) := by
  by_cases h : i = j
  · rw [decide_eq_true h]; exact (PySem.W.Z.eqB_iff i j).mpr h
  · rw [decide_eq_false h]; exact Bool.eq_false_iff.mpr fun z => h ((PySem.W.Z.eqB_iff i j).mp z)
theorem ltB_dec (i j : Int) : PySem.W.Z.ltB i j = decide (i < j) := by
  by_cases h : i < j
  · rw [decide_eq_true h]; exact (PySem.W.Z.ltB_iff i j).mpr h
  · rw [decide_eq_false h]; exact Bool.eq_false_iff.mpr fun z => h ((PySem.W.Z.ltB_iff i j).mp z)
theorem leB_dec (i j : Int) : PySem.W.Z.leB i j = decide (i ≤ j) := by
  by_cases h : i ≤ j
  · rw [decide_eq_true h]; exact (PySem.W.Z.leB_iff i j).mpr h
  · rw [decide_eq_false h]; exact Bool.eq_false_iff.mpr fun z => h ((PySem.W.Z.leB_iff i j).mp z)
theorem isEmpty_rp {g : Gh} {H : Hp} {xs : List G} {vs : List V} (r : c.RpL g H xs vs) : (!vs.isEmpty) = !xs.isEmpty := by cases r <;> rfl
theorem tru_rp {g : Gh} {H : Hp} {st : Sto} {v : G} {x : V} {b : Bool} (ok : c.Ok g H st) (r : c.Rp g H v x) (e : truG st v = some b) : TruV c.K x H b := by
  cases v with
  | non => cases e; cases r; rfl
  | bl k => cases e; cases r; rfl
  | int i =>
    cases e; cases r
    show (!PySem.W.Z.eqB i 0) = (i != 0)
    rw [eqB_dec, bne, Bool.beq_eq_decide_eq]
  | sq l xs =>
    have e2 : b = !xs.isEmpty := by
      cases xs with
      | nil => exact (Option.some.inj e).symm
      | cons y ys => exact (Option.some.inj e).symm
    cases r with
    | tup h r => exact .inr (.inl ⟨_, h.sq, by rw [isEmpty_rp r]; exact e2⟩)
    | lst f h r => exact .inl ⟨_, .of h, by rw [isEmpty_rp r]; exact e2⟩
  | ref n =>
    cases r
    have e : truO (getO st.ob n) = some b := e
    cases q : getO st.ob n with
    | none => rw [q] at e; cases e
    | some o =>
      rw [q] at e
      obtain ⟨_, _, h, h3, h4⟩ := ok.ob n _ q
      cases o with
      | lst xs =>
        obtain ⟨vs, rfl, h4⟩ := h4
        cases h4 with
        | nil => cases e; exact .inl ⟨_, .of h3, rfl⟩
        | cons _ _ => cases e; exact .inl ⟨_, .of h3, rfl⟩
      | dK xs =>
        obtain ⟨vs, rfl, h4⟩ := h4
        cases h4 with
        | nil => cases e; exact .inr (.inr ⟨_, h3, rfl⟩)
        | cons _ _ => cases e; exact .inr (.inr ⟨_, h3, rfl⟩)
      | _ => cases e
  | _ => cases e
theorem t_tru (ha : EE c a ea) (he : ∀ env whole, isTrue a env whole = (do let v ← whole; standAt a.pos; holding [v] (truthy v)) := by intro _ _; rfl) : ET c a (eTru ea) := fun X hX W tk => by
  obtain ⟨cl, n, cm, fr, fk, px, rfl⟩ := hX.eq
  refine (pt_truth (ha X hX W tk) (he _)).imp fun _ _ _ q => ?_
  obtain ⟨g, l, st, k, ex, b, h1, hk, hx⟩ := q
  refine ⟨g, l, st, _, ex, b, h1, fun v st1 g1 H1 x h2 n1 r1 => ?_, hx⟩
  cases e : truG st1 v with
  | none => simp only [e] at h2
  | some b =>
    simp only [e] at h2
    exact ⟨b, tru_rp n1.ok r1 e, hk _ _ _ _ h2 n1⟩

/-! ### and, or, not, if -/
variable {ta tb : EvT} {rest : List Expr}
def tAnd' (s t : EvT) : EvT := fun l st k ex => s l st (fun b st1 => match b with
  | true => t l st1 k ex
  | false => k false st1) ex
def tOr' (s t : EvT) : EvT := fun l st k ex => s l st (fun b st1 => match b with
  | true => k true st1
  | false => t l st1 k ex) ex
def tNot' (s : EvT) : EvT := fun l st k ex => s l st (fun b st1 => k (!b) st1) ex
def EW (c : Cf) (e : Expr) (ev : EvT) : Prop := ∀ X, At c X → ∀ W, Takes X W → PW X e (tT c W ev)
theorem EW.et {e : Expr} {ev : EvT} (h : EW c e ev) : ET c e ev := fun X hX W tk => (h X hX W tk).pt
theorem w_and1 (ha : ET c a ta) : EW c (.BoolOp .And [a] pos) ta := fun X hX W tk => pw_and1 (ha X hX W tk)
theorem w_or1 (ha : ET c a ta) : EW c (.BoolOp .Or [a] pos) ta := fun X hX W tk => pw_or1 (ha X hX W tk)
theorem w_and (ha : ET c a ta) (hb : EW c (.BoolOp .And (b :: rest) pos) tb) : EW c (.BoolOp .And (a :: b :: rest) pos) (tAnd' ta tb) := fun X hX W tk =>
  (pw_and (ha X hX W tk) (hb X hX W tk)).imp fun _ _ _ q => by
    obtain ⟨g, l, st, k, ex, bs, h1, hk, hx⟩ := q
    refine ⟨g, l, st, _, ex, bs, h1, fun v st1 g1 H1 h2 n1 => ?_, hx⟩
    cases v with
    | true => exact ⟨g1, l, st1, k, ex, bs.nw n1, h2, hk.fut n1.f, hx.fut n1.f⟩
    | false => exact hk _ _ _ _ h2 n1
theorem w_or (ha : ET c a ta) (hb : EW c (.BoolOp .Or (b :: rest) pos) tb) : EW c (.BoolOp .Or (a :: b :: rest) pos) (tOr' ta tb) := fun X hX W tk =>
  (pw_or (ha X hX W tk) (hb X hX W tk)).imp fun _ _ _ q => by
    obtain ⟨g, l, st, k, ex, bs, h1, hk, hx⟩ := q
    refine ⟨g, l, st, _, ex, bs, h1, fun v st1 g1 H1 h2 n1 => ?_, hx⟩
    cases v with
    | false => exact ⟨g1, l, st1, k, ex, bs.nw n1, h2, hk.fut n1.f, hx.fut n1.f⟩
    | true => exact hk _ _ _ _ h2 n1
theorem t_not (ha : ET c a ta) : ET c (.UnaryOp .Not a pos) (tNot' ta) := fun X hX W tk =>
  (pt_not (ha X hX W tk)).imp fun _ _ _ q => by
    obtain ⟨g, l, st, k, ex, bs, h1, hk, hx⟩ := q
    exact ⟨g, l, st, _, ex, bs, h1, fun v st1 g1 H1 h2 n1 => hk _ _ _ _ h2 n1, hx⟩
/-- .. as values (truths) -/
def eAnd (s t : Ev) : Ev := fun l st k ex => s l st (fun v st1 => match v with
  | .bl b => (match b with
    | true => t l st1 k ex
    | false => k (.bl false) st1)
  | _ => False) ex
def eOr (s t : Ev) : Ev := fun l st k ex => s l st (fun v st1 => match v with
  | .bl b => (match b with
    | true => k (.bl true) st1
    | false => t l st1 k ex)
  | _ => False) ex
def eNot (s : Ev) : Ev := fun l st k ex => s l st (fun v st1 => match v with
  | .bl b => k (.bl (!b)) st1
  | _ => False) ex
theorem v_one {o} (ha : EE c a ea) : EE c (.BoolOp o [a] pos) ea := fun X hX W tk => pe_one (ha X hX W tk)
theorem v_and (ha : EE c a ea) (hb : EE c (.BoolOp .And (b :: rest) pos) eb) : EE c (.BoolOp .And (a :: b :: rest) pos) (eAnd ea eb) := fun X hX W tk =>
  (pe_and (ha X hX W tk) (hb X hX W tk)).imp fun _ _ _ q => by
    obtain ⟨g, l, st, k, ex, bs, h1, hk, hx⟩ := q
    refine ⟨g, l, st, _, ex, bs, h1, fun v st1 g1 H1 x h2 n1 r1 => ?_, hx⟩
    cases v <;> try exact h2.elim
    rename_i d
    cases r1
    refine ⟨d, rfl, ?_⟩
    cases d with
    | true => exact ⟨g1, l, st1, k, ex, bs.nw n1, h2, hk.fut n1.f, hx.fut n1.f⟩
    | false => exact hk _ _ _ _ _ h2 n1 (.bl false)
theorem v_or (ha : EE c a ea) (hb : EE c (.BoolOp .Or (b :: rest) pos) eb) : EE c (.BoolOp .Or (a :: b :: rest) pos) (eOr ea eb) := fun X hX W tk =>
  (pe_or (ha X hX W tk) (hb X hX W tk)).imp fun _ _ _ q => by
    obtain ⟨g, l, st, k, ex, bs, h1, hk, hx⟩ := q
    refine ⟨g, l, st, _, ex, bs, h1, fun v st1 g1 H1 x h2 n1 r1 => ?_, hx⟩
    cases v <;> try exact h2.elim
    rename_i d
    cases r1
    refine ⟨d, rfl, ?_⟩
    cases d with
    | false => exact ⟨g1, l, st1, k, ex, bs.nw n1, h2, hk.fut n1.f, hx.fut n1.f⟩
    | true => exact hk _ _ _ _ _ h2 n1 (.bl true)
theorem v_not (ha : EE c a ea) : EE c (.UnaryOp .Not a pos) (eNot ea) := fun X hX W tk =>
  (pe_not (ha X hX W tk)).imp fun _ _ _ q => by
    obtain ⟨g, l, st, k, ex, bs, h1, hk, hx⟩ := q
    refine ⟨g, l, st, _, ex, bs, h1, fun v st1 g1 H1 x h2 n1 r1 => ?_, hx⟩
    cases v <;> try exact h2.elim
    cases r1
    exact ⟨_, rfl, hk _ _ _ _ _ h2 n1 (.bl _)⟩
def eIf (t : EvT) (x y : Ev) : Ev := fun l st k ex => t l st (fun b st1 => match b with
  | true => x l st1 k ex
  | false => y l st1 k ex) ex
theorem v_if {d : Expr} (hc : ET c d ta) (ha : EE c a ea) (hb : EE c b eb) : EE c (.IfExp d a b pos) (eIf ta ea eb) := fun X hX W tk =>
  (pe_ifExp (hc X hX W tk) (ha X hX W tk) (hb X hX W tk)).imp fun _ _ _ q => by
    obtain ⟨g, l, st, k, ex, bs, h1, hk, hx⟩ := q
    refine ⟨g, l, st, _, ex, bs, h1, fun v st1 g1 H1 h2 n1 => ?_, hx⟩
    cases v with
    | true => exact ⟨g1, l, st1, k, ex, bs.nw n1, h2, hk.fut n1.f, hx.fut n1.f⟩
    | false => exact ⟨g1, l, st1, k, ex, bs.nw n1, h2, hk.fut n1.f, hx.fut n1.f⟩
end

/-! ### arithmetic -/
abbrev lenOk (n : Nat) : Bool := Nat.ble n 10000
def oAdd : Op2 := fun a b st k => match a with
  | .int i => (match b with
    | .int j => fI (i + j) fun s => k (.int s) st
    | _ => False)
  | .sq l xs => (match l with
    | true => (match seqL st b with
      | some ys => ckL (lenOk (xs.length + ys.length)) (xs ++ ys) fun zs => k (.sq true zs) st
      | none => False)
    | false => (match seqT b with
      | some ys => ckL (lenOk (xs.length + ys.length)) (xs ++ ys) fun zs => k (.sq false zs) st
      | none => False))
  | .ref n => (match seqL st (.ref n) with
    | some xs => (match seqL st b with
      | some ys => ckL (lenOk (xs.length + ys.length)) (xs ++ ys) fun zs => k (.sq true zs) st
      | none => False)
    | none => False)
  | .str x => (match b with
    | .str y => ck (lenOk (x.length + y.length)) (k (.str (x ++ y)) st)
    | _ => False)
  | _ => False
def rAdd' (K : PySem.W.Frag) : R2 := fun x y H Q => (rI0 fun i j => .int (i + j)) x y H Q ∨ rCat x y H Q ∨ rCatN K x y H Q ∨ (∃ i j, x = .str i ∧ y = .str j ∧ i.length + j.length ≤ sizeLine ∧ Q (.str (i ++ j)) H)
section
variable {c : Cf} {a b : Expr} {ea eb : Ev} {pos : Pos}
theorem o_add : O2 c oAdd (rAdd' c.K) := by
  intro a b st k g H x y Q ok ra rb h hk
  have cat : ∀ {xs ys : List G}, seqL st a = some xs → seqL st b = some ys → lenOk (xs.length + ys.length) = true → k (.sq true (xs ++ ys)) st → rAdd' c.K x y H Q := fun {xs ys} e1 e2 hl h => by
    obtain ⟨p, vs, rfl, h1, r1⟩ := seqL_rp ok ra e1
    obtain ⟨q, us, rfl, h2, r2⟩ := seqL_rp ok rb e2
    refine .inr (.inl ⟨p, q, vs, us, rfl, rfl, h1, h2, by rw [← r1.length, ← r2.length]; exact le_line hl, fun t ht => ?_⟩)
    obtain ⟨n2, r3⟩ := new_fix ok (r1.append r2) ht
    exact hk _ _ _ _ _ h n2 r3
  cases a with
  | int i =>
    cases b with
    | int j =>
      cases ra; cases rb
      have h : fI (i + j) (fun s => k (.int s) st) := h
      rw [fI_eq] at h
      exact .inl ⟨i, j, rfl, rfl, hk _ _ _ _ _ h ⟨.refl, ok⟩ (.int _)⟩
    | _ => exact h.elim
  | sq l xs =>
    cases l with
    | true =>
      have h : (match seqL st b with
        | some ys => ckL (lenOk (xs.length + ys.length)) (xs ++ ys) fun zs => k (.sq true zs) st
        | none => False) := h
      split at h
      · rename_i ys e
        exact cat rfl e h.l h.r
      · exact h.elim
    | false =>
      have h : (match seqT b with
        | some ys => ckL (lenOk (xs.length + ys.length)) (xs ++ ys) fun zs => k (.sq false zs) st
        | none => False) := h
      split at h
      · rename_i ys e
        obtain ⟨p, vs, rfl, h1, r1⟩ := seqT_rp ra (xs := xs) rfl
        obtain ⟨q, us, rfl, h2, r2⟩ := seqT_rp rb e
        refine .inr (.inr (.inl ⟨p, q, vs, us, rfl, rfl, h1.sq, h2.sq, by rw [← r1.length, ← r2.length]; exact le_line h.l, fun z => ?_, fun _ z => ?_, fun _ _ t o ho ht => ?_⟩))
        · subst z
          cases r1
          exact hk _ _ _ _ _ h.r ⟨.refl, ok⟩ (.tup h2 r2)
        · subst z
          cases r2
          have h2 := h.r
          rw [List.append_nil] at h2
          exact hk _ _ _ _ _ h2 ⟨.refl, ok⟩ (.tup h1 r1)
        · obtain ⟨n2, r3⟩ := new_tup ok (r1.append r2) ho ht
          exact hk _ _ _ _ _ h.r n2 r3
      · exact h.elim
  | ref n =>
    have h : (match seqL st (.ref n) with
      | some xs => (match seqL st b with
        | some ys => ckL (lenOk (xs.length + ys.length)) (xs ++ ys) fun zs => k (.sq true zs) st
        | none => False)
      | none => False) := h
    split at h
    · rename_i xs e1
      split at h
      · rename_i ys e2
        exact cat e1 e2 h.l h.r
      · exact h.elim
    · exact h.elim
  | str x =>
    cases b with
    | str y =>
      cases ra; cases rb
      have h : ck (lenOk (x.length + y.length)) (k (.str (x ++ y)) st) := h
      exact .inr (.inr (.inr ⟨x, y, rfl, rfl, le_line h.l, hk _ _ _ _ _ h.r ⟨.refl, ok⟩ (.str _)⟩))
    | _ => exact h.elim
  | _ => exact h.elim
theorem v_add (ha : EE c a ea) (hb : EE c b eb) : EE c (.BinOp a .Add b pos) (eBin oAdd ea eb) := v_bin (r := fun X => rAdd' X.K) (fun X hX => by
  obtain ⟨cl, n, cm, fr, fk, px, rfl⟩ := hX.eq
  exact ⟨op_add.or (op_cat.or (op_catN.or op_add_str)), o_add⟩) ha hb
/-- of two ints -/
def oInt (f : Int → Int → (Int → Prop) → Prop) : Op2 := fun a b st k => match a with
  | .int i => (match b with
    | .int j => f i j fun s => k (.int s) st
    | _ => False)
  | _ => False
theorem o_int {f : Int → Int → (Int → Prop) → Prop} {r : R2} (h : ∀ i j (p : Int → Prop) H Q, f i j p → (∀ s, p s → Q (.int s) H) → r (.int i) (.int j) H Q) : O2 c (oInt f) r := by
  intro a b st k g H x y Q ok ra rb hq hk
  cases a <;> try exact hq.elim
  cases b <;> try exact hq.elim
  cases ra; cases rb
  exact h _ _ _ _ _ hq fun s hs => hk _ _ _ _ _ hs ⟨.refl, ok⟩ (.int _)
def oSub : Op2 := oInt fun i j p => fI (i - j) p
theorem v_sub (ha : EE c a ea) (hb : EE c b eb) : EE c (.BinOp a .Sub b pos) (eBin oSub ea eb) := v_bin (r := fun _ => rI0 fun i j => .int (i - j)) (fun X hX => ⟨op_sub, o_int fun i j p H Q h q => ⟨i, j, rfl, rfl, q _ (by rw [fI_eq] at h; exact h)⟩⟩) ha hb
def mulOk (i j : Int) : Bool := match Nat.ble (Nat.log2 i.natAbs) 62 with
  | true => true
  | false => (match Nat.ble (Nat.log2 j.natAbs) 62 with
    | true => true
    | false => Nat.blt (Nat.add (Nat.log2 i.natAbs) (Nat.log2 j.natAbs)) 1000000)
theorem bits64 {i : Int} (h : Nat.ble (Nat.log2 i.natAbs) 62 = true) : Builtin.Int.intBits i ≤ 64 := by
  have h := Nat.le_of_ble_eq_true h
  unfold Builtin.Int.intBits
  split <;> omega
theorem mulOk_ok {i j : Int} (h : mulOk i j = true) : PySem.IntMulOk i j := by
  unfold mulOk at h
  split at h
  · rename_i e; exact .of_left (bits64 e)
  · split at h
    · rename_i e; exact .of_right (bits64 e)
    · exact CMulW.ok (i := i) (j := j) (Nat.le_of_ble_eq_true h)
theorem op_mulA {X : Cx} : OpR X (binaryOp .Mult) (rI PySem.IntMulOk fun i j => .int (i * j)) := opI fun _ _ _ _ _ _ _ hc q => PyProof.Rows.mul_int q hc
def oMulI : Op2 := oInt fun i j p => ck (mulOk i j) (fI (i * j) p)
theorem blt_lt {m n : Nat} (h : Nat.blt m n = true) : m < n := Nat.le_of_ble_eq_true h
end
end RS

/-! RS: repeats, division, powers, comparisons, deep equality. -/
namespace L2
open PySem PySem.Spec PyProof.Rows
theorem tuple_mul1 (l : Addr) (items : Array Value) (n : Nat) (dd : Option Addr) (sl : Array (Option Value)) (k : Int) (u : Tok) (c0 : (decide (k < -(2 ^ 63)) || decide (k ≥ 2 ^ 63)) = false) (c1 : (items.isEmpty || k == 1) = true) :
    Meets (Builtin.«tuple.__mul__» ⟨[.ref l, .int k u], []⟩) (fun _ R s => s.heap.get? l = some { cls := .type "tuple", dict := dd, data := .seq items n, slots := sl } ∧ R (.ok (.ret (Value.ref l))) s) :=
  .of_wp fun prog w A R s h => by
    obtain ⟨hp, g, d, tk, os⟩ := s
    obtain ⟨hl, h⟩ := h
    have f1 := AutoSeq1.idx_int
    wp_walk using wpAny_loadPart' hl
    repeat (first
      | (refine wpAny_ite_false (decide_eq_false (by rw [c0]; exact Bool.false_ne_true)) ?_; wp_walk using wpAny_loadPart' hl)
      | (refine wpAny_ite_true (decide_eq_true c1) ?_; wp_walk using wpAny_loadPart' hl))
    exact ⟨_, rfl, h⟩
theorem tuple_mul0 (l : Addr) (items : Array Value) (n : Nat) (dd : Option Addr) (sl : Array (Option Value)) (k : Int) (u : Tok) (c0 : (decide (k < -(2 ^ 63)) || decide (k ≥ 2 ^ 63)) = false) (c1 : (items.isEmpty || k == 1) = false) (hk : k ≤ 0) :
    Meets (Builtin.«tuple.__mul__» ⟨[.ref l, .int k u], []⟩) (fun _ R s => s.heap.get? l = some { cls := .type "tuple", dict := dd, data := .seq items n, slots := sl } ∧
      R (.ok (.ret (Value.ref s.heap.objs.size))) { s with heap := s.heap.push { cls := Value.type "tuple", data := Data.seq #[] }, toks := s.toks }) :=
  .of_wp fun prog w A R s h => by
    obtain ⟨hp, g, d, tk, os⟩ := s
    obtain ⟨hl, h⟩ := h
    have f1 := AutoSeq1.idx_int
    wp_walk using wpAny_loadPart' hl
    repeat (first
      | (refine wpAny_ite_false (decide_eq_false (by rw [c0]; exact Bool.false_ne_true)) ?_; wp_walk using wpAny_loadPart' hl)
      | (refine wpAny_ite_false (decide_eq_false (by rw [c1]; exact Bool.false_ne_true)) ?_; wp_walk using wpAny_loadPart' hl)
      | (refine wpAny_ite_true (decide_eq_true (by rw [show decide (k ≤ 0) = true from decide_eq_true hk, Bool.true_or])) ?_; wp_walk using wpAny_loadPart' hl))
    exact ⟨_, rfl, h⟩
/-- t * 0, t * 1 -/
def rRepT1 (K : PySem.W.Frag) : R2 := fun x y H Q => ∃ l k xs, x = .ref l ∧ y = .int k ∧ SqT K H l xs ∧ (xs = [] ∨ k = 1) ∧ -1000000 < k ∧ k < 1000000 ∧ Q (.ref l) H
def rRepT0 (K : PySem.W.Frag) : R2 := fun x y H Q => ∃ l k xs, x = .ref l ∧ y = .int k ∧ SqT K H l xs ∧ xs ≠ [] ∧ -1000000 < k ∧ k ≤ 0 ∧ NewT H [] Q
section
variable {X : Cx}
theorem op_repT1 : OpR X (binaryOp .Mult) (rRepT1 X.K) := by
  intro pins s σ H x y v u Q I rx ry h
  obtain ⟨l, k, xs, rfl, rfl, hT, h1, k0, k1, q⟩ := h
  cases rx
  obtain ⟨t, rfl⟩ := ry
  obtain ⟨its, r, ⟨⟨cls, dd, data, sl⟩, ho, hc, n, hd⟩, hs⟩ := I.tuple hT
  simp only at hc hd
  subst hc hd
  have c0 : (decide (k < -(2 ^ 63)) || decide (k ≥ 2 ^ 63)) = false := by
    rw [decide_eq_false (by omega), decide_eq_false (by omega)] <;> rfl
  have c1 : (its.toArray.isEmpty || k == 1) = true := by
    rcases h1 with h1 | h1
    · subst h1
      cases r
      rfl
    · subst h1
      exact Bool.or_true _
  exact wpAny_binaryOp_repeat_ref (T := "tuple") (U := "int") (by decide) ⟨_, ho, rfl⟩ (fun s' => typeIs_int s' k t) noFill_tuple_mul F.fills_int_mul F.slot_int_rmul repeat_tuple F.slot_int_index.lookup
    (call_meets F.slot_int_rmul (typeIs_int s k t) F.entry_int_rmul (F.args_int_rmul_2 _ _) (int_rmul_tuple k t l its.toArray n dd sl)
      ⟨ho, rfl, ⟨_, ho, rfl⟩, call_meets F.slot_tuple_mul ⟨_, ho, rfl⟩ F.entry_tuple_mul (F.args_tuple_mul_2 _ _) (tuple_mul1 l its.toArray n dd sl k t c0 c1) ⟨ho, ⟨.ref l, H, I, rfl, q⟩⟩⟩)
theorem op_repT0 : OpR X (binaryOp .Mult) (rRepT0 X.K) := by
  intro pins s σ H x y v u Q I rx ry h
  obtain ⟨l, k, xs, rfl, rfl, hT, hne, k0, k1, q⟩ := h
  cases rx
  obtain ⟨t, rfl⟩ := ry
  obtain ⟨its, r, ⟨⟨cls, dd, data, sl⟩, ho, hc, n, hd⟩, hs⟩ := I.tuple hT
  simp only at hc hd
  subst hc hd
  have hle : its.length = xs.length := r.length.symm
  have hi : its.toArray.isEmpty = false := by
    cases its with
    | nil => exact absurd (List.eq_nil_of_length_eq_zero hle.symm) hne
    | cons a b => rfl
  have c0 : (decide (k < -(2 ^ 63)) || decide (k ≥ 2 ^ 63)) = false := by
    rw [decide_eq_false (by omega), decide_eq_false (by omega)] <;> rfl
  have c1 : (its.toArray.isEmpty || k == 1) = false := by
    rw [hi, Bool.false_or]; exact beq_eq_false_iff_ne.mpr (by omega)
  refine wpAny_binaryOp_repeat_ref (T := "tuple") (U := "int") (by decide) ⟨_, ho, rfl⟩ (fun s' => typeIs_int s' k t) noFill_tuple_mul F.fills_int_mul F.slot_int_rmul repeat_tuple F.slot_int_index.lookup
    (call_meets F.slot_int_rmul (typeIs_int s k t) F.entry_int_rmul (F.args_int_rmul_2 _ _) (int_rmul_tuple k t l its.toArray n dd sl)
      ⟨ho, rfl, ⟨_, ho, rfl⟩, call_meets F.slot_tuple_mul ⟨_, ho, rfl⟩ F.entry_tuple_mul (F.args_tuple_mul_2 _ _) (tuple_mul0 l its.toArray n dd sl k t c0 c1 k1) ⟨ho, ?_⟩⟩)
  exact ⟨.ref _, _, laidT I .nil (Nat.zero_le _), rfl, newT_at I q []⟩
end
end L2
namespace RS
open PySem PySem.Spec L2
def repG : Nat → List G → List G
  | 0, _ => []
  | n + 1, xs => xs ++ repG n xs
theorem repG_eq (n : Nat) (xs : List G) : repG n xs = (List.replicate n xs).flatten := by
  induction n with
  | zero => rfl
  | succ n ih => rw [List.replicate_succ, List.flatten_cons, ← ih]; rfl
theorem RpL.rep {K : PySem.W.Frag} {cl : Nat → Addr} {g : Gh} {H : Hp} {xs : List G} {vs : List V} (r : RpL K cl g H xs vs) : ∀ n, RpL K cl g H (repG n xs) (List.replicate n vs).flatten
  | 0 => .nil
  | n + 1 => by
    rw [List.replicate_succ, List.flatten_cons]
    exact r.append (RpL.rep r n)
def repT (xs : List G) (j : Int) (k : List G → Prop) : Prop := match xs with
  | [] => ck (Nat.blt j.natAbs 1000000) (k [])
  | _ :: _ => match j with
    | .negSucc m => ck (Nat.blt m 999999) (k [])
    | .ofNat n => match n with
      | 0 => k []
      | m + 1 => match m with
        | 0 => k xs
        | _ + 1 => ck (Nat.ble n 1000) (ckL (Nat.ble xs.length 1000) (repG n xs) k)
def oRepL (xs : List G) (j : Int) (k : List G → Prop) : Prop := match j with
  | .ofNat n => ck (lenOk n) (ckL (lenOk (xs.length * n)) (repG n xs) k)
  | .negSucc _ => False
def oMul : Op2 := fun a b st k => match a with
  | .int i => oMulI (.int i) b st k
  | .sq l xs => (match b with
    | .int j => (match l with
      | true => oRepL xs j fun zs => k (.sq true zs) st
      | false => repT xs j fun zs => k (.sq false zs) st)
    | _ => False)
  | _ => False
def rMul' (K : PySem.W.Frag) : R2 := fun x y H Q => rI PySem.IntMulOk (fun i j => .int (i * j)) x y H Q ∨ rRep x y H Q ∨ rRepN K x y H Q ∨ rRepT1 K x y H Q ∨ rRepT0 K x y H Q
section
variable {c : Cf} {a b : Expr} {ea eb : Ev} {pos : Pos}
theorem o_mulI : O2 c oMulI (rI PySem.IntMulOk fun i j => .int (i * j)) := o_int fun i j p H Q h q => ⟨i, j, rfl, rfl, mulOk_ok h.l, q _ (by have h := h.r; rw [fI_eq] at h; exact h)⟩
theorem o_mul : O2 c oMul (rMul' c.K) := by
  intro a b st k g H x y Q ok ra rb h hk
  cases a with
  | int i => exact .inl (o_mulI _ _ _ _ _ _ _ _ _ ok ra rb h hk)
  | sq l xs =>
    cases b <;> try exact h.elim
    rename_i j
    cases rb
    cases l with
    | true =>
      have h : oRepL xs j fun zs => k (.sq true zs) st := h
      cases ra with
      | @lst p _ vs f hp r =>
        cases j with
        | ofNat n =>
          have h : ck (lenOk n) (ckL (lenOk (xs.length * n)) (repG n xs) fun zs => k (.sq true zs) st) := h
          have h1 := Nat.le_of_ble_eq_true h.l
          refine .inr (.inl ⟨p, _, vs, rfl, rfl, hp, ?_, ?_, by rw [← r.length]; exact le_line h.r.l, fun t ht => ?_⟩)
          · show _ ≤ ((n : Nat) : Int)
            omega
          · show ((n : Nat) : Int) < _
            omega
          · obtain ⟨n2, r3⟩ := new_fix ok (r.rep n) ht
            exact hk _ _ _ _ _ h.r.r n2 r3
        | negSucc n => exact h.elim
    | false =>
      have h : repT xs j fun zs => k (.sq false zs) st := h
      cases ra with
      | @tup p _ vs hp r =>
        cases xs with
        | nil =>
          have h : ck (Nat.blt j.natAbs 1000000) (k (.sq false []) st) := h
          have hj := blt_lt h.l
          cases r
          exact .inr (.inr (.inr (.inl ⟨p, j, [], rfl, rfl, hp.sq, .inl rfl, by omega, by omega, hk _ _ _ _ _ h.r ⟨.refl, ok⟩ (.tup hp .nil)⟩)))
        | cons z zs =>
          have hne : vs ≠ [] := fun e => by subst e; cases r
          have emp : ∀ {i : Int}, -1000000 < i → i ≤ 0 → k (.sq false []) st → rMul' c.K (.ref p) (.int i) H Q := fun {i} a1 a2 h => by
            refine .inr (.inr (.inr (.inr ⟨p, i, vs, rfl, rfl, hp.sq, hne, a1, a2, fun t o ho ht => ?_⟩)))
            obtain ⟨n2, r3⟩ := new_tup ok (.nil) ho ht
            exact hk _ _ _ _ _ h n2 r3
          cases j with
          | negSucc m =>
            have h : ck (Nat.blt m 999999) (k (.sq false []) st) := h
            have hm := blt_lt h.l
            exact emp (by omega) (by omega) h.r
          | ofNat n =>
            cases n with
            | zero => exact emp (by decide) (by decide) h
            | succ m =>
              cases m with
              | zero => exact .inr (.inr (.inr (.inl ⟨p, 1, vs, rfl, rfl, hp.sq, .inr rfl, by decide, by decide, hk _ _ _ _ _ h ⟨.refl, ok⟩ (.tup hp r)⟩)))
              | succ m =>
                have h : ck (Nat.ble (m + 2) 1000) (ckL (Nat.ble (z :: zs).length 1000) (repG (m + 2) (z :: zs)) fun zs => k (.sq false zs) st) := h
                have h1 := Nat.le_of_ble_eq_true h.l
                have h2 := Nat.le_of_ble_eq_true h.r.l
                refine .inr (.inr (.inl ⟨p, _, vs, rfl, rfl, hp.sq, hne, ?_, ?_, by rw [← r.length]; exact h2, fun t o ho ht => ?_⟩))
                · show (2 : Int) ≤ ((m + 2 : Nat) : Int)
                  omega
                · show ((m + 2 : Nat) : Int) ≤ 1000
                  omega
                · obtain ⟨n2, r3⟩ := new_tup ok (r.rep (m + 2)) ho ht
                  exact hk _ _ _ _ _ h.r.r n2 r3
  | _ => exact h.elim
theorem v_mul (ha : EE c a ea) (hb : EE c b eb) : EE c (.BinOp a .Mult b pos) (eBin oMul ea eb) := v_bin (r := fun X => rMul' X.K) (fun X hX => by
  obtain ⟨cl, n, cm, fr, fk, px, rfl⟩ := hX.eq
  exact ⟨op_mulA.or (op_rep.or (op_repN.or (op_repT1.or op_repT0))), o_mul⟩) ha hb
/-- // and % -/
def divOk (j : Int) : Bool := Nat.blt (Nat.log2 j.natAbs) 9000
def oDiv : Op2 := oInt fun i j p => match j with
  | .ofNat n => (match n with
    | 0 => False
    | _ + 1 => ck (divOk j) (fI (i / j) p))
  | .negSucc n => ck (Nat.blt n 1000000000) (fI (i.fdiv j) p)
def oMod : Op2 := oInt fun i j p => match j with
  | .ofNat n => (match n with
    | 0 => False
    | _ + 1 => fI (i % j) p)
  | .negSucc n => fI (i.fmod j) p
theorem v_div (ha : EE c a ea) (hb : EE c b eb) : EE c (.BinOp a .FloorDiv b pos) (eBin oDiv ea eb) := v_bin (r := fun _ x y H Q => rI CDivW (fun i j => .int (i / j)) x y H Q ∨ rI CDivN (fun i j => .int (i.fdiv j)) x y H Q) (fun X hX => ⟨op_fdivW.or op_fdivN, o_int fun i j p H Q h q => by
  cases j with
  | ofNat n =>
    cases n with
    | zero => exact h.elim
    | succ m =>
      have h : ck (divOk (Int.ofNat (m + 1))) (fI (i / Int.ofNat (m + 1)) p) := h
      rw [fI_eq] at h
      exact .inl ⟨i, _, rfl, rfl, ⟨by show (0 : Int) < ((m + 1 : Nat) : Int); omega, blt_lt h.l⟩, q _ h.r⟩
  | negSucc m =>
    have h : ck (Nat.blt m 1000000000) (fI (i.fdiv (Int.negSucc m)) p) := h
    rw [fI_eq] at h
    have h1 := blt_lt h.l
    exact .inr ⟨i, _, rfl, rfl, ⟨(by intro z; cases z), (by show m + 1 < _; omega)⟩, q _ h.r⟩⟩) ha hb
theorem v_mod (ha : EE c a ea) (hb : EE c b eb) : EE c (.BinOp a .Mod b pos) (eBin oMod ea eb) := v_bin (r := fun _ x y H Q => rI (fun _ j => 0 < j) (fun i j => .int (i % j)) x y H Q ∨ rI (fun _ j => j ≠ 0) (fun i j => .int (i.fmod j)) x y H Q) (fun X hX => ⟨op_mod.or op_modN, o_int fun i j p H Q h q => by
  cases j with
  | ofNat n =>
    cases n with
    | zero => exact h.elim
    | succ m =>
      have h : fI (i % Int.ofNat (m + 1)) p := h
      rw [fI_eq] at h
      exact .inl ⟨i, _, rfl, rfl, by show (0 : Int) < ((m + 1 : Nat) : Int); omega, q _ h⟩
  | negSucc m =>
    have h : fI (i.fmod (Int.negSucc m)) p := h
    rw [fI_eq] at h
    exact .inr ⟨i, _, rfl, rfl, (by show Int.negSucc m ≠ 0; intro z; cases z), q _ h⟩⟩) ha hb
def powI (i : Int) : Nat → Int
  | 0 => 1
  | n + 1 => powI i n * i
theorem powI_eq (i : Int) (n : Nat) : powI i n = i ^ n := by
  induction n with
  | zero => exact (Int.pow_zero i).symm
  | succ n ih => rw [Int.pow_succ, ← ih]; rfl
def oPow : Op2 := oInt fun i j p => match j with
  | .ofNat n => ck (Nat.ble n 1000) (ck (Nat.blt i.natAbs 18446744073709551616) (fI (powI i n) p))
  | .negSucc _ => False
theorem v_pow (ha : EE c a ea) (hb : EE c b eb) : EE c (.BinOp a .Pow b pos) (eBin oPow ea eb) := v_bin (r := fun _ => rI CPow fun i j => .int (i ^ j.toNat)) (fun X hX => ⟨op_pow, o_int fun i j p H Q h q => by
  cases j with
  | ofNat n =>
    have h : ck (Nat.ble n 1000) (ck (Nat.blt i.natAbs 18446744073709551616) (fI (powI i n) p)) := h
    rw [fI_eq, powI_eq] at h
    have h1 := Nat.le_of_ble_eq_true h.l
    have h2 := blt_lt h.r.l
    exact ⟨i, _, rfl, rfl, ⟨by show (0 : Int) ≤ ((n : Nat) : Int); omega, by show ((n : Nat) : Int) ≤ 1000000; omega, h2⟩, q _ h.r.r⟩
  | negSucc m => exact h.elim⟩) ha hb
/-- one-place: - -/
def eNeg (a : Ev) : Ev := fun l st k ex => a l st (fun x st1 => match x with
  | .int i => fI (-i) fun s => k (.int s) st1
  | _ => False) ex
theorem v_neg (ha : EE c a ea) : EE c (.UnaryOp .USub a pos) (eNeg ea) := fun X hX W tk =>
  (pe_un un_neg (ha X hX W tk)).imp fun _ _ _ q => by
    obtain ⟨g, l, st, k, ex, bs, h1, hk, hx⟩ := q
    refine ⟨g, l, st, _, ex, bs, h1, fun v st1 g1 H1 x h2 n1 r1 => ?_, hx⟩
    cases v <;> try exact h2.elim
    rename_i i
    cases r1
    have h2 : fI (-i) (fun s => k (.int s) st1) := h2
    rw [fI_eq] at h2
    exact ⟨i, rfl, hk _ _ _ _ _ h2 n1 (.int _)⟩

/-! ### order -/
def lexG : List G → List G → Option Bool
  | [], [] => some false
  | [], _ :: _ => some true
  | _ :: _, [] => some false
  | x :: xs, y :: ys => match x with
    | .int i => (match y with
      | .int j => (match PySem.W.Z.eqB i j with
        | true => lexG xs ys
        | false => some (PySem.W.Z.ltB i j))
      | _ => none)
    | _ => none
/-- all are ints -/
def intsG : List G → Option (List Int)
  | [] => some []
  | x :: xs => match x with
    | .int i => (match intsG xs with
      | some r => some (i :: r)
      | none => none)
    | _ => none
theorem intsG_rp {g : Gh} {H : Hp} : ∀ {xs : List G} {vs : List V} {ns : List Int}, c.RpL g H xs vs → intsG xs = some ns → vs = ns.map V.int
  | [], _, _, .nil, e => by cases e; rfl
  | x :: xs, _, _, .cons h r, e => by
    cases x <;> try (cases e; done)
    rename_i i
    unfold intsG at e
    cases q : intsG xs with
    | none => rw [q] at e; cases e
    | some z =>
      rw [q] at e
      cases e
      cases h
      rw [intsG_rp r q]; rfl
def lexI : List Int → List Int → Bool
  | [], [] => false
  | [], _ :: _ => true
  | _ :: _, [] => false
  | x :: xs, y :: ys => match PySem.W.Z.eqB x y with
    | true => lexI xs ys
    | false => PySem.W.Z.ltB x y
theorem lexI_eq : ∀ (xs ys : List Int), lexI xs ys = HT.lexLt xs ys
  | [], [] => rfl
  | [], _ :: _ => rfl
  | _ :: _, [] => rfl
  | x :: xs, y :: ys => by
    unfold lexI
    rw [eqB_dec, HT.lexLt_cons, ltB_dec, lexI_eq xs ys]
    by_cases h : x = y
    · simp [h]
    · simp [h]
def oLt : Op2 := fun a b st k => match a with
  | .int i => (match b with
    | .int j => k (.bl (PySem.W.Z.ltB i j)) st
    | _ => False)
  | .sq l xs => (match l with
    | true => False
    | false => (match seqT b with
      | some ys => (match intsG xs with
        | some ns => (match intsG ys with
          | some ms => k (.bl (lexI ns ms)) st
          | none => False)
        | none => False)
      | none => False))
  | _ => False
theorem r_lt : ∀ X, At c X → OpR X (compareOp .Lt) (fun x y H Q => (rI0 fun i j => .bl (decide (i < j))) x y H Q ∨ rLtT X.K x y H Q) ∧ O2 c oLt (fun x y H Q => (rI0 fun i j => .bl (decide (i < j))) x y H Q ∨ rLtT X.K x y H Q) := fun X hX => by
    obtain ⟨cl, n, cm, fr, fk, px, rfl⟩ := hX.eq
    refine ⟨op_lt.or (op_ltT (by have := hX.units; omega)), fun a b st k g H x y Q ok ra rb h hk => ?_⟩
    cases a with
    | int i =>
      cases b <;> try exact h.elim
      rename_i j
      cases ra; cases rb
      refine .inl ⟨i, j, rfl, rfl, ?_⟩
      have z := hk _ _ _ _ _ h ⟨.refl, ok⟩ (.bl _)
      rw [ltB_dec] at z
      exact z
    | sq l xs =>
      cases l with
      | true => exact h.elim
      | false =>
        have h : (match seqT b with
          | some ys => (match intsG xs with
            | some ns => (match intsG ys with
              | some ms => k (.bl (lexI ns ms)) st
              | none => False)
            | none => False)
          | none => False) := h
        split at h <;> try exact h.elim
        rename_i ys e
        split at h <;> try exact h.elim
        rename_i ns e1
        split at h <;> try exact h.elim
        rename_i ms e2
        obtain ⟨p, vs, rfl, h1, r1⟩ := seqT_rp ra (xs := xs) rfl
        obtain ⟨q, us, rfl, h2, r2⟩ := seqT_rp rb e
        have h1 := h1.sq
        have h2 := h2.sq
        rw [intsG_rp r1 e1] at h1
        rw [intsG_rp r2 e2] at h2
        refine .inr ⟨p, q, ns, ms, rfl, rfl, h1, h2, ?_⟩
        rw [← lexI_eq]
        exact hk _ _ _ _ _ h ⟨.refl, ok⟩ (.bl _)
    | _ => exact h.elim
theorem v_lt (ha : EE c a ea) (hb : EE c b eb) : EE c (.Compare a [.Lt] [b] pos) (eBin oLt ea eb) := v_cmp r_lt (nomark _) ha hb
theorem t_lt (ha : EE c a ea) (hb : EE c b eb) : ET c (.Compare a [.Lt] [b] pos) (eTest (eBin oLt ea eb)) := t_cmp r_lt (nomark _) ha hb
/-- of two ints, a truth -/
def oCmp (f : Int → Int → Bool) : Op2 := fun a b st k => match a with
  | .int i => (match b with
    | .int j => k (.bl (f i j)) st
    | _ => False)
  | _ => False
theorem o_cmp {f f' : Int → Int → Bool} (e : ∀ i j, f i j = f' i j) : O2 c (oCmp f) (rI0 fun i j => .bl (f' i j)) := fun a b st k g H x y Q ok ra rb h hk => by
  cases a <;> try exact h.elim
  cases b <;> try exact h.elim
  cases ra; cases rb
  refine ⟨_, _, rfl, rfl, ?_⟩
  have z := hk _ _ _ _ _ h ⟨.refl, ok⟩ (.bl _)
  rw [e] at z
  exact z
abbrev oLe : Op2 := oCmp PySem.W.Z.leB
abbrev oGt : Op2 := oCmp fun i j => PySem.W.Z.ltB j i
abbrev oGe : Op2 := oCmp fun i j => PySem.W.Z.leB j i
theorem r_le : ∀ X, At c X → OpR X (compareOp .LtE) (rI0 fun i j => .bl (decide (i ≤ j))) ∧ O2 c oLe (rI0 fun i j => .bl (decide (i ≤ j))) := fun X hX => ⟨op_le, o_cmp (leB_dec)⟩
theorem v_le (ha : EE c a ea) (hb : EE c b eb) : EE c (.Compare a [.LtE] [b] pos) (eBin oLe ea eb) := v_cmp r_le (nomark _) ha hb
theorem t_le (ha : EE c a ea) (hb : EE c b eb) : ET c (.Compare a [.LtE] [b] pos) (eTest (eBin oLe ea eb)) := t_cmp r_le (nomark _) ha hb
theorem r_gt : ∀ X, At c X → OpR X (compareOp .Gt) (rI0 fun i j => .bl (decide (j < i))) ∧ O2 c oGt (rI0 fun i j => .bl (decide (j < i))) := fun X hX => ⟨op_gt, o_cmp (fun i j => ltB_dec j i)⟩
theorem v_gt (ha : EE c a ea) (hb : EE c b eb) : EE c (.Compare a [.Gt] [b] pos) (eBin oGt ea eb) := v_cmp r_gt (nomark _) ha hb
theorem t_gt (ha : EE c a ea) (hb : EE c b eb) : ET c (.Compare a [.Gt] [b] pos) (eTest (eBin oGt ea eb)) := t_cmp r_gt (nomark _) ha hb
theorem r_ge : ∀ X, At c X → OpR X (compareOp .GtE) (rI0 fun i j => .bl (decide (j ≤ i))) ∧ O2 c oGe (rI0 fun i j => .bl (decide (j ≤ i))) := fun X hX => ⟨op_ge, o_cmp (fun i j => leB_dec j i)⟩
theorem v_ge (ha : EE c a ea) (hb : EE c b eb) : EE c (.Compare a [.GtE] [b] pos) (eBin oGe ea eb) := v_cmp r_ge (nomark _) ha hb
theorem t_ge (ha : EE c a ea) (hb : EE c b eb) : ET c (.Compare a [.GtE] [b] pos) (eTest (eBin oGe ea eb)) := t_cmp r_ge (nomark _) ha hb
/-- is None -/
def isNonG : G → Bool
  | .non => true
  | _ => false
def oIsN : Op2 := fun a b st k => match b with
  | .non => k (.bl (isNonG a)) st
  | _ => False
def oNotN : Op2 := fun a b st k => match b with
  | .non => k (.bl (!isNonG a)) st
  | _ => False
theorem isNon_rp {g : Gh} {H : Hp} {v : G} {x : V} (r : c.Rp g H v x) : isNonG v = decide (x = .non) := by
  cases r <;> first | rfl | exact (decide_eq_false (fun z => nomatch z)).symm
theorem r_isN : ∀ X, At c X → OpR X (compareOp .Is) (fun x y H Q => y = .non ∧ Q (.bl (decide (x = .non))) H) ∧ O2 c oIsN (fun x y H Q => y = .non ∧ Q (.bl (decide (x = .non))) H) := fun X hX => ⟨op_isN, fun a b st k g H x y Q ok ra rb h hk => by
    cases b <;> try exact h.elim
    cases rb
    refine ⟨rfl, ?_⟩
    rw [← isNon_rp ra]
    exact hk _ _ _ _ _ h ⟨.refl, ok⟩ (.bl _)⟩
theorem v_isN (ha : EE c a ea) (hb : EE c b eb) : EE c (.Compare a [.Is] [b] pos) (eBin oIsN ea eb) := v_cmp r_isN (nomark _) ha hb
theorem t_isN (ha : EE c a ea) (hb : EE c b eb) : ET c (.Compare a [.Is] [b] pos) (eTest (eBin oIsN ea eb)) := t_cmp r_isN (nomark _) ha hb
theorem r_notN : ∀ X, At c X → OpR X (compareOp .IsNot) (fun x y H Q => y = .non ∧ Q (.bl (!decide (x = .non))) H) ∧ O2 c oNotN (fun x y H Q => y = .non ∧ Q (.bl (!decide (x = .non))) H) := fun X hX => ⟨op_notN, fun a b st k g H x y Q ok ra rb h hk => by
    cases b <;> try exact h.elim
    cases rb
    refine ⟨rfl, ?_⟩
    rw [← isNon_rp ra]
    exact hk _ _ _ _ _ h ⟨.refl, ok⟩ (.bl _)⟩
theorem v_notN (ha : EE c a ea) (hb : EE c b eb) : EE c (.Compare a [.IsNot] [b] pos) (eBin oNotN ea eb) := v_cmp r_notN (nomark _) ha hb
theorem t_notN (ha : EE c a ea) (hb : EE c b eb) : ET c (.Compare a [.IsNot] [b] pos) (eTest (eBin oNotN ea eb)) := t_cmp r_notN (nomark _) ha hb
end
end RS

/-! RS: deep equality, chains, subscripts, slices. -/
namespace RS
open PySem PySem.Spec L2
/-! ### == of data -/
def eqNs : List Nat → List Nat → Bool
  | [], [] => true
  | a :: r, b :: s => (match Nat.beq a b with
    | true => eqNs r s
    | false => false)
  | [], _ :: _ => false
  | _ :: _, [] => false
theorem eqNs_dec : ∀ a b : List Nat, eqNs a b = decide (a = b)
  | [], [] => rfl
  | [], _ :: _ => rfl
  | _ :: _, [] => rfl
  | x :: r, y :: s => by
    unfold eqNs
    rw [beqN, eqNs_dec r s]
    by_cases h : x = y
    · simp [h]
    · simp [h]
def eqS (a b : Str) : Bool := eqNs a.cps.toList b.cps.toList
theorem eqS_dec (a b : Str) : eqS a b = (a == b) := by
  unfold eqS
  rw [eqNs_dec, Bool.beq_eq_decide_eq]
  cases a with | mk a => cases b with | mk b =>
  cases a with | mk a => cases b with | mk b =>
  by_cases h : a = b
  · simp [h]
  · simp [h]
def allG (p : G → Bool) : List G → Bool
  | [] => true
  | x :: r => (match p x with
    | true => allG p r
    | false => false)
def strOkB (x : Str) : Bool := x.cps.toList.all fun n => Nat.blt n 1114112
def okD (n : Nat) (x : G) : Bool := match x with
  | .non => true
  | .bl _ => true
  | .int _ => true
  | .str x => strOkB x
  | .sq _ xs => (match n with
    | 0 => false
    | m + 1 => allG (okD m) xs)
  | _ => false
def toD (n : Nat) (x : G) : PyData := match x with
  | .bl b => .bool b
  | .int i => .int i
  | .str x => .str x
  | .sq l xs => (match n with
    | 0 => .none
    | m + 1 => if l = true then .list (xs.map (toD m)) else .tuple (xs.map (toD m)))
  | _ => .none
def eqGs (p : G → G → Bool) : List G → List G → Bool
  | [], [] => true
  | x :: r, y :: s => (match p x y with
    | true => eqGs p r s
    | false => false)
  | [], _ :: _ => false
  | _ :: _, [] => false
def eqG (n : Nat) (x y : G) : Bool := match x with
  | .non => (match y with
    | .non => true
    | _ => false)
  | .bl a => (match y with
    | .bl b => (match a with
      | true => b
      | false => !b)
    | .int j => PySem.W.Z.eqB (match a with
      | true => 1
      | false => 0) j
    | _ => false)
  | .int i => (match y with
    | .int j => PySem.W.Z.eqB i j
    | .bl b => PySem.W.Z.eqB i (match b with
      | true => 1
      | false => 0)
    | _ => false)
  | .str a => (match y with
    | .str b => eqS a b
    | _ => false)
  | .sq l xs => (match n with
    | 0 => false
    | m + 1 => (match y with
      | .sq k ys => (match l with
        | true => (match k with
          | true => eqGs (eqG m) xs ys
          | false => false)
        | false => (match k with
          | true => false
          | false => eqGs (eqG m) xs ys))
      | _ => false))
  | _ => false
theorem allG_mem {p : G → Bool} : ∀ {xs : List G}, allG p xs = true → ∀ x ∈ xs, p x = true
  | [], _, _, h => nomatch h
  | y :: r, e, x, h => by
    unfold allG at e
    split at e
    · rename_i q
      rcases List.mem_cons.mp h with h | h
      · rw [h]; exact q
      · exact allG_mem e x h
    · cases e
theorem eqv_map {m : Nat} : ∀ {xs ys : List G}, (∀ x ∈ xs, ∀ y ∈ ys, eqG m x y = PyData.eqv (toD m x) (toD m y)) → eqGs (eqG m) xs ys = PyData.eqvAll (xs.map (toD m)) (ys.map (toD m))
  | [], [], _ => rfl
  | [], _ :: _, _ => rfl
  | _ :: _, [], _ => rfl
  | x :: r, y :: s, h => by
    have e1 := h x List.mem_cons_self y List.mem_cons_self
    have e2 := eqv_map (xs := r) (ys := s) fun a ha b hb => h a (List.mem_cons_of_mem _ ha) b (List.mem_cons_of_mem _ hb)
    show (match eqG m x y with | true => eqGs (eqG m) r s | false => false) = (PyData.eqv (toD m x) (toD m y) && PyData.eqvAll (r.map (toD m)) (s.map (toD m)))
    rw [e1, e2]
    cases PyData.eqv (toD m x) (toD m y) <;> rfl
theorem i_beq (i j : Int) : PySem.W.Z.eqB i j = (i == j) := by rw [eqB_dec, Bool.beq_eq_decide_eq]
theorem eqG_eqv : ∀ (n : Nat) (x y : G), okD n x = true → okD n y = true → eqG n x y = PyData.eqv (toD n x) (toD n y) := by
  intro n
  induction n with
  | zero =>
    intro x y hx hy
    cases x <;> cases y <;> first
      | (exact absurd (show false = true from hx) Bool.false_ne_true)
      | (exact absurd (show false = true from hy) Bool.false_ne_true)
      | rfl
      | (rename_i a b; cases a <;> cases b <;> rfl)
      | (rename_i a b; exact i_beq _ _)
      | (rename_i a b; exact eqS_dec _ _)
      | (rename_i a b; cases a <;> exact i_beq _ _)
      | (rename_i a b; cases b <;> exact i_beq _ _)
  | succ m ih =>
    intro x y hx hy
    cases x <;> cases y <;> first
      | (exact absurd (show false = true from hx) Bool.false_ne_true)
      | (exact absurd (show false = true from hy) Bool.false_ne_true)
      | rfl
      | (rename_i a b; cases a <;> cases b <;> rfl)
      | (rename_i a b; exact i_beq _ _)
      | (rename_i a b; exact eqS_dec _ _)
      | (rename_i a b; cases a <;> exact i_beq _ _)
      | (rename_i a b; cases b <;> exact i_beq _ _)
      | (rename_i l xs; cases l <;> rfl)
      | (rename_i l xs a; cases l <;> rfl)
      | (rename_i a l xs; cases l <;> rfl)
      | (rename_i l xs k ys
         have h1 : allG (okD m) xs = true := hx
         have h2 : allG (okD m) ys = true := hy
         have e := eqv_map (m := m) (xs := xs) (ys := ys) fun a ha b hb => ih a b (allG_mem h1 a ha) (allG_mem h2 b hb)
         cases l <;> cases k <;> first | exact e | rfl)
mutual
theorem can_toD : ∀ (n : Nat) (x : G), okD n x = true → (toD n x).canLay0 = true
  | n, .non, _ => by cases n <;> rfl
  | n, .bl b, _ => by cases n <;> rfl
  | n, .int i, _ => by cases n <;> rfl
  | n, .str x, h => by
    have h : strOkB x = true := by cases n <;> exact h
    have e : PyData.strOk x = true := by
      unfold strOkB at h
      unfold PyData.strOk
      rw [Array.all_eq_true']
      intro a ha
      rw [List.all_eq_true] at h
      have := h a (Array.mem_toList_iff.mpr ha)
      exact decide_eq_true (blt_lt this)
    cases n <;> exact e
  | 0, .sq l xs, h => absurd (show false = true from h) Bool.false_ne_true
  | m + 1, .sq l xs, h => by
    have e := can_all m xs (show allG (okD m) xs = true from h)
    cases l <;> exact e
  | n, .ty t, h => by cases n <;> exact absurd (show false = true from h) Bool.false_ne_true
  | n, .cls _, h => by cases n <;> exact absurd (show false = true from h) Bool.false_ne_true
  | n, .ref _, h => by cases n <;> exact absurd (show false = true from h) Bool.false_ne_true
  | n, .fz _, h => by cases n <;> exact absurd (show false = true from h) Bool.false_ne_true
  | n, .sw _, h => by cases n <;> exact absurd (show false = true from h) Bool.false_ne_true
theorem can_all : ∀ (n : Nat) (xs : List G), allG (okD n) xs = true → PyData.canLayAll0 (xs.map (toD n)) = true
  | _, [], _ => rfl
  | n, x :: r, h => by
    have h1 := allG_mem h x List.mem_cons_self
    have h2 : allG (okD n) r = true := by
      unfold allG at h
      rw [h1] at h
      exact h
    show (PyData.canLay0 (toD n x) && PyData.canLayAll0 (r.map (toD n))) = true
    rw [can_toD n x h1, can_all n r h2]; rfl
end
theorem depthAll_le {n : Nat} : ∀ {ds : List PyData}, (∀ d ∈ ds, d.depth ≤ n) → PyData.depthAll ds ≤ n
  | [], _ => Nat.zero_le _
  | d :: r, h => Nat.max_le.mpr ⟨h d List.mem_cons_self, depthAll_le fun x hx => h x (List.mem_cons_of_mem _ hx)⟩
theorem depth_toD : ∀ (n : Nat) (x : G), (toD n x).depth ≤ n := by
  intro n
  induction n with
  | zero => intro x; cases x <;> exact Nat.le_refl _
  | succ m ih =>
    intro x
    cases x <;> try exact Nat.zero_le _
    rename_i l xs
    have : PyData.depthAll (xs.map (toD m)) ≤ m := depthAll_le fun d hd => by
      obtain ⟨y, _, rfl⟩ := List.mem_map.mp hd
      exact ih y
    cases l with
    | true => exact Nat.succ_le_succ this
    | false => exact Nat.succ_le_succ this
theorem shaped_toD {n : Nat} {x : G} (h : okD n x = true) (hn : n ≤ 64) : SeqAt.shaped (toD n x) = true := by
  unfold SeqAt.shaped
  rw [can_toD n x h, decide_eq_true (Nat.le_trans (depth_toD n x) hn)]; rfl
section
variable {K : PySem.W.Frag} {cl : Nat → Addr} {g : Gh} {H : Hp}
theorem dp_all {n : Nat} (ih : ∀ (x : G) (v : V), okD n x = true → Rp K cl g H x v → Dp K H v (toD n x)) : ∀ {xs : List G} {vs : List V}, allG (okD n) xs = true → RpL K cl g H xs vs → DpAll K H vs (xs.map (toD n))
  | [], _, _, .nil => .nil
  | x :: r, _, h, .cons a b => by
    have h1 := allG_mem h x List.mem_cons_self
    have h2 : allG (okD n) r = true := by
      unfold allG at h
      rw [h1] at h
      exact h
    exact .cons (ih _ _ h1 a) (dp_all ih h2 b)
theorem dp_of : ∀ (n : Nat) (x : G) (v : V), okD n x = true → Rp K cl g H x v → Dp K H v (toD n x) := by
  intro n
  induction n with
  | zero =>
    intro x v h r
    cases r <;> first
      | exact absurd (show false = true from h) Bool.false_ne_true
      | exact .non
      | exact .bl _
      | exact .int _
      | exact .str _
  | succ m ih =>
    intro x v h r
    cases r <;> first
      | exact absurd (show false = true from h) Bool.false_ne_true
      | exact .non
      | exact .bl _
      | exact .int _
      | exact .str _
      | skip
    case tup a xs vs hp r => exact .tup hp.sq (dp_all ih (show allG (okD m) xs = true from h) r)
    case lst a xs vs f hp r => exact .lst (.of hp) (dp_all ih (show allG (okD m) xs = true from h) r)
end
/-- a list of the store as a value -/
def deref (st : Sto) (x : G) : G := match x with
  | .ref n => (match listO (getO st.ob n) with
    | some xs => .sq true xs
    | none => .ref n)
  | x => x
section
variable {c : Cf} {a b d : Expr} {ea eb ed : Ev} {pos : Pos}
theorem dp_ref {g : Gh} {H : Hp} {st : Sto} {x : G} {v : V} {n : Nat} (ok : c.Ok g H st) (r : c.Rp g H x v) (h : okD n (deref st x) = true) : Dp c.K H v (toD n (deref st x)) := by
  cases x with
  | ref m =>
    cases e : listO (getO st.ob m) with
    | none =>
      have : deref st (.ref m) = .ref m := by show (match listO (getO st.ob m) with | some xs => G.sq true xs | none => .ref m) = _; rw [e]
      rw [this] at h
      cases n <;> exact absurd (show false = true from h) Bool.false_ne_true
    | some xs =>
      have e2 : deref st (.ref m) = .sq true xs := by show (match listO (getO st.ob m) with | some xs => G.sq true xs | none => .ref m) = _; rw [e]
      rw [e2] at h ⊢
      obtain ⟨vs, rfl, h2, h3⟩ := obj_lst ok r rfl (listO_some e)
      cases n with
      | zero => exact absurd (show false = true from h) Bool.false_ne_true
      | succ m => exact .lst (.of h2) (dp_all (fun x v => dp_of m x v) (show allG (okD m) xs = true from h) h3)
  | _ => exact dp_of n _ v h r
def oEqW (f : Bool → Bool) : Op2 := fun a b st k => ck (okD 60 (deref st a)) (ck (okD 60 (deref st b)) (k (.bl (f (eqG 60 (deref st a) (deref st b)))) st))
abbrev oEq : Op2 := oEqW fun b => b
abbrev oNe : Op2 := oEqW not
theorem r_eq : ∀ X, At c X → OpR X (compareOp .Eq) (rEqD X.K) ∧ O2 c oEq (rEqD X.K) := fun X hX => by
  obtain ⟨cl, n, cm, fr, fk, px, rfl⟩ := hX.eq
  refine ⟨op_eqD hX.units, fun a b st k g H x y Q ok ra rb h hk => ?_⟩
  refine ⟨_, _, dp_ref ok ra h.l, dp_ref ok rb h.r.l, shaped_toD h.l (by decide), shaped_toD h.r.l (by decide), ?_⟩
  rw [← eqG_eqv _ _ _ h.l h.r.l]
  exact hk _ _ _ _ _ h.r.r ⟨.refl, ok⟩ (.bl _)
theorem r_ne : ∀ X, At c X → OpR X (compareOp .NotEq) (rNeD X.K) ∧ O2 c oNe (rNeD X.K) := fun X hX => by
  obtain ⟨cl, n, cm, fr, fk, px, rfl⟩ := hX.eq
  refine ⟨op_neD hX.units, fun a b st k g H x y Q ok ra rb h hk => ?_⟩
  refine ⟨_, _, dp_ref ok ra h.l, dp_ref ok rb h.r.l, shaped_toD h.l (by decide), shaped_toD h.r.l (by decide), ?_⟩
  rw [← eqG_eqv _ _ _ h.l h.r.l]
  exact hk _ _ _ _ _ h.r.r ⟨.refl, ok⟩ (.bl _)
theorem v_eq (ha : EE c a ea) (hb : EE c b eb) : EE c (.Compare a [.Eq] [b] pos) (eBin oEq ea eb) := v_cmp r_eq (nomark _) ha hb
theorem t_eq (ha : EE c a ea) (hb : EE c b eb) : ET c (.Compare a [.Eq] [b] pos) (eTest (eBin oEq ea eb)) := t_cmp r_eq (nomark _) ha hb
theorem v_ne (ha : EE c a ea) (hb : EE c b eb) : EE c (.Compare a [.NotEq] [b] pos) (eBin oNe ea eb) := v_cmp r_ne (nomark _) ha hb
theorem t_ne (ha : EE c a ea) (hb : EE c b eb) : ET c (.Compare a [.NotEq] [b] pos) (eTest (eBin oNe ea eb)) := t_cmp r_ne (nomark _) ha hb
/-! ### chains -/
def eChain (o o' : Op2) (a b d : Ev) : Ev := fun l st k ex => a l st (fun x st1 => b l st1 (fun y st2 => o x y st2 fun z st3 => match z with
  | .bl t => (match t with
    | true => d l st3 (fun w st4 => o' y w st4 k) ex
    | false => k (.bl false) st3)
  | _ => False) ex) ex
theorem chain_tE {W : WX} {o o' : Op2} {r r' : R2} (h : O2 c o r) (h' : O2 c o' r') {σ : St} {H : Hp} {Q : VK} (q : tE c W (eChain o o' ea eb ed) σ H Q) : tChain r r' (tE c W ea) (tE c W eb) (tE c W ed) σ H Q := by
  obtain ⟨g, l, st, k, ex, bs, h1, hk, hx⟩ := q
  refine ⟨g, l, st, _, ex, bs, h1, fun x st1 g1 H1 v h2 n1 r1 => ?_, hx⟩
  refine ⟨g1, l, st1, _, ex, bs.nw n1, h2, fun y st2 g2 H2 u h3 n2 r2 => ?_, hx.fut n1.f⟩
  refine h _ _ _ _ _ _ _ _ _ n2.ok (r1.fut n2.f) r2 h3 fun z st3 g3 H3 w h4 n3 r3 => ?_
  cases z <;> try exact h4.elim
  rename_i t
  cases r3
  have n13 := n1.trans (n2.trans n3)
  refine ⟨t, rfl, ?_⟩
  cases t with
  | true =>
    rw [if_pos rfl]
    refine ⟨g3, l, st3, _, ex, bs.nw n13, h4, fun w st4 g4 H4 u' h5 n4 r4 => ?_, hx.fut n13.f⟩
    exact h' _ _ _ _ _ _ _ _ _ n4.ok (r2.fut (n3.f.trans n4.f)) r4 h5 (hk.fut (n13.f.trans n4.f))
  | false =>
    rw [if_neg Bool.false_ne_true]
    exact hk _ _ _ _ _ h4 n13 (.bl _)
theorem v_chain {o o' : Op2} {p p' : CmpOp} {r r' : Cx → R2} (hr : ∀ X, At c X → OpR X (compareOp p) (r X) ∧ O2 c o (r X)) (hr' : ∀ X, At c X → OpR X (compareOp p') (r' X) ∧ O2 c o' (r' X)) (ha : EE c a ea) (hb : EE c b eb) (hd : EE c d ed)
    (hm : lastMarks [p, p'] [b, d] = false := by with_unfolding_all rfl) : EE c (.Compare a [p, p'] [b, d] pos) (eChain o o' ea eb ed) := fun X hX W tk =>
  (pe_chain (hr X hX).1 (hr' X hX).1 (ha X hX W tk) (hb X hX W tk) (hd X hX W tk) hm).imp fun _ _ _ q => chain_tE (hr X hX).2 (hr' X hX).2 q
theorem t_chain {o o' : Op2} {p p' : CmpOp} {r r' : Cx → R2} (hr : ∀ X, At c X → OpR X (compareOp p) (r X) ∧ O2 c o (r X)) (hr' : ∀ X, At c X → OpR X (compareOp p') (r' X) ∧ O2 c o' (r' X)) (ha : EE c a ea) (hb : EE c b eb) (hd : EE c d ed)
    (hm : lastMarks [p, p'] [b, d] = false := by with_unfolding_all rfl) : ET c (.Compare a [p, p'] [b, d] pos) (eTest (eChain o o' ea eb ed)) := fun X hX W tk =>
  (pt_chain (hr X hX).1 (hr' X hX).1 (ha X hX W tk) (hb X hX W tk) (hd X hX W tk) hm).imp fun _ _ _ q => test_tT (fun _ _ _ q => chain_tE (hr X hX).2 (hr' X hX).2 q) q

/-! ### subscripts, slices -/
def nthG (xs : List G) (i : Int) : Option G := match i with
  | .ofNat n => xs[n]?
  | .negSucc n => (match Nat.ble (n + 1) xs.length with
    | true => xs[xs.length - (n + 1)]?
    | false => none)
theorem nth_rp {g : Gh} {H : Hp} {xs : List G} {vs : List V} {i : Int} {y : G} (r : c.RpL g H xs vs) (e : nthG xs i = some y) : ∃ v, atI vs i = some v ∧ c.Rp g H y v := by
  cases i with
  | ofNat n =>
    have e : xs[n]? = some y := e
    obtain ⟨v, h1, h2⟩ := r.get e
    exact ⟨v, atI_nat h1, h2⟩
  | negSucc n =>
    have e : (match Nat.ble (n + 1) xs.length with
      | true => xs[xs.length - (n + 1)]?
      | false => none) = some y := e
    split at e
    · rename_i q
      have q := Nat.le_of_ble_eq_true q
      obtain ⟨v, h1, h2⟩ := r.get e
      refine ⟨v, ?_, h2⟩
      have hl := r.length
      have e2 : ixN vs.length (Int.negSucc n) = some (xs.length - (n + 1)) := by
        unfold ixN
        rw [if_neg (by omega), if_pos (by omega)]
        congr 1
        omega
      unfold atI
      rw [e2]
      exact h1
    · cases e
def oIx : Op2 := fun a b st k => match b with
  | .int i => (match seqA st a with
    | some xs => (match nthG xs i with
      | some y => k y st
      | none => False)
    | none => False)
  | _ => False
theorem v_ix (ha : EE c a ea) (hb : EE c b eb) (hs : PlainIx b := by intro _ _; rfl) : EE c (.Subscript a b pos) (eBin oIx ea eb) := fun X hX W tk => by
  obtain ⟨cl, n, cm, fr, fk, px, rfl⟩ := hX.eq
  refine (pe_ix (ix_list.or ix_tup) (ha X hX W tk) (hb X hX W tk) hs).imp fun _ _ _ q => bin_tE (X := X) (fun a b st k g H x y Q ok ra rb h hk => ?_) q
  cases b <;> try exact h.elim
  rename_i i
  cases rb
  have h : (match seqA st a with
    | some xs => (match nthG xs i with
      | some y => k y st
      | none => False)
    | none => False) := h
  split at h <;> try exact h.elim
  rename_i xs e
  split at h <;> try exact h.elim
  rename_i y e1
  obtain ⟨p, vs, rfl, h1, r1⟩ := seqA_rp ok ra e
  obtain ⟨v, h2, r2⟩ := nth_rp r1 e1
  have z := hk _ _ _ _ _ h ⟨.refl, ok⟩ r2
  rcases h1 with h1 | h1
  · exact .inl ⟨p, vs, i, v, rfl, rfl, h1, h2, z⟩
  · exact .inr ⟨p, vs, i, v, rfl, rfl, h1, h2, z⟩
/-- a bound of a slice -/
abbrev EvO := L → Sto → (Option Int → Sto → Prop) → KX → Prop
def oNo : EvO := fun _ st k _ => k none st
def oSome (e : Ev) : EvO := fun l st k ex => e l st (fun v st1 => match v with
  | .int i => k (some i) st1
  | _ => False) ex
def KeepO (c : Cf) (g : Gh) (H : Hp) (k : Option Int → Sto → Prop) (Q : Option Int → Hp → Prop) : Prop := ∀ b st' g' H', k b st' → Nw c g H st' g' H' → Q b H'
def tO (c : Cf) (W : WX) (ev : EvO) : TO := fun σ H Q => ∃ g l st k ex, Bs c g H st l σ ∧ ev l st k ex ∧ KeepO c g H k Q ∧ KeepX c g H ex (fun cls d H' => W cls d σ H')
def EO (c : Cf) (e : Option Expr) (ev : EvO) : Prop := ∀ X, At c X → ∀ W, Takes X W → PO X e (tO c W ev)
theorem _root_.L2.PO.imp {X : Cx} {e : Option Expr} {t t' : TO} (h : PO X e t) (i : ∀ σ H Q, t' σ H Q → t σ H Q) : PO X e t' := ⟨fun pins s σ H Q I q => h.run pins s σ H Q I (i σ H Q q)⟩
theorem o_no : EO c none oNo := fun X hX W tk => po_none.imp fun σ H Q q => by
  obtain ⟨g, l, st, k, ex, b, h, hk, _⟩ := q
  exact hk _ _ _ _ h (.refl b)
theorem o_some (h : EE c a ea) : EO c (some a) (oSome ea) := fun X hX W tk => (po_some (h X hX W tk)).imp fun σ H Q q => by
  obtain ⟨g, l, st, k, ex, b, h1, hk, hx⟩ := q
  refine ⟨g, l, st, _, ex, b, h1, fun v st1 g1 H1 x h2 n1 r1 => ?_, hx⟩
  cases v <;> try exact h2.elim
  cases r1
  exact ⟨_, rfl, hk _ _ _ _ h2 n1⟩
def clamp (n d : Nat) (o : Option Int) : Nat := match o with
  | none => d
  | some i => (match i with
    | .ofNat m => (match Nat.ble m n with
      | true => m
      | false => n)
    | .negSucc m => Nat.sub n (m + 1))
theorem clamp_eq (n d : Nat) (o : Option Int) : clamp n d o = HT.sIx n d o := by
  cases o with
  | none => rfl
  | some i =>
    cases i with
    | ofNat m =>
      show (match Nat.ble m n with | true => m | false => n) = _
      rw [show (some (Int.ofNat m)) = some ((m : Nat) : Int) from rfl, HT.sIx_nat]
      by_cases h : m ≤ n
      · rw [Nat.ble_eq_true_of_le h]; show m = _; omega
      · have : Nat.ble m n = false := Bool.eq_false_iff.mpr fun z => h (Nat.le_of_ble_eq_true z)
        rw [this]; show n = _; omega
    | negSucc m =>
      show n - (m + 1) = (if Int.negSucc m < 0 then (Int.negSucc m + (n : Int)).toNat else min (Int.negSucc m).toNat n)
      rw [if_pos (Int.negSucc_lt_zero m)]
      omega
def cutG (xs : List G) (lo hi : Option Int) : List G := (xs.drop (clamp xs.length 0 lo)).take (clamp xs.length xs.length hi - clamp xs.length 0 lo)
theorem cut_rp {g : Gh} {H : Hp} {xs : List G} {vs : List V} (r : c.RpL g H xs vs) (lo hi : Option Int) : c.RpL g H (cutG xs lo hi) (cutV vs lo hi) := by
  unfold cutG cutV
  rw [clamp_eq, clamp_eq, ← r.length]
  exact (r.drop _).take _
def isWhole (xs : List G) (lo hi : Option Int) : Bool := Nat.beq (clamp xs.length 0 lo) 0 && Nat.beq (clamp xs.length xs.length hi) xs.length
def slG (x : G) (lo hi : Option Int) (st : Sto) (k : KG) : Prop := match x with
  | .sq l xs => (match l with
    | true => fL (cutG xs lo hi) fun zs => k (.sq true zs) st
    | false => fL (cutG xs lo hi) fun zs => k (.sq false zs) st)
  | .fz xs => fL (cutG (xs.map G.int) lo hi) fun zs => k (.sq true zs) st
  | .ref n => (match listO (getO st.ob n) with
    | some xs => fL (cutG xs lo hi) fun zs => k (.sq true zs) st
    | none => False)
  | _ => False
def eSl (a : Ev) (lo hi : EvO) : Ev := fun l st k ex => a l st (fun x st1 => lo l st1 (fun i st2 => hi l st2 (fun j st3 => slG x i j st3 k) ex) ex) ex
theorem rpl_ints {g : Gh} {H : Hp} : ∀ xs : List Int, c.RpL g H (xs.map G.int) (xs.map V.int)
  | [] => .nil
  | x :: r => .cons (.int x) (rpl_ints r)
theorem whole_eq {α : Type} (xs : List α) (lo hi : Option Int) (h : HT.sIx xs.length 0 lo = 0 ∧ HT.sIx xs.length xs.length hi = xs.length) : (xs.drop (HT.sIx xs.length 0 lo)).take (HT.sIx xs.length xs.length hi - HT.sIx xs.length 0 lo) = xs := by
  rw [h.1, h.2]; simp
theorem v_sl {lo hi : Option Expr} {el eh : EvO} {p2 : Pos} (ha : EE c a ea) (hl : EO c lo el) (hh : EO c hi eh) : EE c (.Subscript a (.Slice lo hi none p2) pos) (eSl ea el eh) := fun X hX W tk => by
  obtain ⟨cl, n, cm, fr, fk, px, rfl⟩ := hX.eq
  refine (pe_slice (sl_list.or sl_tupN) (ha X hX W tk) (hl X hX W tk) (hh X hX W tk)).imp fun σ H Q q => ?_
  obtain ⟨g, l, st, k, ex, b, h1, hk, hx⟩ := q
  refine ⟨g, l, st, _, ex, b, h1, fun v st1 g1 H1 x h2 n1 r1 => ?_, hx⟩
  refine ⟨g1, l, st1, _, ex, b.nw n1, h2, fun i st2 g2 H2 h3 n2 => ?_, hx.fut n1.f⟩
  refine ⟨g2, l, st2, _, ex, b.nw (n1.trans n2), h3, fun j st3 g3 H3 h4 n3 => ?_, hx.fut (n1.f.trans n2.f)⟩
  have n13 := n1.trans (n2.trans n3)
  have r3 := r1.fut (n2.f.trans n3.f)
  have fin : ∀ {p : Addr} {ys : List G} {vs : List V}, SqL X.K H3 p vs → (cfOf X cl n cm fr fk px).RpL g3 H3 ys vs → fL (cutG ys i j) (fun zs => k (.sq true zs) st3) → (rSlL X.K (.ref p) i j H3 Q ∨ rSlN X.K (.ref p) i j H3 Q) := fun {p ys vs} hp r h => by
    refine .inl ⟨p, vs, rfl, hp, fun t ht => ?_⟩
    obtain ⟨n4, r4⟩ := new_fix n3.ok (cut_rp r i j) ht
    rw [fL_eq] at h
    exact hk _ _ _ _ _ h (n13.trans n4) r4
  cases r3 <;> try exact h4.elim
  case tup p ys vs hp r =>
    have h4 : fL (cutG ys i j) (fun zs => k (.sq false zs) st3) := h4
    rw [fL_eq] at h4
    refine .inr ⟨p, vs, rfl, hp.sq, fun hw => ?_, fun hw t o ho ht => ?_⟩
    · have e : cutG ys i j = ys := by
        unfold cutG
        rw [clamp_eq, clamp_eq]
        exact whole_eq ys i j (by rw [r.length]; exact hw)
      rw [e] at h4
      exact hk _ _ _ _ _ h4 n13 (.tup hp r)
    · obtain ⟨n4, r4⟩ := new_tup n3.ok (cut_rp r i j) ho ht
      exact hk _ _ _ _ _ h4 (n13.trans n4) r4
  case lst p ys vs f hp r => exact fin (.of hp) r h4
  case fz p ys hp => exact fin hp.sq (rpl_ints ys) h4
  case ref m hm =>
    have h4 : (match listO (getO st3.ob m) with
      | some xs => fL (cutG xs i j) fun zs => k (.sq true zs) st3
      | none => False) := h4
    split at h4 <;> try exact h4.elim
    rename_i xs e
    obtain ⟨vs, _, hp, r⟩ := obj_lst n3.ok (RS.Rp.ref m hm) rfl (listO_some e)
    exact fin (.of hp) r h4
end
end RS

/-! RS: calls of built-ins and of the program's own defs. -/
namespace RS
open PySem PySem.Spec L2
abbrev OpC := List G → Sto → KG → Prop
def eApp (op : OpC) (a : EvA) : Ev := fun l st k ex => a l st (fun xs st1 => op xs st1 k) ex
def OC (c : Cf) (op : OpC) (r : List V → Hp → VK → Prop) : Prop := ∀ xs st k g H vs Q, c.Ok g H st → c.RpL g H xs vs → op xs st k → KeepG c g H k Q → r vs H Q
section
variable {c : Cf} {x : Str} {p pos : Pos} {e : Expr} {es : List Expr} {a : EvA} {op : OpC}
theorem app_tE {W : WX} {r : List V → Hp → VK → Prop} (h : OC c op r) {σ : St} {H : Hp} {Q : VK} (q : tE c W (eApp op a) σ H Q) : tCB r (tA c W a) σ H Q := by
  obtain ⟨g, l, st, k, ex, b, h1, hk, hx⟩ := q
  exact ⟨g, l, st, _, ex, b, h1, fun xs st1 g1 H1 vs h2 n1 r1 => h _ _ _ _ _ _ _ n1.ok r1 h2 (hk.fut n1.f), hx⟩
theorem v_blt {id : String} {r : Cx → List V → Hp → VK → Prop} (hr : ∀ X, At c X → CallR X (.builtin id) (r X) ∧ OC c op (r X)) (ha : EA c (e :: es) a) (hg : c.sc.names.lookup x = some .globalImplicit) (hm : c.mg x = none) (hv : bootBuiltins x = some (.builtin id))
    (hn : x ≠ "__name__" := by decide +kernel) (hdb : (x == ("__debug__" : Str)) = false := by decide +kernel) (he : ∀ env, starEach (e :: es) env = (false, eval e env) :: starEach es env := by intro _; rfl) (hpl : ∀ env, (backTo pos (starEach es env)).any (·.1) = false := by intro _; rfl) :
    EE c (.Call (.Name x p) (e :: es) [] pos) (eApp op a) := fun X hX W tk => by
  have hA := ha X hX W tk
  have hR := hr X hX
  obtain ⟨cl, n, cm, fr, fk, px, rfl⟩ := hX.eq
  exact (pe_callB (X := X) hR.1 hg hm hv hA hn hdb (he _) (hpl _)).imp fun _ _ _ q => app_tE hR.2 q
theorem v_bty {T : String} {r : Cx → List V → Hp → VK → Prop} (hr : ∀ X, At c X → CallR X (.type T) (r X) ∧ OC c op (r X)) (ha : EA c (e :: es) a) (hg : c.sc.names.lookup x = some .globalImplicit) (hm : c.mg x = none) (hv : bootBuiltins x = some (.type T))
    (hn : x ≠ "__name__" := by decide +kernel) (hdb : (x == ("__debug__" : Str)) = false := by decide +kernel) (he : ∀ env, starEach (e :: es) env = (false, eval e env) :: starEach es env := by intro _; rfl) (hpl : ∀ env, (backTo pos (starEach es env)).any (·.1) = false := by intro _; rfl) :
    EE c (.Call (.Name x p) (e :: es) [] pos) (eApp op a) := fun X hX W tk => by
  have hA := ha X hX W tk
  have hR := hr X hX
  obtain ⟨cl, n, cm, fr, fk, px, rfl⟩ := hX.eq
  exact (pe_callTy (X := X) hR.1 hg hm hv hA hn hdb (he _) (hpl _)).imp fun _ _ _ q => app_tE hR.2 q

/-! ### len -/
def lenG (st : Sto) (x : G) : Option Nat := match x with
  | .sq _ xs => some xs.length
  | .ref n => (match listO (getO st.ob n) with
    | some xs => some xs.length
    | none => none)
  | .fz xs => some xs.length
  | _ => none
def fnat (n : Nat) (k : Int → Prop) : Prop := fN n fun m => k (.ofNat m)
def oLen : OpC := fun xs st k => match xs with
  | [x] => (match lenG st x with
    | some n => fnat n fun i => k (.int i) st
    | none => False)
  | _ => False
theorem one_rp {g : Gh} {H : Hp} {y : G} {vs : List V} (r : c.RpL g H [y] vs) : ∃ v, vs = [v] ∧ c.Rp g H y v := by
  cases r with
  | cons h r => cases r; exact ⟨_, rfl, h⟩
theorem two_rp {g : Gh} {H : Hp} {y z : G} {vs : List V} (r : c.RpL g H [y, z] vs) : ∃ v u, vs = [v, u] ∧ c.Rp g H y v ∧ c.Rp g H z u := by
  cases r with
  | cons h r =>
    obtain ⟨u, rfl, h2⟩ := one_rp r
    exact ⟨_, u, rfl, h, h2⟩
theorem r_len : ∀ X, At c X → CallR X (.builtin "len") (fun xs H Q => ∃ p ys, xs = [.ref p] ∧ (SqL X.K H p ys ∨ SqT X.K H p ys) ∧ Q (.int ys.length) H) ∧ OC c oLen (fun xs H Q => ∃ p ys, xs = [.ref p] ∧ (SqL X.K H p ys ∨ SqT X.K H p ys) ∧ Q (.int ys.length) H) := fun X hX => by
  obtain ⟨cl, n, cm, fr, fk, px, rfl⟩ := hX.eq
  refine ⟨call_len_seq, fun xs st k g H vs Q ok r h hk => ?_⟩
  cases xs with
  | nil => exact h.elim
  | cons y ys =>
    cases ys with
    | cons _ _ => exact h.elim
    | nil =>
      obtain ⟨v, rfl, r0⟩ := one_rp r
      clear r
      have h : (match lenG st y with
        | some n => fnat n fun i => k (.int i) st
        | none => False) := h
      cases y <;> try exact h.elim
      case ref m _ =>
        have h : (match (match listO (getO st.ob m) with
          | some xs => some xs.length
          | none => none) with
        | some n => fnat n fun i => k (.int i) st
        | none => False) := h
        cases e : listO (getO st.ob m) with
        | none => simp only [e] at h
        | some xs =>
          simp only [e] at h
          unfold fnat at h
          rw [fN_eq] at h
          obtain ⟨vs, rfl, h2, h3⟩ := obj_lst ok r0 rfl (listO_some e)
          exact ⟨_, vs, rfl, .inl (.of h2), by rw [← h3.length]; exact hk _ _ _ _ _ h ⟨.refl, ok⟩ (.int _)⟩
      case sq l xs _ =>
        have h : fnat xs.length fun i => k (.int i) st := h
        unfold fnat at h
        rw [fN_eq] at h
        have z := hk _ _ _ _ _ h ⟨.refl, ok⟩ (.int _)
        cases r0 with
        | tup hp r => exact ⟨_, _, rfl, .inr hp.sq, by rw [← r.length]; exact z⟩
        | lst f hp r => exact ⟨_, _, rfl, .inl (.of hp), by rw [← r.length]; exact z⟩
      case fz xs _ =>
        have h : fnat xs.length fun i => k (.int i) st := h
        unfold fnat at h
        rw [fN_eq] at h
        have z := hk _ _ _ _ _ h ⟨.refl, ok⟩ (.int _)
        cases r0 with
        | fz hp => exact ⟨_, _, rfl, .inl hp.sq, by rw [List.length_map]; exact z⟩

/-! ### isinstance -/
def Ty.beq : Ty → Ty → Bool
  | .int, .int => true | .bool, .bool => true | .str, .str => true | .list, .list => true | .tuple, .tuple => true | .dict, .dict => true | .ve, .ve => true | .le, .le => true
  | _, _ => false
def hasT (t : Ty) : List Ty → Bool
  | [] => false
  | u :: r => (match Ty.beq t u with
    | true => true
    | false => hasT t r)
/-- the types of values -/
inductive Tk where
  | none | ty (t : Ty)
def Tk.name : Tk → String
  | .none => "NoneType"
  | .ty t => t.name
def subT : Tk → Ty → Bool
  | .none, _ => false
  | .ty .bool, u => Ty.beq .bool u || Ty.beq .int u
  | .ty t, u => Ty.beq t u
theorem kit_one {K : PySem.W.Frag} (t : Tk) (u : Ty) : PySem.W.kitOne K (.type t.name) (.type u.name) = some (subT t u) := by
  cases t with
  | none => cases u <;> exact kit_ty (by decide +kernel)
  | ty t => cases t <;> cases u <;> exact kit_ty (by decide +kernel)
theorem kit_any {K : PySem.W.Frag} (t : Tk) : ∀ us : List Ty, PySem.W.kitAny K (.type t.name) (us.map fun u => .type u.name) = some (us.any (subT t))
  | [] => rfl
  | u :: r => by
    refine kitAny_cons (kit_one t u) (fun h => ?_) (fun h => ?_)
    · rw [kit_any t r, List.any_cons, h]; rfl
    · rw [List.any_cons, h]; rfl
def isTs (st : Sto) (x : G) (ts : List Ty) : Option Bool := match x with
  | .non => some false
  | .bl _ => some (match hasT .bool ts with
    | true => true
    | false => hasT .int ts)
  | .int _ => some (hasT .int ts)
  | .str _ => some (hasT .str ts)
  | .sq l _ => some (match hasT .list ts with
    | true => (match hasT .tuple ts with
      | true => true
      | false => l)
    | false => (match hasT .tuple ts with
      | true => !l
      | false => false))
  | .ref n => (match getO st.ob n with
    | some (.lst _) => some (hasT .list ts)
    | some (.dK _) => some (hasT .dict ts)
    | _ => none)
  | .fz _ => some (hasT .list ts)
  | _ => none
theorem hasT_any (t : Ty) : ∀ us : List Ty, hasT t us = us.any (Ty.beq t)
  | [] => rfl
  | u :: r => by
    unfold hasT
    rw [List.any_cons, hasT_any t r]
    cases Ty.beq t u <;> rfl
theorem any_or (p q : Ty → Bool) : ∀ us : List Ty, us.any (fun u => p u || q u) = (us.any p || us.any q)
  | [] => rfl
  | u :: r => by
    rw [List.any_cons, List.any_cons, List.any_cons, any_or p q r]
    cases p u <;> cases q u <;> cases r.any p <;> rfl
theorem isT_ty {g : Gh} {H : Hp} {st : Sto} {y : G} {v : V} {ts : List Ty} {b : Bool} (ok : c.Ok g H st) (r : c.Rp g H y v) (e : isTs st y ts = some b) : ∃ t : Tk, TyX c.K H v (.type t.name) ∧ b = ts.any (subT t) := by
  cases r with
  | non => cases e; exact ⟨.none, .base .non, by rw [List.any_eq_false.mpr]; intro u _; simp [subT]⟩
  | bl b =>
    cases e
    refine ⟨.ty .bool, .base (.bl _), ?_⟩
    rw [hasT_any, hasT_any]
    show _ = ts.any (fun u => Ty.beq .bool u || Ty.beq .int u)
    rw [any_or]
    cases ts.any (Ty.beq .bool) <;> rfl
  | int i => cases e; exact ⟨.ty .int, .base (.int _), hasT_any _ _⟩
  | str s => cases e; exact ⟨.ty .str, .base (.str _), hasT_any _ _⟩
  | @tup p xs vs h r =>
    cases e
    refine ⟨.ty .tuple, ?_, ?_⟩
    · rcases h with ⟨o, _, h⟩ | ⟨o, its, n, h1, h2, _⟩
      · exact .fTuple h
      · exact .kTuple h1 h2
    · show _ = ts.any (Ty.beq .tuple)
      rw [← hasT_any]
      cases hasT .list ts <;> cases hasT .tuple ts <;> rfl
  | @lst p xs vs f h r =>
    cases e
    refine ⟨.ty .list, .base (.lst h), ?_⟩
    show _ = ts.any (Ty.beq .list)
    rw [← hasT_any]
    cases hasT .list ts <;> cases hasT .tuple ts <;> rfl
  | @fz p xs h =>
    cases e
    refine ⟨.ty .list, ?_, hasT_any _ _⟩
    rcases h with ⟨o, h⟩ | ⟨o, its, n, h1, h2, _⟩
    · exact .base (.frz h)
    · exact .kList h1 h2
  | ref n hn =>
    have e : (match getO st.ob n with
      | some (.lst _) => some (hasT .list ts)
      | some (.dK _) => some (hasT .dict ts)
        | _ => none) = some b := e
    cases q : getO st.ob n with
    | none => simp only [q] at e; cases e
    | some o =>
      obtain ⟨_, _, h, h3, h4⟩ := ok.ob n _ q
      cases o with
      | lst xs =>
        simp only [q] at e
        cases e
        obtain ⟨vs, rfl, _⟩ := h4
        exact ⟨.ty .list, .base (.lst h3), hasT_any _ _⟩
      | dK xs =>
        simp only [q] at e
        cases e
        obtain ⟨vs, rfl, _⟩ := h4
        exact ⟨.ty .dict, .base (.dK h3), hasT_any _ _⟩
      | _ => simp only [q] at e; cases e
  | _ => cases e
def tysG : List G → Option (List Ty)
  | [] => some []
  | x :: r => (match x with
    | .ty t => (match tysG r with
      | some ts => some (t :: ts)
      | none => none)
    | _ => none)
def tyArg (x : G) : Option (List Ty) := match x with
  | .ty t => some [t]
  | .sq l xs => (match l with
    | true => none
    | false => tysG xs)
  | _ => none
def oIsi : OpC := fun xs st k => match xs with
  | [x, y] => (match tyArg y with
    | some ts => (match isTs st x ts with
      | some b => k (.bl b) st
      | none => False)
    | none => False)
  | _ => False
theorem tys_rp {g : Gh} {H : Hp} : ∀ {xs : List G} {vs : List V} {ts : List Ty}, c.RpL g H xs vs → tysG xs = some ts → Paired ClsV vs (ts.map fun u => Value.type u.name)
  | [], _, _, .nil, e => by cases e; exact .nil
  | x :: r, _, _, .cons h q, e => by
    cases x <;> try (cases e; done)
    rename_i t
    cases z : tysG r with
    | none =>
      have e : (match tysG r with | some ts => some (t :: ts) | none => none) = some _ := e
      rw [z] at e; cases e
    | some us =>
      have e : (match tysG r with | some ts => some (t :: ts) | none => none) = some _ := e
      rw [z] at e
      cases e
      cases h
      exact .cons (.ty _) (tys_rp q z)
theorem r_isi : ∀ X, At c X → CallR X (.builtin "isinstance") (fun xs H Q => rIsi X.K xs H Q ∨ rIsiN X.K xs H Q) ∧ OC c oIsi (fun xs H Q => rIsi X.K xs H Q ∨ rIsiN X.K xs H Q) := fun X hX => by
  obtain ⟨cl, n, cm, fr, fk, px, rfl⟩ := hX.eq
  refine ⟨call_isi.or call_isiN, fun xs st k g H vs Q ok r h hk => ?_⟩
  cases xs with
  | nil => exact h.elim
  | cons y ys =>
    cases ys with
    | nil => exact h.elim
    | cons z zs =>
      cases zs with
      | cons _ _ => exact h.elim
      | nil =>
        obtain ⟨v, u, rfl, r1, r2⟩ := two_rp r
        have h : (match tyArg z with
          | some ts => (match isTs st y ts with
            | some b => k (.bl b) st
            | none => False)
          | none => False) := h
        cases e1 : tyArg z with
        | none => simp only [e1] at h
        | some ts =>
          simp only [e1] at h
          cases e2 : isTs st y ts with
          | none => simp only [e2] at h
          | some b =>
            simp only [e2] at h
            obtain ⟨t, ht, eb⟩ := isT_ty ok r1 e2
            have fin := hk _ _ _ _ _ h ⟨.refl, ok⟩ (.bl _)
            subst eb
            cases z <;> try (cases e1; done)
            case ty t' =>
              cases e1
              cases r2
              refine .inl ⟨v, _, _, _, _, rfl, .ty _, ht, kit_one t t', ?_⟩
              rw [List.any_cons, List.any_nil, Bool.or_false] at fin
              exact fin
            case sq l xs =>
              cases l with
              | true => cases e1
              | false =>
                cases r2 with
                | tup hp rr =>
                  rename_i p vs
                  have pr := tys_rp rr (show tysG xs = some ts from e1)
                  exact .inr ⟨v, p, vs, _, _, _, rfl, hp.sq, pr, ht, kit_any t ts, fin⟩

/-! ### int, abs, list, tuple -/
def oIntC : OpC := fun xs st k => match xs with
  | [x] => (match x with
    | .int i => k (.int i) st
    | .bl b => k (.int (match b with
      | true => 1
      | false => 0)) st
    | _ => False)
  | _ => False
theorem oc1 {f : G → Sto → KG → Prop} {r : List V → Hp → VK → Prop} (h : ∀ x st k g H v Q, c.Ok g H st → c.Rp g H x v → f x st k → KeepG c g H k Q → r [v] H Q) : OC c (fun xs st k => match xs with
  | [x] => f x st k
  | _ => False) r := fun xs st k g H vs Q ok r h1 hk => by
  cases xs with
  | nil => exact h1.elim
  | cons y ys =>
    cases ys with
    | cons _ _ => exact h1.elim
    | nil =>
      obtain ⟨v, rfl, r0⟩ := one_rp r
      exact h _ _ _ _ _ _ _ ok r0 h1 hk
theorem r_int : ∀ X, At c X → CallR X (.type "int") (fun xs H Q => (∃ i, xs = [.int i] ∧ Q (.int i) H) ∨ ∃ k, xs = [.bl k] ∧ Q (.int (if k then 1 else 0)) H) ∧ OC c oIntC (fun xs H Q => (∃ i, xs = [.int i] ∧ Q (.int i) H) ∨ ∃ k, xs = [.bl k] ∧ Q (.int (if k then 1 else 0)) H) := fun X hX =>
  ⟨call_int1, oc1 fun x st k g H v Q ok r h hk => by
    cases r <;> try exact h.elim
    case int i => exact .inl ⟨i, rfl, hk _ _ _ _ _ h ⟨.refl, ok⟩ (.int _)⟩
    case bl b => cases b <;> exact .inr ⟨_, rfl, hk _ _ _ _ _ h ⟨.refl, ok⟩ (.int _)⟩⟩
def oAbs : OpC := fun xs st k => match xs with
  | [x] => (match x with
    | .int i => (match i with
      | .ofNat n => k (.int (.ofNat n)) st
      | .negSucc n => fN (n + 1) fun m => k (.int (.ofNat m)) st)
    | _ => False)
  | _ => False
theorem r_abs : ∀ X, At c X → CallR X (.builtin "abs") (fun xs H Q => ∃ i, xs = [.int i] ∧ Q (.int (if i < 0 then -i else i)) H) ∧ OC c oAbs (fun xs H Q => ∃ i, xs = [.int i] ∧ Q (.int (if i < 0 then -i else i)) H) := fun X hX =>
  ⟨call_abs, oc1 fun x st k g H v Q ok r h hk => by
    cases r <;> try exact h.elim
    case int i =>
      refine ⟨i, rfl, ?_⟩
      cases i with
      | ofNat n =>
        rw [if_neg (by show ¬ ((n : Nat) : Int) < 0; omega)]
        exact hk _ _ _ _ _ h ⟨.refl, ok⟩ (.int _)
      | negSucc n =>
        rw [if_pos (Int.negSucc_lt_zero n)]
        have h : fN (n + 1) (fun m => k (.int (.ofNat m)) st) := h
        rw [fN_eq] at h
        exact hk _ _ _ _ _ h ⟨.refl, ok⟩ (.int _)⟩
def seqZ (st : Sto) : G → Option (List G)
  | .sq _ xs => some xs
  | .ref n => listO (getO st.ob n)
  | .fz xs => some (xs.map G.int)
  | _ => none
theorem seqZ_rp {g : Gh} {H : Hp} {st : Sto} {v : G} {x : V} {xs : List G} (ok : c.Ok g H st) (r : c.Rp g H v x) (e : seqZ st v = some xs) : ∃ a vs, x = .ref a ∧ (SqL c.K H a vs ∨ SqT c.K H a vs) ∧ c.RpL g H xs vs := by
  cases v with
  | fz ys =>
    cases e
    cases r with
    | fz h => exact ⟨_, _, rfl, .inl h.sq, rpl_ints ys⟩
  | sq l ys => exact seqA_rp ok r e
  | ref n => exact seqA_rp ok r e
  | _ => cases e
/-- list(x): a new list that stays; one that may change -/
def oList : OpC := fun xs st k => match xs with
  | [x] => (match seqZ st x with
    | some ys => k (.sq true ys) st
    | none => False)
  | _ => False
def oListM : OpC := fun xs st k => match xs with
  | [x] => (match seqZ st x with
    | some ys => fAdd st (.lst ys) k
    | none => False)
  | _ => False
def rListC (K : PySem.W.Frag) : List V → Hp → VK → Prop := fun xs H Q => ∃ p ys, xs = [.ref p] ∧ (SqL K H p ys ∨ SqT K H p ys) ∧ ∀ l, H l = none → Q (.ref l) (upd H l (.lst ys))
theorem r_list : ∀ X, At c X → CallR X (.type "list") (rListC X.K) ∧ OC c oList (rListC X.K) := fun X hX => by
  obtain ⟨cl, n, cm, fr, fk, px, rfl⟩ := hX.eq
  refine ⟨call_list_of, oc1 fun x st k g H v Q ok r h hk => ?_⟩
  cases e : seqZ st x with
  | none => simp only [e] at h
  | some ys =>
    simp only [e] at h
    obtain ⟨a, vs, rfl, h1, r1⟩ := seqZ_rp ok r e
    refine ⟨a, vs, rfl, h1, fun t ht => ?_⟩
    obtain ⟨n2, r2⟩ := new_fix ok r1 ht
    exact hk _ _ _ _ _ h n2 r2
theorem r_listM : ∀ X, At c X → CallR X (.type "list") (rListC X.K) ∧ OC c oListM (rListC X.K) := fun X hX => by
  obtain ⟨cl, n, cm, fr, fk, px, rfl⟩ := hX.eq
  refine ⟨call_list_of, oc1 fun x st k g H v Q ok r h hk => ?_⟩
  cases e : seqZ st x with
  | none => simp only [e] at h
  | some ys =>
    simp only [e] at h
    obtain ⟨a, vs, rfl, h1, r1⟩ := seqZ_rp ok r e
    refine ⟨a, vs, rfl, h1, fun t ht => ?_⟩
    rw [fAdd_eq] at h
    obtain ⟨n2, r2⟩ := new_lst ok r1 ht
    exact hk _ _ _ _ _ h n2 r2
def oTup : OpC := fun xs st k => match xs with
  | [x] => (match seqA st x with
    | some ys => k (.sq false ys) st
    | none => False)
  | _ => False
abbrev rTupC := @rTupleN
theorem r_tup : ∀ X, At c X → CallR X (.type "tuple") (rTupC X.K) ∧ OC c oTup (rTupC X.K) := fun X hX => by
  obtain ⟨cl, n, cm, fr, fk, px, rfl⟩ := hX.eq
  refine ⟨call_tupleN, oc1 fun x st k g H v Q ok r h hk => ?_⟩
  have new : ∀ {p : Addr} {ys : List G} {vs : List V}, SqL X.K H p vs → (cfOf X cl n cm fr fk px).RpL g H ys vs → k (.sq false ys) st → rTupC X.K [.ref p] H Q := fun {p ys vs} hp r1 h => ⟨p, vs, rfl, .inl ⟨hp, fun t o ho ht => by
    obtain ⟨n2, r2⟩ := new_tup ok r1 ho ht
    exact hk _ _ _ _ _ h n2 r2⟩⟩
  cases r <;> try exact h.elim
  case tup p ys vs hp r1 => exact ⟨p, vs, rfl, .inr ⟨hp.sq, hk _ _ _ _ _ h ⟨.refl, ok⟩ (.tup hp r1)⟩⟩
  case lst p ys vs f hp r1 => exact new (.of hp) r1 h
  case ref m hm =>
    have h : (match listO (getO st.ob m) with
      | some ys => k (.sq false ys) st
      | none => False) := h
    cases e : listO (getO st.ob m) with
    | none => simp only [e] at h
    | some ys =>
      simp only [e] at h
      obtain ⟨vs, _, hp, r1⟩ := obj_lst ok (RS.Rp.ref m hm) rfl (listO_some e)
      exact new (.of hp) r1 h

/-! ### sum, max, min, any, all -/
def sumI : List Int → Int
  | [] => 0
  | x :: r => x + sumI r
def maxI (m : Int) : List Int → Int
  | [] => m
  | x :: r => (match PySem.W.Z.ltB m x with
    | true => maxI x r
    | false => maxI m r)
def minI (m : Int) : List Int → Int
  | [] => m
  | x :: r => (match PySem.W.Z.ltB x m with
    | true => minI x r
    | false => minI m r)
def boolsG : List G → Option (List Bool)
  | [] => some []
  | x :: r => (match x with
    | .bl b => (match boolsG r with
      | some bs => some (b :: bs)
      | none => none)
    | _ => none)
theorem bools_rp {g : Gh} {H : Hp} : ∀ {xs : List G} {vs : List V} {bs : List Bool}, c.RpL g H xs vs → boolsG xs = some bs → vs = bs.map V.bl
  | [], _, _, .nil, e => by cases e; rfl
  | x :: r, _, _, .cons h q, e => by
    cases x <;> try (cases e; done)
    rename_i b
    have e : (match boolsG r with | some bs => some (b :: bs) | none => none) = some _ := e
    cases z : boolsG r with
    | none => rw [z] at e; cases e
    | some us =>
      rw [z] at e
      cases e
      cases h
      rw [bools_rp q z]; rfl
def onInts (f : List Int → (Int → Prop) → Prop) : OpC := fun xs st k => match xs with
  | [x] => (match seqL st x with
    | some ys => (match intsG ys with
      | some ns => f ns fun i => k (.int i) st
      | none => False)
    | none => False)
  | _ => False
theorem on_ints {f : List Int → (Int → Prop) → Prop} {r : List V → Hp → VK → Prop} (h : ∀ a ns p H Q, SqL c.K H a (ns.map V.int) → f ns p → (∀ i, p i → Q (.int i) H) → r [.ref a] H Q) : OC c (onInts f) r := oc1 fun x st k g H v Q ok rx hq hk => by
  cases e : seqL st x with
  | none => simp only [e] at hq
  | some ys =>
    simp only [e] at hq
    cases e2 : intsG ys with
    | none => simp only [e2] at hq
    | some ns =>
      simp only [e2] at hq
      obtain ⟨a, vs, rfl, h1, r1⟩ := seqL_rp ok rx e
      rw [intsG_rp r1 e2] at h1
      exact h a ns _ H Q (.of h1) hq fun i hi => hk _ _ _ _ _ hi ⟨.refl, ok⟩ (.int _)
theorem sumI_eq : ∀ ns : List Int, sumI ns = ns.sum
  | [] => rfl
  | x :: r => by rw [List.sum_cons, ← sumI_eq r]; rfl
theorem maxI_ok : ∀ (ns : List Int) (m : Int), (maxI m ns = m ∨ maxI m ns ∈ ns) ∧ m ≤ maxI m ns ∧ ∀ y ∈ ns, y ≤ maxI m ns
  | [], m => ⟨.inl rfl, Int.le_refl _, fun _ h => nomatch h⟩
  | x :: r, m => by
    unfold maxI
    rw [ltB_dec]
    by_cases h : m < x
    · rw [decide_eq_true h]
      obtain ⟨h1, h2, h3⟩ := maxI_ok r x
      refine ⟨.inr ?_, by show m ≤ maxI x r; omega, fun y hy => ?_⟩
      · rcases h1 with h1 | h1
        · show maxI x r ∈ _; rw [h1]; exact List.mem_cons_self
        · exact List.mem_cons_of_mem _ h1
      · rcases List.mem_cons.mp hy with rfl | hy
        · exact h2
        · exact h3 y hy
    · rw [decide_eq_false h]
      obtain ⟨h1, h2, h3⟩ := maxI_ok r m
      refine ⟨h1.elim .inl fun h1 => .inr (List.mem_cons_of_mem _ h1), h2, fun y hy => ?_⟩
      rcases List.mem_cons.mp hy with rfl | hy
      · show y ≤ maxI m r; omega
      · exact h3 y hy
theorem minI_ok : ∀ (ns : List Int) (m : Int), (minI m ns = m ∨ minI m ns ∈ ns) ∧ minI m ns ≤ m ∧ ∀ y ∈ ns, minI m ns ≤ y
  | [], m => ⟨.inl rfl, Int.le_refl _, fun _ h => nomatch h⟩
  | x :: r, m => by
    unfold minI
    rw [ltB_dec]
    by_cases h : x < m
    · rw [decide_eq_true h]
      obtain ⟨h1, h2, h3⟩ := minI_ok r x
      refine ⟨.inr ?_, by show minI x r ≤ m; omega, fun y hy => ?_⟩
      · rcases h1 with h1 | h1
        · show minI x r ∈ _; rw [h1]; exact List.mem_cons_self
        · exact List.mem_cons_of_mem _ h1
      · rcases List.mem_cons.mp hy with rfl | hy
        · exact h2
        · exact h3 y hy
    · rw [decide_eq_false h]
      obtain ⟨h1, h2, h3⟩ := minI_ok r m
      refine ⟨h1.elim .inl fun h1 => .inr (List.mem_cons_of_mem _ h1), h2, fun y hy => ?_⟩
      rcases List.mem_cons.mp hy with rfl | hy
      · show minI m r ≤ y; omega
      · exact h3 y hy
def oSum : OpC := onInts fun ns p => fI (sumI ns) p
theorem r_sum (hc : c.cm = true) : ∀ X, At c X → CallR X (.builtin "sum") (rSum X.K) ∧ OC c oSum (rSum X.K) := fun X hX => by
  have cm := hX.calm
  obtain ⟨cl, n, cm, fr, fk, px, rfl⟩ := hX.eq
  exact ⟨cr_sum (by rw [hX.calm]; exact hc), on_ints fun a ns p H Q hs h q => ⟨a, ns, rfl, hs, by rw [← sumI_eq]; exact q _ (by rw [fI_eq] at h; exact h)⟩⟩
def oMax : OpC := onInts fun ns p => match ns with
  | [] => False
  | x :: r => fI (maxI x r) p
def oMin : OpC := onInts fun ns p => match ns with
  | [] => False
  | x :: r => fI (minI x r) p
theorem r_max (hc : c.cm = true) : ∀ X, At c X → CallR X (.builtin "max") (rMax X.K) ∧ OC c oMax (rMax X.K) := fun X hX => by
  obtain ⟨cl, n, cm, fr, fk, px, rfl⟩ := hX.eq
  refine ⟨cr_max (by rw [hX.calm]; exact hc), on_ints fun a ns p H Q hs h q => ?_⟩
  cases ns with
  | nil => exact h.elim
  | cons x r =>
    have h : fI (maxI x r) p := h
    rw [fI_eq] at h
    obtain ⟨h1, h2, h3⟩ := maxI_ok r x
    have mem : maxI x r ∈ x :: r := h1.elim (fun e => by rw [e]; exact List.mem_cons_self) (List.mem_cons_of_mem _)
    refine ⟨a, x :: r, rfl, hs, Nat.succ_pos _, fun m hm hy => ?_⟩
    have e : m = maxI x r := by
      have a1 := hy _ mem
      have a2 : m ≤ maxI x r := by
        rcases List.mem_cons.mp hm with rfl | hm
        · exact h2
        · exact h3 _ hm
      omega
    rw [e]; exact q _ h
theorem r_min (hc : c.cm = true) : ∀ X, At c X → CallR X (.builtin "min") (rMin X.K) ∧ OC c oMin (rMin X.K) := fun X hX => by
  obtain ⟨cl, n, cm, fr, fk, px, rfl⟩ := hX.eq
  refine ⟨cr_min (by rw [hX.calm]; exact hc), on_ints fun a ns p H Q hs h q => ?_⟩
  cases ns with
  | nil => exact h.elim
  | cons x r =>
    have h : fI (minI x r) p := h
    rw [fI_eq] at h
    obtain ⟨h1, h2, h3⟩ := minI_ok r x
    have mem : minI x r ∈ x :: r := h1.elim (fun e => by rw [e]; exact List.mem_cons_self) (List.mem_cons_of_mem _)
    refine ⟨a, x :: r, rfl, hs, Nat.succ_pos _, fun m hm hy => ?_⟩
    have e : m = minI x r := by
      have a1 := hy _ mem
      have a2 : minI x r ≤ m := by
        rcases List.mem_cons.mp hm with rfl | hm
        · exact h2
        · exact h3 _ hm
      omega
    rw [e]; exact q _ h
def onBools (f : List Bool → Bool) : OpC := fun xs st k => match xs with
  | [x] => (match seqL st x with
    | some ys => (match boolsG ys with
      | some bs => k (.bl (f bs)) st
      | none => False)
    | none => False)
  | _ => False
def anyB : List Bool → Bool
  | [] => false
  | b :: r => (match b with
    | true => true
    | false => anyB r)
def allB : List Bool → Bool
  | [] => true
  | b :: r => (match b with
    | true => allB r
    | false => false)
theorem anyB_eq : ∀ bs, anyB bs = bs.any id
  | [] => rfl
  | true :: _ => rfl
  | false :: r => by rw [List.any_cons]; show anyB r = _; rw [anyB_eq r]; rfl
theorem allB_eq : ∀ bs, allB bs = bs.all id
  | [] => rfl
  | false :: _ => rfl
  | true :: r => by rw [List.all_cons]; show allB r = _; rw [allB_eq r]; rfl
theorem on_bools {f : List Bool → Bool} {r : List V → Hp → VK → Prop} (h : ∀ a bs H Q, SqL c.K H a (bs.map V.bl) → Q (.bl (f bs)) H → r [.ref a] H Q) : OC c (onBools f) r := oc1 fun x st k g H v Q ok rx hq hk => by
  cases e : seqL st x with
  | none => simp only [e] at hq
  | some ys =>
    simp only [e] at hq
    cases e2 : boolsG ys with
    | none => simp only [e2] at hq
    | some bs =>
      simp only [e2] at hq
      obtain ⟨a, vs, rfl, h1, r1⟩ := seqL_rp ok rx e
      rw [bools_rp r1 e2] at h1
      exact h a bs H Q (.of h1) (hk _ _ _ _ _ hq ⟨.refl, ok⟩ (.bl _))
def oAny : OpC := onBools anyB
def oAll : OpC := onBools allB
theorem r_any (hc : c.cm = true) : ∀ X, At c X → CallR X (.builtin "any") (rAny X.K) ∧ OC c oAny (rAny X.K) := fun X hX => by
  obtain ⟨cl, n, cm, fr, fk, px, rfl⟩ := hX.eq
  exact ⟨cr_any (by rw [hX.calm]; exact hc), on_bools fun a bs H Q hs q => ⟨a, bs, rfl, hs, by rw [← anyB_eq]; exact q⟩⟩
theorem r_all (hc : c.cm = true) : ∀ X, At c X → CallR X (.builtin "all") (rAll X.K) ∧ OC c oAll (rAll X.K) := fun X hX => by
  obtain ⟨cl, n, cm, fr, fk, px, rfl⟩ := hX.eq
  exact ⟨cr_all (by rw [hX.calm]; exact hc), on_bools fun a bs H Q hs q => ⟨a, bs, rfl, hs, by rw [← allB_eq]; exact q⟩⟩
/-- max, min of two ints -/
def on2I (f : Int → Int → Int) : OpC := fun xs st k => match xs with
  | [x, y] => (match x with
    | .int i => (match y with
      | .int j => k (.int (f i j)) st
      | _ => False)
    | _ => False)
  | _ => False
theorem on_2i {f : Int → Int → Int} {r : List V → Hp → VK → Prop} (h : ∀ i j H Q, Q (.int (f i j)) H → r [.int i, .int j] H Q) : OC c (on2I f) r := fun xs st k g H vs Q ok r h1 hk => by
  cases xs with
  | nil => exact h1.elim
  | cons y ys =>
    cases ys with
    | nil => exact h1.elim
    | cons z zs =>
      cases zs with
      | cons _ _ => exact h1.elim
      | nil =>
        obtain ⟨v, u, rfl, r1, r2⟩ := two_rp r
        cases r1 <;> try exact h1.elim
        cases r2 <;> try exact h1.elim
        exact h _ _ _ _ (hk _ _ _ _ _ h1 ⟨.refl, ok⟩ (.int _))
def oMax2 : OpC := on2I fun i j => match PySem.W.Z.ltB i j with
  | true => j
  | false => i
def oMin2 : OpC := on2I fun i j => match PySem.W.Z.ltB j i with
  | true => j
  | false => i
theorem r_max2 (hc : c.cm = true) : ∀ X, At c X → CallR X (.builtin "max") (fun xs H Q => ∃ i j, xs = [.int i, .int j] ∧ Q (.int (if j > i then j else i)) H) ∧ OC c oMax2 (fun xs H Q => ∃ i j, xs = [.int i, .int j] ∧ Q (.int (if j > i then j else i)) H) := fun X hX => by
  obtain ⟨cl, n, cm, fr, fk, px, rfl⟩ := hX.eq
  refine ⟨call_max2 (by rw [hX.calm]; exact hc), on_2i fun i j H Q q => ⟨i, j, rfl, ?_⟩⟩
  rw [ltB_dec] at q
  by_cases h : i < j
  · rw [if_pos h]; rw [decide_eq_true h] at q; exact q
  · rw [if_neg h]; rw [decide_eq_false h] at q; exact q
theorem r_min2 (hc : c.cm = true) : ∀ X, At c X → CallR X (.builtin "min") (fun xs H Q => ∃ i j, xs = [.int i, .int j] ∧ Q (.int (if j < i then j else i)) H) ∧ OC c oMin2 (fun xs H Q => ∃ i j, xs = [.int i, .int j] ∧ Q (.int (if j < i then j else i)) H) := fun X hX => by
  obtain ⟨cl, n, cm, fr, fk, px, rfl⟩ := hX.eq
  refine ⟨call_min2 (by rw [hX.calm]; exact hc), on_2i fun i j H Q q => ⟨i, j, rfl, ?_⟩⟩
  rw [ltB_dec] at q
  by_cases h : j < i
  · rw [if_pos h]; rw [decide_eq_true h] at q; exact q
  · rw [if_neg h]; rw [decide_eq_false h] at q; exact q
end
end RS

/-! RS: statements, loops. -/
namespace RS
open PySem PySem.Spec L2
/-! ### targets -/
abbrev EvG := G → L → Sto → (L → Sto → Prop) → Prop
abbrev EvGs := List G → L → Sto → (L → Sto → Prop) → Prop
def Agr (ss : List Nat) (σ σ' : L2.St) : Prop := σ'.length = σ.length ∧ ∀ j, j ∉ ss → σ'[j]? = σ[j]?
def KeepT (c : Cf) (ss : List Nat) (g : Gh) (H : Hp) (σ : L2.St) (k : L → Sto → Prop) (Q : L2.St → Hp → Prop) : Prop := ∀ l' st' g' H' σ', k l' st' → Fut g H g' H' → Bs c g' H' st' l' σ' → Agr ss σ σ' → Q σ' H'
def tG (c : Cf) (ss : List Nat) (ev : EvG) : TG := fun v σ H Q => ∃ g l st y k, Bs c g H st l σ ∧ c.Rp g H y v ∧ ev y l st k ∧ KeepT c ss g H σ k Q
def tGs (c : Cf) (ss : List Nat) (ev : EvGs) : TGs := fun vs σ H Q => ∃ g l st ys k, Bs c g H st l σ ∧ c.RpL g H ys vs ∧ ev ys l st k ∧ KeepT c ss g H σ k Q
def EG (c : Cf) (e : Expr) (ss : List Nat) (ev : EvG) : Prop := ∀ X, At c X → PG X e (tG c ss ev)
def EGs (c : Cf) (es : List Expr) (ss : List Nat) (ev : EvGs) : Prop := ∀ X, At c X → PGs X es (tGs c ss ev)
theorem _root_.L2.PG.imp {X : Cx} {e : Expr} {t t' : TG} (h : PG X e t) (i : ∀ v σ H Q, t' v σ H Q → t v σ H Q) : PG X e t' := ⟨fun pins s σ H v u Q I r q => h.run pins s σ H v u Q I r (i v σ H Q q)⟩
theorem _root_.L2.PGs.imp {X : Cx} {e : List Expr} {t t' : TGs} (h : PGs X e t) (i : ∀ v σ H Q, t' v σ H Q → t v σ H Q) : PGs X e t' := ⟨fun pins s σ H v u Q I r q => h.run pins s σ H v u Q I r (i v σ H Q q)⟩
section
variable {c : Cf} {x : Str} {pos : Pos} {e : Expr} {es : List Expr}
def gN (i : Nat) : EvG := fun y l st k => fset l i (some y) fun l1 => k l1 st
theorem gN_eq {i : Nat} {y : G} {l : L} {st : Sto} {k : L → Sto → Prop} (h : gN i y l st k) : k (l.set i (some y)) st := by
  unfold gN at h
  rw [fset_eq] at h
  exact h
theorem RelL.set {g : Gh} {H : Hp} {l : L} {σ : L2.St} {y : G} {v : V} (r : RelL c g H l σ) (i : Nat) (q : c.Rp g H y v) : RelL c g H (l.set i (some y)) (σ.set i (some v)) := by
  refine ⟨by rw [List.length_set, List.length_set]; exact r.1, fun j x e => ?_⟩
  by_cases h : i = j
  · subst h
    by_cases hl : i < l.length
    · rw [List.getElem?_set_self hl] at e
      cases e
      exact ⟨v, List.getElem?_set_self (by rw [← r.1]; exact hl), q⟩
    · rw [List.getElem?_eq_none (by rw [List.length_set]; omega)] at e; cases e
  · rw [List.getElem?_set_ne h] at e
    obtain ⟨u, h1, h2⟩ := r.2 j x e
    exact ⟨u, by rw [List.getElem?_set_ne h]; exact h1, h2⟩
/-- the slot isn't the caught exception's -/
def pxB (c : Cf) (i : Nat) : Bool := match c.px with
  | none => true
  | some p => !Nat.beq p.1 i
theorem Bs.set {g : Gh} {H : Hp} {st : Sto} {l : L} {σ : L2.St} {y : G} {v : V} (b : Bs c g H st l σ) {i : Nat} (hp : pxB c i = true) (q : c.Rp g H y v) : Bs c g H st (l.set i (some y)) (σ.set i (some v)) :=
  ⟨b.ok, b.l.set i q, fun p hp' => by
    unfold pxB at hp
    rw [hp'] at hp
    have ne : i ≠ p.1 := fun e => by
      have hp : (!Nat.beq p.1 i) = true := hp
      rw [e, beqN, decide_eq_true rfl] at hp
      cases hp
    rw [List.getElem?_set_ne ne]
    exact b.px p hp'⟩
theorem agr_set {σ : L2.St} (i : Nat) (v : Option V) : Agr [i] σ (σ.set i v) := ⟨by simp, fun j hj => List.getElem?_set_ne fun e => hj (by simp [e])⟩
/-- what a store of a name asks -/
def StOk' (c : Cf) (i : Nat) (x : Str) : Prop := c.N[i]? = some x ∧ Loc c.sc x ∧ (c.fk x = true ∨ c.sc.names.lookup x = some .local)
theorem g_name (i : Nat) (h : StOk' c i x) (hp : pxB c i = true) : EG c (.Name x pos) [i] (gN i) := fun X hX => by
  have nd := hX.nd
  have fn := hX.fn x
  obtain ⟨cl, n, cm, fr, fk, px, rfl⟩ := hX.eq
  refine (pg_name (X := X) nd h.1 h.2.1 (h.2.2.elim (fun z => .inl (fn z)) .inr)).imp fun v σ H Q q => ?_
  obtain ⟨g, l, st, y, k, b, r, h1, hk⟩ := q
  exact hk _ _ _ _ _ (gN_eq h1) .refl (b.set hp r) (agr_set i _)
def gsNil : EvGs := fun ys l st k => match ys with
  | [] => k l st
  | _ :: _ => False
def gsCons (a : EvG) (b : EvGs) : EvGs := fun ys l st k => match ys with
  | [] => False
  | y :: r => a y l st fun l1 st1 => b r l1 st1 k
theorem gs_nil : EGs c [] [] gsNil := fun X hX => pgs_nil.imp fun v σ H Q q => by
  obtain ⟨g, l, st, ys, k, b, r, h1, hk⟩ := q
  cases r with
  | nil => exact ⟨rfl, hk _ _ _ _ _ h1 .refl b ⟨rfl, fun _ _ => rfl⟩⟩
  | cons _ _ => exact h1.elim
theorem Agr.trans {s1 s2 : List Nat} {σ σ1 σ2 : L2.St} (a : Agr s1 σ σ1) (b : Agr s2 σ1 σ2) : Agr (s1 ++ s2) σ σ2 := ⟨b.1.trans a.1, fun j hj => (b.2 j fun z => hj (List.mem_append_right _ z)).trans (a.2 j fun z => hj (List.mem_append_left _ z))⟩
theorem gs_cons {s1 s2 : List Nat} {a : EvG} {b : EvGs} (h1 : EG c e s1 a) (h2 : EGs c es s2 b) (hs : ∀ env, (assignEach (e :: es) env).map (·.2) = assign e env :: (assignEach es env).map (·.2) := by intro _; rfl) : EGs c (e :: es) (s1 ++ s2) (gsCons a b) := fun X hX =>
  (pgs_cons (h1 X hX) (h2 X hX) (hs _)).imp fun v σ H Q q => by
    obtain ⟨g, l, st, ys, k, b, r, h, hk⟩ := q
    cases r with
    | nil => exact h.elim
    | cons r1 r2 =>
      refine ⟨_, _, rfl, g, l, st, _, _, b, r1, h, fun l1 st1 g1 H1 σ1 h3 f1 b1 a1 => ?_⟩
      exact ⟨g1, l1, st1, _, k, b1, r2.fut f1, h3, fun l2 st2 g2 H2 σ2 h4 f2 b2 a2 => hk _ _ _ _ _ h4 (f1.trans f2) b2 (a1.trans a2)⟩
/-- the items of a tuple, one that is only taken apart too -/
def seqW : G → Option (List G)
  | .sw xs => some xs
  | .sq l xs => match l with
    | true => none
    | false => some xs
  | _ => none
theorem seqW_rp {g : Gh} {H : Hp} {v : G} {x : V} {xs : List G} (r : c.Rp g H v x) (e : seqW v = some xs) : ∃ a vs, x = .ref a ∧ SqT c.K H a vs ∧ c.RpL g H xs vs := by
  cases r <;> try (cases e; done)
  case tup a ys vs h r => cases e; exact ⟨_, _, rfl, h.sq, r⟩
  case sw a ys vs h r => cases e; exact ⟨_, _, rfl, .inl (.inl h), r⟩
def gT (a : EvGs) : EvG := fun y l st k => match seqW y with
  | some ys => a ys l st k
  | none => False
theorem g_tup {n m : Nat} {ss : List Nat} {a : EvGs} (hc : c.cm = true) (h : EGs c es ss a) (hn : ∀ env, (assignEach es env).length = n := by intro _; rfl) (hst : ∀ env, (assignEach es env).findIdx? (·.1) = none := by intro _; rfl) (hl : ∀ ys l st k, a ys l st k → ys.length = n) : EG c (.Tuple es m pos) ss (gT a) := fun X hX => by
  have cm := hX.calm
  have hh := h X hX
  obtain ⟨cl, n', cm', fr, fk, px, rfl⟩ := hX.eq
  refine (pg_tup (X := X) (by rw [cm]; exact hc) hh (hn _) (hst _)).imp fun v σ H Q q => ?_
  obtain ⟨g, l, st, y, k, b, r, h1, hk⟩ := q
  have h1 : (match seqW y with
    | some ys => a ys l st k
    | none => False) := h1
  cases e : seqW y with
  | none => simp only [e] at h1
  | some ys =>
    simp only [e] at h1
    obtain ⟨p, vs, rfl, h2, r2⟩ := seqW_rp r e
    exact ⟨p, vs, rfl, h2, by rw [← r2.length]; exact hl _ _ _ _ h1, g, l, st, ys, k, b, r2, h1, hk⟩
theorem len_nil {ys : List G} {l : L} {st : Sto} {k : L → Sto → Prop} (h : gsNil ys l st k) : ys.length = 0 := by
  cases ys with
  | nil => rfl
  | cons _ _ => exact h.elim
def LenIs (n : Nat) (a : EvGs) : Prop := ∀ ys l st k, a ys l st k → ys.length = n
theorem li_nil : LenIs 0 gsNil := fun _ _ _ _ h => len_nil h
/-- the first target only hands on -/
def Pure1 (a : EvG) : Prop := ∀ y l st k, a y l st k → ∃ l1 st1, k l1 st1
theorem pu_name (i : Nat) : Pure1 (gN i) := fun y l st k h => ⟨_, _, gN_eq h⟩
theorem li_cons {n : Nat} {a : EvG} {b : EvGs} (h : Pure1 a) (hb : LenIs n b) : LenIs (n + 1) (gsCons a b) := fun ys l st k q => by
  cases ys with
  | nil => exact q.elim
  | cons y r =>
    obtain ⟨l1, st1, q⟩ := h _ _ _ _ q
    exact congrArg (· + 1) (hb _ _ _ _ q)
def PureS (b : EvGs) : Prop := ∀ ys l st k, b ys l st k → ∃ l1 st1, k l1 st1
theorem ps_nil' : PureS gsNil := fun ys l st k h => by
  cases ys with
  | nil => exact ⟨_, _, h⟩
  | cons _ _ => exact h.elim
theorem ps_cons' {a : EvG} {b : EvGs} (h : Pure1 a) (hb : PureS b) : PureS (gsCons a b) := fun ys l st k q => by
  cases ys with
  | nil => exact q.elim
  | cons y r =>
    obtain ⟨l1, st1, q⟩ := h _ _ _ _ q
    exact hb _ _ _ _ q
theorem pu_tup {a : EvGs} (h : PureS a) : Pure1 (gT a) := fun y l st k q => by
  have q : (match seqW y with
    | some ys => a ys l st k
    | none => False) := q
  cases e : seqW y with
  | none => simp only [e] at q
  | some ys =>
    simp only [e] at q
    exact h _ _ _ _ q

/-! ### small statements -/
variable {ev : Ev} {s : Stmt} {ss : List Stmt} {a b : EvS}
def sNil : EvS := fun l st K => K.nx l st
def sSeq (a b : EvS) : EvS := fun l st K => a l st { K with nx := fun l1 st1 => b l1 st1 K }
theorem ss_nil : ESs c [] sNil := fun X hX W tk hp => pss_nil.imp fun D σ H q => by
  obtain ⟨g, l, st, K, bs, h, k⟩ := q
  exact k.nx _ _ _ _ _ h .refl bs
theorem ss_cons (h1 : ES c s a) (h2 : ESs c ss b) : ESs c (s :: ss) (sSeq a b) := fun X hX W tk hp =>
  (pss_cons (h1 X hX W tk hp) (h2 X hX W tk hp)).imp fun D σ H q => by
    obtain ⟨g, l, st, K, bs, h, k⟩ := q
    exact ⟨g, l, st, _, bs, h, ⟨fun l1 st1 g1 H1 σ1 h1 f1 b1 => ⟨g1, l1, st1, K, b1, h1, k.fut f1⟩, k.rt, k.bk, k.ct, k.ex⟩⟩
theorem ss_one (h1 : ES c s a) : ESs c [s] a := fun X hX W tk hp => pss_one (h1 X hX W tk hp)
def sBk : EvS := fun l st K => K.bk l st
def sCt : EvS := fun l st K => K.ct l st
theorem s_pass : ES c (.Pass pos) sNil := fun X hX W tk hp => ps_pass.imp fun D σ H q => by
  obtain ⟨g, l, st, K, bs, h, k⟩ := q
  exact k.nx _ _ _ _ _ h .refl bs
theorem s_break : ES c (.Break pos) sBk := fun X hX W tk hp => ps_break.imp fun D σ H q => by
  obtain ⟨g, l, st, K, bs, h, k⟩ := q
  exact k.bk _ _ _ _ _ h .refl bs
theorem s_cont : ES c (.Continue pos) sCt := fun X hX W tk hp => ps_continue.imp fun D σ H q => by
  obtain ⟨g, l, st, K, bs, h, k⟩ := q
  exact k.ct _ _ _ _ _ h .refl bs
def sRet (e : Ev) : EvS := fun l st K => e l st K.rt fun x st1 => K.ex x l st1
theorem s_ret (h : EE c e ev) : ES c (.Return (some e) pos) (sRet ev) := fun X hX W tk hp => (ps_ret (h X hX W tk)).imp fun D σ H q => by
  obtain ⟨g, l, st, K, bs, h, k⟩ := q
  exact ⟨g, l, st, _, _, bs, h, k.rt, k.ex.at bs⟩
def sRetN : EvS := fun l st K => K.rt .non st
theorem s_retN : ES c (.Return none pos) sRetN := fun X hX W tk hp => ps_retN.imp fun D σ H q => by
  obtain ⟨g, l, st, K, bs, h, k⟩ := q
  exact k.rt _ _ _ _ _ h (.refl bs) .non
def sDrop (e : Ev) : EvS := fun l st K => e l st (fun _ st1 => K.nx l st1) fun x st1 => K.ex x l st1
theorem s_expr (h : EE c e ev) (hs : ∀ env, swapsWith e none pos.line env = pure false := by intro _; rfl) : ES c (.Expr e pos) (sDrop ev) := fun X hX W tk hp => (ps_expr (h X hX W tk) (hs _)).imp fun D σ H q => by
  obtain ⟨g, l, st, K, bs, h, k⟩ := q
  exact ⟨g, l, st, _, _, bs, h, fun x st1 g1 H1 v h1 n1 r1 => k.nx _ _ _ _ _ h1 n1.f (bs.nw n1), k.ex.at bs⟩
def sIf (t : EvT) (a b : EvS) : EvS := fun l st K => t l st (fun d st1 => match d with
  | true => a l st1 K
  | false => b l st1 K) fun x st1 => K.ex x l st1
theorem s_if {d : Expr} {s1 s2 : List Stmt} {t : EvT} (hd : ET c d t) (h1 : ESs c s1 a) (h2 : ESs c s2 b) : ES c (.If d s1 s2 pos) (sIf t a b) := fun X hX W tk hp =>
  (ps_if (hd X hX W tk) (h1 X hX W tk hp) (h2 X hX W tk hp)).imp fun D σ H q => by
    obtain ⟨g, l, st, K, bs, h, k⟩ := q
    refine ⟨g, l, st, _, _, bs, h, fun d st1 g1 H1 h1 n1 => ?_, k.ex.at bs⟩
    cases d with
    | true => exact ⟨g1, l, st1, K, bs.nw n1, h1, k.fut n1.f⟩
    | false => exact ⟨g1, l, st1, K, bs.nw n1, h1, k.fut n1.f⟩
/-- target = e -/
def sAsg (e : Ev) (t : EvG) : EvS := fun l st K => e l st (fun y st1 => t y l st1 K.nx) fun x st1 => K.ex x l st1
theorem asg_tS {W : WX} {ss : List Nat} {t : EvG} {D : Ends} {σ : L2.St} {H : Hp} (q : tS c W (sAsg ev t) D σ H) : tAsg (tE c W ev) (tG c ss t) D σ H := by
  obtain ⟨g, l, st, K, bs, h, k⟩ := q
  refine ⟨g, l, st, _, _, bs, h, fun y st1 g1 H1 v h1 n1 r1 => ?_, k.ex.at bs⟩
  exact ⟨g1, l, st1, y, K.nx, bs.nw n1, r1, h1, fun l2 st2 g2 H2 σ2 h2 f2 b2 _ => k.nx _ _ _ _ _ h2 (n1.f.trans f2) b2⟩
theorem s_asg {tg : Expr} {ss : List Nat} {t : EvG} (h : EE c e ev) (ht : EG c tg ss t) (hs : ∀ env, swapsWithSole [tg] e pos.line env = pure false := by intro _; rfl) (hw : ∀ env, env.scope = c.sc → swappedStores [tg] e env = pure none := by intro _ _; rfl)
    (h1 : ∀ env, (assignEach [tg] env).map (·.2) = [assign tg env] := by intro _; rfl) : ES c (.Assign [tg] e pos) (sAsg ev t) := fun X hX W tk hp => by
  have e1 : X.env.scope = c.sc := by obtain ⟨cl, n, cm, fr, fk, px, rfl⟩ := hX.eq; rfl
  exact (ps_asg (h X hX W tk) (ht X hX) (hs _) (hw _ e1) (h1 _)).imp fun D σ H q => asg_tS q
/-- x = e -/
def sSet (i : Nat) (e : Ev) : EvS := sAsg e (gN i)
theorem s_set (i : Nat) {pos' : Pos} (h : EE c e ev) (ho : StOk' c i x) (hp : pxB c i = true) (hs : ∀ env, env.scope = c.sc → swapsWith e (some (.Name x pos')) pos.line env = pure false := by intro _ _; rfl) : ES c (.Assign [.Name x pos'] e pos) (sSet i ev) := fun X hX W tk hpo => by
  have nd := hX.nd
  have fn := hX.fn x
  have hh := h X hX W tk
  obtain ⟨cl, n, cm, fr, fk, px, rfl⟩ := hX.eq
  refine (ps_set (X := X) nd ho.1 ho.2.1 hh (hs _ rfl) (ho.2.2.elim (fun z => .inl (fn z)) .inr)).imp fun D σ H q => ?_
  obtain ⟨g, l, st, K, bs, h, k⟩ := q
  exact ⟨g, l, st, _, _, bs, h, fun y st1 g1 H1 v h1 n1 r1 => k.nx _ _ _ _ _ (gN_eq h1) n1.f ((bs.nw n1).set hp r1), k.ex.at bs⟩
/-- a, b = x, y -/
def sPar (i j : Nat) (a b : Ev) : EvS := fun l st K => a l st (fun x st1 => b l st1 (fun y st2 => fset l i (some x) fun l1 => fset l1 j (some y) fun l2 => K.nx l2 st2) fun z st2 => K.ex z l st2) fun z st1 => K.ex z l st1
def starE (e : Expr) : Bool := match e with
  | .Starred .. => true
  | _ => false
theorem sw2 {env : Env} {x y : Str} {px py pt p2 : Pos} {kt k2 : Nat} {a b : Expr} (hk : env.scope.kind = .function) (hx : env.scope.names.lookup x = some .local) (hy : env.scope.names.lookup y = some .local) (hxy : (y == x) = false) (hl : (py.line == px.line) = true)
    (ha : starE a = false) (hb' : starE b = false) (h2 : [a, b].all (foldedForSure 8) = false) (h3 : [a, b].all (constantsAlone 8) = false) : swappedStores [.Tuple [.Name x px, .Name y py] kt pt] (.Tuple [a, b] k2 p2) env = pure (some [x, y]) := by
  have kx : env.kindOf x = some .local := hx
  have ky : env.kindOf y = some .local := hy
  have hb : env.blockKind = .function := by unfold Env.blockKind; rw [hk]; rfl
  have hd : ([x, y] : List Str).eraseDups = [x, y] := by simp [List.eraseDups_cons, List.filter, hxy]
  unfold swappedStores
  simp only [List.length_cons, List.length_nil, hb, h2, h3, List.head?_cons, Option.map_some, Option.getD_some, Expr.pos, List.filterMap_cons, List.filterMap_nil, kx, ky, hl, hd, beq_self_eq_true, Bool.and_self, if_true, Bool.not_true, Bool.or_false, Bool.false_or, Bool.or_self, bne_self_eq_false, Bool.false_eq_true, if_false]
  refine (if_neg (by decide)).trans ((if_neg fun z => ?_).trans rfl)
  have z : (starE a || (starE b || false)) = true := z
  rw [ha, hb'] at z
  cases z
theorem s_par (i j : Nat) {x y : Str} {a b : Expr} {ea eb : Ev} {px py pt p2 : Pos} {kt k2 : Nat} (ha : EE c a ea) (hb : EE c b eb) (hc : c.cm = true) (hp : pxB c i = true) (hp2 : pxB c j = true) (hk : c.sc.kind = .function) (hi : c.N[i]? = some x) (hj : c.N[j]? = some y) (hij : Nat.beq i j = false)
    (hx : c.sc.names.lookup x = some .local) (hy : c.sc.names.lookup y = some .local) (hxy : (y == x) = false) (hl : (py.line == px.line) = true) (hsa : starE a = false) (hsb : starE b = false) (h2 : [a, b].all (foldedForSure 8) = false) (h3 : [a, b].all (constantsAlone 8) = false)
    (he : ∀ env, starEach [a, b] env = (false, eval a env) :: starEach [b] env := by intro _; rfl) (he2 : ∀ env, starEach [b] env = (false, eval b env) :: starEach [] env := by intro _; rfl) :
    ES c (.Assign [.Tuple [.Name x px, .Name y py] kt pt] (.Tuple [a, b] k2 p2) pos) (sPar i j ea eb) := fun X hX W tk hpo => by
  have nd := hX.nd
  have cmq := hX.calm
  have hA := x_cons ha (x_cons hb x_nil he2) he X hX W tk
  obtain ⟨cl, n, cm, fr, fk, px', rfl⟩ := hX.eq
  refine (ps_par (X := X) (by rw [cmq]; exact hc) nd hi hj (Nat.ne_of_beq_eq_false hij) hx hy hA (sw2 hk hx hy hxy hl hsa hsb h2 h3) rfl).imp fun D σ H q => ?_
  obtain ⟨g, l, st, K, bs, h, k⟩ := q
  refine ⟨g, l, st, (fun xs st' => match xs with
    | [u, v] => fset l i (some u) fun l1 => fset l1 j (some v) fun l2 => K.nx l2 st'
    | _ => False), _, bs, h, fun xs st1 g1 H1 vs h1 n1 r1 => ?_, k.ex.at bs⟩
  cases r1 with
  | nil => exact h1.elim
  | cons r1 r2 =>
    cases r2 with
    | nil => exact h1.elim
    | cons r2 r3 =>
      cases r3 with
      | cons _ _ => exact h1.elim
      | nil =>
        have h1 : fset l i (some _) (fun l1 => fset l1 j (some _) fun l2 => K.nx l2 st1) := h1
        rw [fset_eq, fset_eq] at h1
        exact ⟨_, _, rfl, k.nx _ _ _ _ _ h1 n1.f (((bs.nw n1).set hp r1).set hp2 r2)⟩
def parB (N : List Str) (i j : Nat) (x y : Str) : Bool := decide (N[i]? = some x) && (decide (N[j]? = some y) && (!Nat.beq i j && !(y == x)))
theorem parB_ok {N : List Str} {i j : Nat} {x y : Str} (h : parB N i j x y = true) : N[i]? = some x ∧ N[j]? = some y ∧ Nat.beq i j = false ∧ (y == x) = false := by
  unfold parB at h
  rw [Bool.and_eq_true, Bool.and_eq_true, Bool.and_eq_true] at h
  exact ⟨of_decide_eq_true h.1, of_decide_eq_true h.2.1, by simpa using h.2.2.1, by simpa using h.2.2.2⟩
theorem s_parN (i j : Nat) {x y : Str} {a b : Expr} {ea eb : Ev} {px py pt p2 : Pos} {kt k2 : Nat} (ha : EE c a ea) (hb : EE c b eb) (h : parB c.N i j x y = true) (hc : c.cm = true) (hp : pxB c i = true) (hp2 : pxB c j = true) (hk : c.sc.kind = .function)
    (hx : c.sc.names.lookup x = some .local) (hy : c.sc.names.lookup y = some .local) (hl : (py.line == px.line) = true) (hsa : starE a = false) (hsb : starE b = false) (h2 : [a, b].all (foldedForSure 8) = false) (h3 : [a, b].all (constantsAlone 8) = false)
    (he : ∀ env, starEach [a, b] env = (false, eval a env) :: starEach [b] env := by intro _; rfl) (he2 : ∀ env, starEach [b] env = (false, eval b env) :: starEach [] env := by intro _; rfl) :
    ES c (.Assign [.Tuple [.Name x px, .Name y py] kt pt] (.Tuple [a, b] k2 p2) pos) (sPar i j ea eb) := s_par i j ha hb hc hp hp2 hk (parB_ok h).1 (parB_ok h).2.1 (parB_ok h).2.2.1 hx hy (parB_ok h).2.2.2 hl hsa hsb h2 h3 he he2
end
end RS

/-! RS: what is walked; for, while, comprehensions. -/
namespace RS
open PySem PySem.Spec L2
/-- the item at a turn: none where it isn't known, some none at the end -/
abbrev AtF := Sto → Nat → Option (Option G)
abbrev EvI := L → Sto → (AtF → Sto → Prop) → KX → Prop
def ItOk (c : Cf) (J : It) (f : AtF) (g0 : Gh) (H0 : Hp) : Prop := ∀ g H st i, FutR g0 H0 g H → c.Ok g H st →
  (f st i = some none → J.stop i H) ∧ ∀ y, f st i = some (some y) → J.go i H ∧ ∀ x H', J.yld i H x H' → ∃ g', Nw c g H st g' H' ∧ c.Rp g' H' y x
def KeepI (c : Cf) (g : Gh) (H : Hp) (k : AtF → Sto → Prop) (R : It → Hp → Prop) : Prop := ∀ f st' g' H' J, k f st' → Nw c g H st' g' H' → ItOk c J f g' H' → R J H'
def tI (c : Cf) (W : WX) (ev : EvI) : TI := fun σ H R => ∃ g l st k ex, Bs c g H st l σ ∧ ev l st k ex ∧ KeepI c g H k R ∧ KeepX c g H ex (fun cls d H' => W cls d σ H')
def EI (c : Cf) (tg e : Expr) (ev : EvI) : Prop := ∀ X, At c X → ∀ W, Takes X W → PI X tg e (tI c W ev)
theorem _root_.L2.PI.imp {X : Cx} {tg e : Expr} {t t' : TI} (h : PI X tg e t) (i : ∀ σ H Q, t' σ H Q → t σ H Q) : PI X tg e t' := ⟨fun pins s σ H Q I q => h.run pins s σ H Q I (i σ H Q q)⟩
/-- a list or a tuple -/
def iSq (K : PySem.W.Frag) (tl : TE) : TI := fun σ H R => tl σ H fun x H1 => (∃ a, x = .ref a ∧ (∃ xs, SqL K H1 a xs) ∧ R (Itl K a) H1) ∨ ∃ a, x = .ref a ∧ (∃ xs, SqT K H1 a xs) ∧ R (Itt K a) H1
theorem pi_sq {X : Cx} {tg l : Expr} {tl : TE} (hl : PE X l tl) : PI X tg l (iSq X.K tl) := by
  refine ⟨fun pins s σ H R I h => ?_⟩
  refine thn (hl.run pins s σ H _ I h) fun v s1 ⟨x, H1, I1, r1, q1⟩ => ?_
  rcases q1 with ⟨a, e, ⟨xs, hq⟩, q⟩ | ⟨a, e, ⟨xs, hq⟩, q⟩
  · subst e
    cases r1
    obtain ⟨its, rv, p, hz⟩ := I1.list hq
    refine wpAny_pyIter_list p.isList ?_
    refine ⟨s1.heap.objs.size, [s1.heap.objs.size], _, _, H1, rfl, I1.kept (t' := s1.toks) fun b o e => Heap.get?_push_of_some _ e, turn_list a _, ⟨_, Heap.get?_push_size _ rfl, rfl, rfl⟩, fun b hb => ?_, q⟩
    have e : b = s1.heap.objs.size := by simpa using hb
    subst e
    exact I1.fpOk (Nat.le_refl _) (I1.hok.fresh (Nat.le_refl _))
  · subst e
    cases r1
    obtain ⟨its, rv, p, hz⟩ := I1.tuple hq
    refine wpAny_pyIter_tuple (show s1.heap.IsTuple a its.toArray from p) ?_
    refine ⟨s1.heap.objs.size, [s1.heap.objs.size], _, _, H1, rfl, I1.kept (t' := s1.toks) fun b o e => Heap.get?_push_of_some _ e, turn_tuple a _, ⟨_, Heap.get?_push_size _ rfl, rfl, rfl⟩, fun b hb => ?_, q⟩
    have e : b = s1.heap.objs.size := by simpa using hb
    subst e
    exact I1.fpOk (Nat.le_refl _) (I1.hok.fresh (Nat.le_refl _))
section
variable {c : Cf} {tg e e2 : Expr} {ev : Ev} {a : EvA} {p pos tpos : Pos} {elts : List Expr} {kk : Nat}
def atL (xs : List G) : AtF := fun _ i => some xs[i]?
def atR (n : Nat) : AtF := fun st i => match listO (getO st.ob n) with
  | some xs => some xs[i]?
  | none => none
def iSeq (e : Ev) : EvI := fun l st k ex => e l st (fun v st1 => match v with
  | .sq _ xs => k (atL xs) st1
  | .ref n => (match listO (getO st1.ob n) with
    | some _ => k (atR n) st1
    | none => False)
  | .fz xs => k (atL (xs.map G.int)) st1
  | _ => False) ex
theorem i_seq (h : EE c e ev) : EI c tg e (iSeq ev) := fun X hX W tk => by
  have hh := h X hX W tk
  obtain ⟨cl, n, cm, fr, fk, px, rfl⟩ := hX.eq
  refine (pi_sq (X := X) hh).imp fun σ H R q => ?_
  obtain ⟨g, l, st, k, ex, b, h1, hk, hx⟩ := q
  refine ⟨g, l, st, _, ex, b, h1, fun v st1 g1 H1 x h2 n1 r1 => ?_, hx⟩
  cases r1 <;> try exact h2.elim
  case tup p xs vs hp r =>
    refine .inr ⟨p, rfl, ⟨vs, hp.sq⟩, hk _ _ _ _ _ h2 n1 fun g2 H2 st2 i f2 ok2 => ⟨fun e => ?_, fun y e => ?_⟩⟩
    · have e : xs[i]? = none := Option.some.inj e
      exact ⟨vs, (hp.futR f2).sq, by rw [← r.length]; exact List.getElem?_eq_none_iff.mp e⟩
    · have e : xs[i]? = some y := Option.some.inj e
      obtain ⟨u, h4, h5⟩ := (r.futR f2).get e
      refine ⟨⟨vs, u, (hp.futR f2).sq, h4⟩, fun x H' hy => ?_⟩
      obtain ⟨rfl, hy⟩ := hy
      have := hy vs (hp.futR f2).sq
      rw [h4] at this
      cases this
      exact ⟨g2, ⟨.refl, ok2⟩, h5⟩
  case lst p xs vs f hp r =>
    refine .inl ⟨p, rfl, ⟨vs, .of hp⟩, hk _ _ _ _ _ h2 n1 fun g2 H2 st2 i f2 ok2 => ⟨fun e => ?_, fun y e => ?_⟩⟩
    · have e : xs[i]? = none := Option.some.inj e
      exact ⟨vs, .of (f2.lst _ _ f hp), by rw [← r.length]; exact List.getElem?_eq_none_iff.mp e⟩
    · have e : xs[i]? = some y := Option.some.inj e
      obtain ⟨u, h4, h5⟩ := (r.futR f2).get e
      refine ⟨⟨vs, u, .of (f2.lst _ _ f hp), h4⟩, fun x H' hy => ?_⟩
      obtain ⟨rfl, hy⟩ := hy
      have := hy vs (.of (f2.lst _ _ f hp))
      rw [h4] at this
      cases this
      exact ⟨g2, ⟨.refl, ok2⟩, h5⟩
  case fz p xs hp =>
    refine .inl ⟨p, rfl, ⟨_, hp.sq⟩, hk _ _ _ _ _ h2 n1 fun g2 H2 st2 i f2 ok2 => ⟨fun e => ?_, fun y e => ?_⟩⟩
    · have e : (xs.map G.int)[i]? = none := Option.some.inj e
      have := List.getElem?_eq_none_iff.mp e
      rw [List.length_map] at this
      exact ⟨_, (hp.futR f2).sq, by rw [List.length_map]; exact this⟩
    · have e : (xs.map G.int)[i]? = some y := Option.some.inj e
      obtain ⟨u, h4, h5⟩ := (rpl_ints (c := cfOf X cl n cm fr fk px) (g := g2) (H := H2) xs).get e
      have hs : SqL X.K H2 p (xs.map V.int) := (hp.futR f2).sq
      refine ⟨⟨_, u, hs, h4⟩, fun x H' hy => ?_⟩
      obtain ⟨rfl, hy⟩ := hy
      have := hy _ hs
      rw [h4] at this
      cases this
      exact ⟨g2, ⟨.refl, ok2⟩, h5⟩
  case ref m hm =>
    have h2 : (match listO (getO st1.ob m) with
      | some _ => k (atR m) st1
      | none => False) := h2
    cases e0 : listO (getO st1.ob m) with
    | none => simp only [e0] at h2
    | some xs0 =>
      simp only [e0] at h2
      obtain ⟨vs0, _, hp0, _⟩ := obj_lst n1.ok (RS.Rp.ref m hm) rfl (listO_some e0)
      refine .inl ⟨_, rfl, ⟨vs0, .of hp0⟩, hk _ _ _ _ _ h2 n1 fun g2 H2 st2 i f2 ok2 => ?_⟩
      have ea : g2.at_ m = g1.at_ m := f2.at_ m hm
      have key : ∀ {r : Option G}, atR m st2 i = some r → ∃ xs vs, r = xs[i]? ∧ H2 (g1.at_ m) = some (.lst vs) ∧ (cfOf X cl n cm fr fk px).RpL g2 H2 xs vs := fun {r} e => by
        unfold atR at e
        split at e
        · rename_i xs e1
          have e1 := listO_some e1
          obtain ⟨b1, _, _⟩ := ok2.ob m _ e1
          obtain ⟨vs, _, hp, r1⟩ := obj_lst ok2 (RS.Rp.ref m b1) rfl e1
          rw [ea] at hp
          exact ⟨xs, vs, (Option.some.inj e).symm, hp, r1⟩
        · cases e
      refine ⟨fun e => ?_, fun y e => ?_⟩
      · obtain ⟨xs, vs, e1, hp, r1⟩ := key e
        exact ⟨vs, .of hp, by rw [← r1.length]; exact List.getElem?_eq_none_iff.mp e1.symm⟩
      · obtain ⟨xs, vs, e1, hp, r1⟩ := key e
        obtain ⟨u, h4, h5⟩ := r1.get e1.symm
        refine ⟨⟨vs, u, .of hp, h4⟩, fun x H' hy => ?_⟩
        obtain ⟨rfl, hy⟩ := hy
        have := hy vs (.of hp)
        rw [h4] at this
        cases this
        exact ⟨g2, ⟨.refl, ok2⟩, h5⟩
/-- range -/
def rngAt (lo : Int) (n : Nat) : AtF := fun _ i => match Nat.blt i n with
  | true => some (some (.int (lo + Int.ofNat i)))
  | false => some none
theorem blt_false {m n : Nat} (h : Nat.blt m n = false) : n ≤ m := by
  rcases Nat.lt_or_ge m n with q | q
  · rw [show Nat.blt m n = true from Nat.ble_eq_true_of_le q] at h; cases h
  · exact q
theorem it_rng {lo : Int} {n : Nat} {g0 : Gh} {H0 : Hp} : ItOk c (Itr lo n) (rngAt lo n) g0 H0 := fun g H st i f ok => by
  unfold rngAt
  cases e : Nat.blt i n with
  | true =>
    refine ⟨(fun z => nomatch z), fun y z => ?_⟩
    refine And.intro (blt_lt e) fun x H' hy => ?_
    have hy : H' = H ∧ x = .int (lo + (i : Int)) := hy
    obtain ⟨rfl, rfl⟩ := hy
    cases z
    exact ⟨g, ⟨.refl, ok⟩, .int _⟩
  | false => exact ⟨fun _ => blt_false e, fun y z => nomatch z⟩
def inRange (i : Int) : Bool := Nat.blt i.natAbs 1000000000000
def iRange1 (a : EvA) : EvI := fun l st k ex => a l st (fun xs st1 => match xs with
  | [x] => (match x with
    | .int j => ck (inRange j) (fN j.toNat fun n => k (rngAt 0 n) st1)
    | _ => False)
  | _ => False) ex
def iRange2 (a : EvA) : EvI := fun l st k ex => a l st (fun xs st1 => match xs with
  | [x, y] => (match x with
    | .int i => (match y with
      | .int j => ck (inRange i) (ck (inRange j) (fN (j - i).toNat fun n => k (rngAt i n) st1))
      | _ => False)
    | _ => False)
  | _ => False) ex
theorem inRange_le {i : Int} (h : inRange i = true) : -(2 ^ 62) ≤ i ∧ i < 2 ^ 62 := by
  have := blt_lt h
  omega
theorem i_range1 (ha : EA c [e] a) (hg : c.sc.names.lookup ("range" : Str) = some .globalImplicit) (hm : c.mg ("range" : Str) = none) (hs : ∀ env, starEach [e] env = [(false, eval e env)] := by intro _; rfl) : EI c tg (.Call (.Name "range" p) [e] [] pos) (iRange1 a) := fun X hX W tk => by
  have hh := ha X hX W tk
  obtain ⟨cl, n, cm, fr, fk, px, rfl⟩ := hX.eq
  refine (pi_range1 (X := X) hg hm hh (hs _)).imp fun σ H R q => ?_
  obtain ⟨g, l, st, k, ex, b, h1, hk, hx⟩ := q
  refine ⟨g, l, st, _, ex, b, h1, fun xs st1 g1 H1 vs h2 n1 r1 => ?_, hx⟩
  cases xs with
  | nil => exact h2.elim
  | cons y ys =>
    cases ys with
    | cons _ _ => exact h2.elim
    | nil =>
      obtain ⟨v, rfl, r2⟩ := one_rp r1
      clear r1
      cases r2 <;> try exact h2.elim
      case int j =>
        have h2 : ck (inRange j) (fN j.toNat (fun n => k (rngAt 0 n) st1)) := h2
        rw [fN_eq] at h2
        have hb := inRange_le h2.l
        exact ⟨j, rfl, hb.1, hb.2, hk _ _ _ _ _ h2.r n1 it_rng⟩
theorem i_range2 (ha : EA c [e, e2] a) (hg : c.sc.names.lookup ("range" : Str) = some .globalImplicit) (hm : c.mg ("range" : Str) = none) (hs : ∀ env, starEach [e, e2] env = [(false, eval e env), (false, eval e2 env)] := by intro _; rfl) (hs2 : ∀ env, starEach [e2] env = [(false, eval e2 env)] := by intro _; rfl) : EI c tg (.Call (.Name "range" p) [e, e2] [] pos) (iRange2 a) := fun X hX W tk => by
  have hh := ha X hX W tk
  obtain ⟨cl, n, cm, fr, fk, px, rfl⟩ := hX.eq
  refine (pi_range2 (X := X) hg hm hh (hs _) (hs2 _)).imp fun σ H R q => ?_
  obtain ⟨g, l, st, k, ex, b, h1, hk, hx⟩ := q
  refine ⟨g, l, st, _, ex, b, h1, fun xs st1 g1 H1 vs h2 n1 r1 => ?_, hx⟩
  cases xs with
  | nil => exact h2.elim
  | cons y ys =>
    cases ys with
    | nil => exact h2.elim
    | cons z zs =>
      cases zs with
      | cons _ _ => exact h2.elim
      | nil =>
        obtain ⟨v, u, rfl, r3, r4⟩ := two_rp r1
        clear r1
        cases r3 <;> try exact h2.elim
        cases r4 <;> try exact h2.elim
        case int.int i j =>
          have h2 : ck (inRange i) (ck (inRange j) (fN (j - i).toNat (fun n => k (rngAt i n) st1))) := h2
          rw [fN_eq] at h2
          have hb := inRange_le h2.l
          have hb2 := inRange_le h2.r.l
          exact ⟨i, j, rfl, ⟨hb.1, hb.2, hb2.1, hb2.2⟩, hk _ _ _ _ _ h2.r.r n1 it_rng⟩

/-! ### for, while -/
/-- how many turns a loop is followed -/
def fuelN : Nat := 1000000
def loopF (f : AtF) (t : EvG) (b : EvS) (K : KS) : Nat → Nat → L → Sto → Prop
  | 0, _, _, _ => False
  | m + 1, i, l, st => match f st i with
    | none => False
    | some o => (match o with
      | none => K.nx l st
      | some y => t y l st fun l1 st1 => b l1 st1 { K with nx := fun l2 st2 => fN (i + 1) fun j => loopF f t b K m j l2 st2, ct := fun l2 st2 => fN (i + 1) fun j => loopF f t b K m j l2 st2, bk := K.nx })
def sFor (it : EvI) (t : EvG) (b : EvS) : EvS := fun l st K => it l st (fun f st1 => loopF f t b K fuelN 0 l st1) fun x st1 => K.ex x l st1
theorem s_for {iter : Expr} {body : List Stmt} {it : EvI} {t : EvG} {b : EvS} {ss : List Nat} (hc : c.cm = true) (hi : EI c tg iter it) (hg : EG c tg ss t) (hb : ESs c body b)
    (hs : ∀ env x, foldedSetIterable iter env x = pure x := by intro _ _; rfl) : ES c (.For tg iter body [] pos) (sFor it t b) := fun X hX W tk hp => by
  refine (ps_for hp (hX.calm.trans hc) (hi X hX W tk) (hg X hX) (hb X hX W tk hp) (hs _)).imp fun D σ H q => ?_
  obtain ⟨g, l, st, K, bs, h, k⟩ := q
  refine ⟨g, l, st, _, _, bs, h, fun f st1 g1 H1 J h1 n1 ok1 => ?_, k.ex.at bs⟩
  have k1 := k.fut n1.f
  clear h k
  refine ⟨fun i m σ H => ∃ g l st, Bs c g H st l σ ∧ Fut g1 H1 g H ∧ loopF f t b K m i l st, ⟨fuelN, g1, l, st1, bs.nw n1, .refl, h1⟩, ?_⟩
  clear h1 bs
  rintro i m σ2 H2 ⟨g2, l2, st2, b2, f2, h2⟩
  cases m with
  | zero => exact h2.elim
  | succ m =>
    unfold loopF at h2
    cases e : f st2 i with
    | none => simp only [e] at h2
    | some o =>
      simp only [e] at h2
      cases o with
      | none => exact .inl ⟨(ok1 g2 H2 st2 i f2.toFutR b2.ok).1 e, k1.nx _ _ _ _ _ h2 f2 b2⟩
      | some y =>
        obtain ⟨hgo, hy⟩ := (ok1 g2 H2 st2 i f2.toFutR b2.ok).2 y e
        have h2 : t y l2 st2 fun l1 st1 => b l1 st1 { K with nx := fun l2 st2 => fN (i + 1) fun j => loopF f t b K m j l2 st2, ct := fun l2 st2 => fN (i + 1) fun j => loopF f t b K m j l2 st2, bk := K.nx } := h2
        simp only [fN_eq] at h2
        refine .inr ⟨hgo, fun σ' H' => ∃ g l st, Bs c g H' st l σ' ∧ Fut g1 H1 g H' ∧ loopF f t b K m (i + 1) l st, fun σ' H' z => ⟨m, Nat.lt_succ_self _, z⟩, fun x H' yy => ?_⟩
        obtain ⟨g3, n3, r3⟩ := hy x H' yy
        refine ⟨g3, l2, st2, y, _, b2.nw n3, r3, h2, fun l4 st4 g4 H4 σ4 h4 f4 b4 _ => ?_⟩
        have f14 : Fut g1 H1 g4 H4 := f2.trans (n3.f.trans f4)
        refine ⟨g4, l4, st4, _, b4, h4, ⟨fun l5 st5 g5 H5 σ5 h5 f5 b5 => ⟨g5, l5, st5, b5, f14.trans f5, h5⟩, k1.rt.fut f14, k1.nx.fut f14, fun l5 st5 g5 H5 σ5 h5 f5 b5 => ⟨g5, l5, st5, b5, f14.trans f5, h5⟩, k1.ex.fut f14⟩⟩
def loopW (t : EvT) (b : EvS) (K : KS) : Nat → L → Sto → Prop
  | 0, _, _ => False
  | m + 1, l, st => t l st (fun d st1 => match d with
    | true => b l st1 { K with nx := fun l2 st2 => loopW t b K m l2 st2, ct := fun l2 st2 => loopW t b K m l2 st2, bk := K.nx }
    | false => K.nx l st1) fun x st1 => K.ex x l st1
def sWhile (t : EvT) (b : EvS) : EvS := fun l st K => loopW t b K fuelN l st
theorem s_while {d : Expr} {body : List Stmt} {t : EvT} {b : EvS} (hd : ET c d t) (hb : ESs c body b) : ES c (.While d body [] pos) (sWhile t b) := fun X hX W tk hp => by
  refine (ps_while hp (hd X hX W tk) (hb X hX W tk hp)).imp fun D σ H q => ?_
  obtain ⟨g, l, st, K, bs, h, k⟩ := q
  refine ⟨fun m σ H' => ∃ g' l st, Bs c g' H' st l σ ∧ Fut g H g' H' ∧ loopW t b K m l st, ⟨fuelN, g, l, st, bs, .refl, h⟩, ?_⟩
  rintro m σ2 H2 ⟨g2, l2, st2, b2, f2, h2⟩
  cases m with
  | zero => exact h2.elim
  | succ m =>
    have k2 := k.fut f2
    refine ⟨g2, l2, st2, _, _, b2, h2, fun d st3 g3 H3 h3 n3 => ?_, k2.ex.at b2⟩
    have k3 := k2.fut n3.f
    have f13 := f2.trans n3.f
    cases d with
    | false =>
      show D.nx σ2 H3
      exact k3.nx _ _ _ _ _ h3 .refl (b2.nw n3)
    | true =>
      show ∃ N : L2.St → Hp → Prop, _
      refine ⟨fun σ' H' => ∃ g' l st, Bs c g' H' st l σ' ∧ Fut g H g' H' ∧ loopW t b K m l st, fun σ' H' z => ⟨m, Nat.lt_succ_self _, z⟩, ?_⟩
      refine ⟨g3, l2, st3, _, b2.nw n3, h3, ⟨fun l5 st5 g5 H5 σ5 h5 f5 b5 => ⟨g5, l5, st5, b5, f13.trans f5, h5⟩, k3.rt, k3.nx, fun l5 st5 g5 H5 σ5 h5 f5 b5 => ⟨g5, l5, st5, b5, f13.trans f5, h5⟩, k3.ex⟩⟩
end
end RS

/-! RS: list comprehensions. -/
namespace RS
open PySem PySem.Spec L2
def Cf.blk (c : Cf) (scope : Scope) : Cf := { c with sc := relS scope c.sc, fr := false, fk := fun x => scope.names.lookup x == some .cell, px := none }
section
variable {c : Cf}
theorem At.blk {X : Cx} (hX : At c X) {s : Shared} {H : Hp} {scope : Scope} {C : Addr} {cl : List (Str × Addr)} {fp : List Addr} : At (c.blk scope) (X.blk s H scope (compEnvC scope cl C X.env) fp) := by
  have h1 := hX.calm
  have h2 := hX.room
  have h3 := hX.units
  have h4 := hX.nd
  obtain ⟨cl', n, cm, fr, fk, px, rfl⟩ := hX.eq
  exact ⟨⟨cl', n, cm, false, fun x => scope.names.lookup x == some .cell, none, rfl⟩, h1, h2, h3, (fun z => nomatch z), h4, (fun x z => z), fun p hp => nomatch hp⟩
/-- the tests of a clause -/
def ETs (c : Cf) (es : List Expr) (ev : EvT) : Prop := ∀ X, At c X → ∀ W, Takes X W → PTs X es (tT c W ev)
theorem _root_.L2.PTs.imp {X : Cx} {e : List Expr} {t t' : TT} (h : PTs X e t) (i : ∀ σ H Q, t' σ H Q → t σ H Q) : PTs X e t' := ⟨fun pins s σ H Q I q => h.run pins s σ H Q I (i σ H Q q)⟩
def tYes' : EvT := fun _ st k _ => k true st
theorem ts_nil : ETs c [] tYes' := fun X hX W tk => pts_nil.imp fun σ H Q q => by
  obtain ⟨g, l, st, k, ex, b, h, hk, hx⟩ := q
  exact hk _ _ _ _ h (.refl b)
theorem ts_one {e : Expr} {t : EvT} (h : ET c e t) : ETs c [e] t := fun X hX W tk => pts_one (h X hX W tk)
/-! ### the block's own slots -/
def wipeL (l : L) : List Nat → L
  | [] => l
  | v :: vs => (wipeL l vs).set v none
theorem RelL.futR {g g' : Gh} {H H' : Hp} {l : L} {σ : L2.St} (f : FutR g H g' H') (r : RelL c g H l σ) : RelL c g' H' l σ := ⟨r.1, fun i x e => by
  obtain ⟨v, h1, h2⟩ := r.2 i x e
  exact ⟨v, h1, h2.futR f⟩⟩
theorem RelL.none {g : Gh} {H : Hp} {l : L} {σ : L2.St} (r : RelL c g H l σ) (v : Nat) : RelL c g H (l.set v none) (σ.set v none) := by
  refine ⟨by rw [List.length_set, List.length_set]; exact r.1, fun j x e => ?_⟩
  by_cases h : v = j
  · subst h
    by_cases hl : v < l.length
    · rw [List.getElem?_set_self hl] at e; cases e
    · rw [List.getElem?_eq_none (by rw [List.length_set]; omega)] at e; cases e
  · rw [List.getElem?_set_ne h] at e
    obtain ⟨u, h1, h2⟩ := r.2 j x e
    exact ⟨u, by rw [List.getElem?_set_ne h]; exact h1, h2⟩
theorem RelL.wipe {g : Gh} {H : Hp} {l : L} {σ : L2.St} (r : RelL c g H l σ) : ∀ vs, RelL c g H (wipeL l vs) (wipe σ vs)
  | [] => r
  | v :: vs => (RelL.wipe r vs).none v
theorem wipe_in {σ : L2.St} {i : Nat} : ∀ {vs : List Nat}, i ∈ vs → i < σ.length → (wipe σ vs)[i]? = some none
  | [], h, _ => nomatch h
  | v :: vs, h, hl => by
    unfold L2.wipe
    by_cases e : v = i
    · subst e; exact List.getElem?_set_self (by rw [wipe_length]; exact hl)
    · rw [List.getElem?_set_ne e]
      exact wipe_in (by rcases List.mem_cons.mp h with h | h <;> first | exact absurd h.symm e | exact h) hl
theorem wipe_agr {ss vs : List Nat} {σ σ4 : L2.St} (a : Agr ss (wipe σ vs) σ4) (h : ∀ i ∈ ss, i ∈ vs) : wipe σ4 vs = wipe σ vs := by
  have hl : σ4.length = σ.length := by rw [a.1, wipe_length]
  refine List.ext_getElem? fun i => ?_
  by_cases hi : i ∈ vs
  · by_cases hb : i < σ.length
    · rw [wipe_in hi (by omega), wipe_in hi hb]
    · rw [List.getElem?_eq_none (by rw [wipe_length]; omega), List.getElem?_eq_none (by rw [wipe_length]; omega)]
  · rw [wipe_out hi]
    exact a.2 i fun z => hi (h i z)

/-! ### [elt for target in iter if ..] -/
def fuelC : Nat := 10000
def loopC (f : AtF) (t : EvG) (tt : EvT) (te : Ev) (l0 : L) (k : List G → Sto → Prop) : Nat → Nat → List G → Sto → Prop
  | 0, _, _, _ => False
  | m + 1, i, acc, st => match f st i with
    | none => False
    | some o => (match o with
      | none => k acc.reverse st
      | some y => t y l0 st fun l1 st1 => tt l1 st1 (fun b st2 => match b with
        | true => te l1 st2 (fun z st3 => fN (i + 1) fun j => loopC f t tt te l0 k m j (z :: acc) st3) fun _ _ => False
        | false => fN (i + 1) fun j => loopC f t tt te l0 k m j acc st2) fun _ _ => False)
def eLcK (vs : List Nat) (it : EvI) (t : EvG) (tt : EvT) (te : Ev) (fin : KG → List G → Sto → Prop) : Ev := fun l st k ex => it l st (fun f st1 => fL (wipeL l vs) fun l0 => loopC f t tt te l0 (fun r st' => fL r fun r => fin k r st') fuelC 0 [] st1) ex
def finS : KG → List G → Sto → Prop := fun k r st => k (.sq true r) st
def finM : KG → List G → Sto → Prop := fun k r st => fAdd st (.lst r) k
/-- a list that stays; one that may change -/
def eLc (vs : List Nat) (it : EvI) (t : EvG) (tt : EvT) (te : Ev) : Ev := eLcK vs it t tt te finS
def eLcM (vs : List Nat) (it : EvI) (t : EvG) (tt : EvT) (te : Ev) : Ev := eLcK vs it t tt te finM
/-- what an end does -/
def FinOk (c : Cf) (fin : KG → List G → Sto → Prop) : Prop := ∀ (k : KG) r st g H D vs, fin k r st → c.Ok g H st → g.P D → H D = some (.lst vs) → c.RpL g H r vs → ∃ x st' g', k x st' ∧ Fut (g.unpin D) H g' H ∧ c.Ok g' H st' ∧ c.Rp g' H x (.ref D)
theorem fin_s : FinOk c finS := fun k r st g H D vs h ok hP hD rr => by
  obtain ⟨_, f, ok', r'⟩ := pin_fix ok hP hD rr
  exact ⟨_, _, _, h, f, ok', r'⟩
theorem fin_m : FinOk c finM := fun k r st g H D vs h ok hP hD rr => by
  unfold finM at h
  rw [fAdd_eq] at h
  obtain ⟨_, f, ok', r'⟩ := pin_add ok hP hD rr
  exact ⟨_, _, _, h, f, ok', r'⟩
theorem fut_unpin {g : Gh} {H : Hp} {D : Addr} : Fut (g.unpin D) H g H := ⟨⟨Nat.le_refl _, fun _ _ => rfl, fun _ h => h, fun _ _ _ h => h, fun _ _ h => h, fun _ _ _ h => h, fun _ h => h⟩, fun _ h => h.1, fun _ _ _ h => h⟩
abbrev W0 : WX := fun _ _ _ _ => False
theorem lc_tE {W : WX} {scope : Scope} {vs ss : List Nat} {it : EvI} {t : EvG} {tt : EvT} {te : Ev} {fin : KG → List G → Sto → Prop} (hf : FinOk c fin) (hss : ∀ i ∈ ss, i ∈ vs) {σ : L2.St} {H : Hp} {Q : VK} (q : tE c W (eLcK vs it t tt te fin) σ H Q) :
    tLc (tI c W it) (tG (c.blk scope) ss t) (tT (c.blk scope) W0 tt) (tE (c.blk scope) W0 te) vs σ H Q := by
  obtain ⟨g, l, st, k, ex, b, h, hk, hx⟩ := q
  refine ⟨g, l, st, _, ex, b, h, fun f st1 g1 H1 J h1 n1 ok1 => ?_, hx⟩
  intro D hD

  simp only [fL_eq] at h1
  have hl0 : RelL c g H (wipeL l vs) (wipe σ vs) := b.l.wipe vs
  generalize wipeL l vs = l0 at *
  obtain ⟨fA, okA, futA⟩ := pin_new (vs := []) n1.ok hD
  have fut0 : Fut g1 H1 ((g1.pin D).unpin D) (upd H1 D (.lst [])) := futA
  refine ⟨fun i m H => ∃ g acc st us, c.Ok g H st ∧ g.P D ∧ H D = some (.lst us) ∧ c.RpL g H acc.reverse us ∧ acc.length + m ≤ 10000 ∧ Fut g1 H1 (g.unpin D) H ∧ loopC f t tt te l0 (fun r st' => fin k r st') m i acc st, ⟨fuelC, g1.pin D, [], st1, [], okA, .inr rfl, upd_same, .nil, Nat.le_refl _, futA, h1⟩, ?_⟩
  clear h h1
  rintro i m H2 ⟨g2, acc, st2, us, ok2, hP, hD2, r2, hm, f2, h2⟩
  have f12 : Fut g1 H1 g2 H2 := f2.trans fut_unpin
  cases m with
  | zero => exact h2.elim
  | succ m =>
    unfold loopC at h2
    cases e : f st2 i with
    | none => simp only [e] at h2
    | some o =>
      simp only [e] at h2
      cases o with
      | none =>
        refine .inl ⟨(ok1 g2 H2 st2 i f12.toFutR ok2).1 e, ?_⟩
        obtain ⟨x, st3, g3, hk3, f3, ok3, r3⟩ := hf k acc.reverse st2 g2 H2 D us h2 ok2 hP hD2 r2
        exact hk x st3 g3 H2 (.ref D) hk3 (n1.trans ⟨f2.trans f3, ok3⟩) r3
      | some y =>
        obtain ⟨hgo, hy⟩ := (ok1 g2 H2 st2 i f12.toFutR ok2).2 y e
        simp only [fN_eq] at h2
        refine .inr ⟨hgo, fun H => ∃ g acc st us, c.Ok g H st ∧ g.P D ∧ H D = some (.lst us) ∧ c.RpL g H acc.reverse us ∧ acc.length + m ≤ 10000 ∧ Fut g1 H1 (g.unpin D) H ∧ loopC f t tt te l0 (fun r st' => fin k r st') m (i + 1) acc st, fun H' z => ⟨m, Nat.lt_succ_self _, z⟩, fun x H' yy => ?_⟩
        obtain ⟨g3, n3, r3⟩ := hy x H' yy
        have b3 : Bs (c.blk scope) g3 H' st2 l0 (wipe σ vs) := ⟨n3.ok, hl0.futR (n1.f.toFutR.trans (f12.toFutR.trans n3.f.toFutR)), fun p hp => nomatch hp⟩
        refine ⟨g3, l0, st2, y, _, b3, r3, h2, fun l4 st4 g4 H4 σ4 h4 f4 b4 a4 => ⟨wipe_agr a4 hss, g4, l4, st4, _, _, b4, h4, fun d st5 g5 H5 h5 n5 => ?_, fun _ _ _ _ _ _ z => z.elim⟩⟩
        have f25 : Fut g2 H2 g5 H5 := n3.f.trans (f4.trans n5.f)
        cases d with
        | false =>
          show ∃ g acc st us, _
          exact ⟨g5, acc, st5, us, n5.ok, f25.P D hP, f25.pin D us hP hD2, r2.fut f25, by omega, f2.trans f25.unpin, h5⟩
        | true =>
          show tE _ _ _ _ _ _
          refine ⟨g5, l4, st5, _, _, b4.nw n5, h5, fun z st6 g6 H6 v h6 n6 r6 => ?_, fun _ _ _ _ _ _ z => z.elim⟩
          have f26 : Fut g2 H2 g6 H6 := f25.trans n6.f
          have hP6 := f26.P D hP
          have hD6 := f26.pin D us hP hD2
          obtain ⟨fw, okw, futw⟩ := pin_write (ws := us ++ [v]) n6.ok hP6 hD6
          have hlen : acc.length = us.length := by
            have := r2.length
            rw [List.length_reverse] at this
            exact this
          refine ⟨us, hD6, by rw [sizeLine_eq]; omega, g6, z :: acc, st6, us ++ [v], okw, hP6, upd_same, ?_, by rw [List.length_cons]; omega, f2.trans (f26.unpin.trans futw), h6⟩
          rw [List.reverse_cons]
          exact ((r2.fut f26).futR fw).append (.cons (RS.Rp.futR fw r6) .nil)
section
variable {elt tg iter : Expr} {ifs : List Expr} {scope : Scope} {own : List (Str × Nat)} {pos spos py : Pos} {it : EvI} {t : EvG} {tt : EvT} {te : Ev} {ss : List Nat} {fin : KG → List G → Sto → Prop} {y : Str}
def subS (ss : List Nat) (own : List (Str × Nat)) : Bool := ss.all fun i => own.any fun p => Nat.beq p.2 i
theorem subS_mem {ss : List Nat} {own : List (Str × Nat)} (h : subS ss own = true) : ∀ i ∈ ss, i ∈ own.map (·.2) := fun i hi => by
  unfold subS at h
  rw [List.all_eq_true] at h
  obtain ⟨p, hp, e⟩ := List.any_eq_true.mp (h i hi)
  exact List.mem_map.mpr ⟨p, hp, Nat.eq_of_beq_eq_true e⟩
theorem v_lcK (hf : FinOk c fin) (hc : c.cm = true) (hi : EI c tg iter it) (hb : blkC c.N c.sc scope own = true) (hg : EG (c.blk scope) tg ss t) (ht : ETs (c.blk scope) ifs tt) (he : EE (c.blk scope) elt te) (hss : subS ss own = true)
    (hs : ∀ env x, foldedSetIterable iter env x = pure x) : EE c (.ListComp elt [⟨tg, iter, ifs, 0⟩] scope pos) (eLcK (own.map (·.2)) it t tt te fin) := fun X hX W tk => by
  have nd := hX.nd
  have cm := hX.calm
  have hI := hi X hX W tk
  have b1 := fun s H C cl fp => hg _ (hX.blk (s := s) (H := H) (scope := scope) (C := C) (cl := cl) (fp := fp))
  have b2 := fun s H C cl fp => ht _ (hX.blk (s := s) (H := H) (scope := scope) (C := C) (cl := cl) (fp := fp)) W0 takes0
  have b3 := fun s H C cl fp => he _ (hX.blk (s := s) (H := H) (scope := scope) (C := C) (cl := cl) (fp := fp)) W0 takes0
  obtain ⟨cl', n, cm', fr, fk, px, rfl⟩ := hX.eq
  exact (pe_lc (X := X) (cm.trans hc) nd hI (blkOk_by hb) b1 b2 b3 (hs _)).imp fun σ H Q q => lc_tE hf (subS_mem hss) q
theorem v_lc (hc : c.cm = true) (hi : EI c tg iter it) (hb : blkC c.N c.sc scope own = true) (hg : EG (c.blk scope) tg ss t) (ht : ETs (c.blk scope) ifs tt) (he : EE (c.blk scope) elt te) (hss : subS ss own = true)
    (hs : ∀ env x, foldedSetIterable iter env x = pure x := by intro _ _; rfl) : EE c (.ListComp elt [⟨tg, iter, ifs, 0⟩] scope pos) (eLc (own.map (·.2)) it t tt te) := v_lcK fin_s hc hi hb hg ht he hss hs
theorem v_lcM (hc : c.cm = true) (hi : EI c tg iter it) (hb : blkC c.N c.sc scope own = true) (hg : EG (c.blk scope) tg ss t) (ht : ETs (c.blk scope) ifs tt) (he : EE (c.blk scope) elt te) (hss : subS ss own = true)
    (hs : ∀ env x, foldedSetIterable iter env x = pure x := by intro _ _; rfl) : EE c (.ListComp elt [⟨tg, iter, ifs, 0⟩] scope pos) (eLcM (own.map (·.2)) it t tt te) := v_lcK fin_m hc hi hb hg ht he hss hs
/-- name = [..] on one line -/
theorem s_setLcK (i : Nat) (hf : FinOk c fin) (ho : StOk' c i y) (hp : pxB c i = true) (hyl : c.sc.names.lookup y = some .local) (hk : c.sc.kind = .function) (hl : (py.line == pos.line) = true) (ha : (scope.names.any fun (n, k) => n == y && (k == .local || k == .cell)) = false)
    (hc : c.cm = true) (hi : EI c tg iter it) (hb : blkC c.N c.sc scope own = true) (hg : EG (c.blk scope) tg ss t) (ht : ETs (c.blk scope) ifs tt) (he : EE (c.blk scope) elt te) (hss : subS ss own = true)
    (hs : ∀ env x, foldedSetIterable iter env x = pure x) : ES c (.Assign [.Name y py] (.ListComp elt [⟨tg, iter, ifs, 0⟩] scope pos) spos) (sSet i (eLcK (own.map (·.2)) it t tt te fin)) := fun X hX W tk hpo => by
  have nd := hX.nd
  have cm := hX.calm
  have hI := hi X hX W tk
  have b1 := fun s H C cl fp => hg _ (hX.blk (s := s) (H := H) (scope := scope) (C := C) (cl := cl) (fp := fp))
  have b2 := fun s H C cl fp => ht _ (hX.blk (s := s) (H := H) (scope := scope) (C := C) (cl := cl) (fp := fp)) W0 takes0
  have b3 := fun s H C cl fp => he _ (hX.blk (s := s) (H := H) (scope := scope) (C := C) (cl := cl) (fp := fp)) W0 takes0
  obtain ⟨cl', n, cm', fr, fk, px, rfl⟩ := hX.eq
  refine (ps_setLc (X := X) (cm.trans hc) nd ho.1 hyl (sw_true hk hyl hl ha) hI (blkOk_by hb) b1 b2 b3 (hs _)).imp fun D σ H q => ?_
  obtain ⟨g, l, st, K, bs, h, k⟩ := q
  refine lc_tE (c := cfOf X cl' n cm' fr fk px) (W := W) hf (subS_mem hss) ⟨g, l, st, _, _, bs, h, fun y st1 g1 H1 v h1 n1 r1 => k.nx _ _ _ _ _ (gN_eq h1) n1.f ((bs.nw n1).set hp r1), k.ex.at bs⟩
theorem s_setLc (i : Nat) (ho : StOk' c i y) (hp : pxB c i = true) (hyl : c.sc.names.lookup y = some .local) (hk : c.sc.kind = .function) (hl : (py.line == pos.line) = true) (ha : (scope.names.any fun (n, k) => n == y && (k == .local || k == .cell)) = false)
    (hc : c.cm = true) (hi : EI c tg iter it) (hb : blkC c.N c.sc scope own = true) (hg : EG (c.blk scope) tg ss t) (ht : ETs (c.blk scope) ifs tt) (he : EE (c.blk scope) elt te) (hss : subS ss own = true)
    (hs : ∀ env x, foldedSetIterable iter env x = pure x := by intro _ _; rfl) : ES c (.Assign [.Name y py] (.ListComp elt [⟨tg, iter, ifs, 0⟩] scope pos) spos) (sSet i (eLc (own.map (·.2)) it t tt te)) := s_setLcK i fin_s ho hp hyl hk hl ha hc hi hb hg ht he hss hs
theorem s_setLcM (i : Nat) (ho : StOk' c i y) (hp : pxB c i = true) (hyl : c.sc.names.lookup y = some .local) (hk : c.sc.kind = .function) (hl : (py.line == pos.line) = true) (ha : (scope.names.any fun (n, k) => n == y && (k == .local || k == .cell)) = false)
    (hc : c.cm = true) (hi : EI c tg iter it) (hb : blkC c.N c.sc scope own = true) (hg : EG (c.blk scope) tg ss t) (ht : ETs (c.blk scope) ifs tt) (he : EE (c.blk scope) elt te) (hss : subS ss own = true)
    (hs : ∀ env x, foldedSetIterable iter env x = pure x := by intro _ _; rfl) : ES c (.Assign [.Name y py] (.ListComp elt [⟨tg, iter, ifs, 0⟩] scope pos) spos) (sSet i (eLcM (own.map (·.2)) it t tt te)) := s_setLcK i fin_m ho hp hyl hk hl ha hc hi hb hg ht he hss hs
end
end
end RS

namespace L2
open PySem PySem.Spec PyProof.Rows
/-! ### enumerate of a tuple -/
set_option maxHeartbeats 1000000 in
theorem meets_enumerate_new1 {v : Value} {o : Obj} {H : Heap → Prop} (B : Begins v o H) :
    Meets (Builtin.«enumerate.__new__» ⟨[.type "enumerate", v], []⟩) (fun _ R s => H s.heap ∧
      R (.ok (.ret (.ref (s.heap.push o).objs.size))) { s with heap := (s.heap.push o).push { cls := .type "enumerate", data := .fields #[.none, .bool false, .ref s.heap.objs.size, rawInt 0, .none, .none] } }) :=
  .of_wp fun prog w A R s h => by
    obtain ⟨hp, g, d, tk, os⟩ := s; obtain ⟨h1, h⟩ := h
    have hsub := sub_enumerate
    have q1 : ∀ {A' : Around} {E : Value → Shared → Prop} {Q : Value → Shared → Prop}, Q (.ref hp.objs.size) ⟨hp.push o, g, d, tk, os⟩ → wpAny (model prog w) A' (pyIter v) Q E ⟨hp, g, d, tk, os⟩ :=
      fun q => B.iter prog w _ _ ⟨hp, g, d, tk, os⟩ _ h1 q
    wp_walk using q1
    refine wpAny_stack_any fun st => wpAny_pure ?_
    split
    · rename_i c _ _ _ _ _
      cases (c == Value.type "enumerate")
      · wp_walk using q1
        exact ⟨_, rfl, h⟩
      · wp_walk using q1
        exact ⟨_, rfl, h⟩
    · wp_walk using q1
      exact ⟨_, rfl, h⟩
theorem call_enumerate_tuple {prog : Program} {w : World} {A : Around} {E : Value → Shared → Prop} {s : Shared} {t : Addr} {items : Array Value} {Q : Value → Shared → Prop} (hL : s.heap.IsTuple t items)
    (h : ∀ h', IsEnum h' (s.heap.objs.size + 1) s.heap.objs.size 0 .none → h'.IsTupleIter s.heap.objs.size t 0 → h'.objs.size = s.heap.objs.size + 2 →
      (∀ b o, s.heap.get? b = some o → h'.get? b = some o) → Q (.ref (s.heap.objs.size + 1)) { s with heap := h' }) :
    wpAny (model prog w) A (call (.type "enumerate") [.ref t]) Q E s := by
  refine callType_new F.called_enumerate (by decide) (F.typeCall_enumerate_1 _) (F.newCall_enumerate_1 _) (fun obj => F.args_object_init_2 obj _) F.entry_enumerate_new
    (meets_enumerate_new1 (begins_tuple t items)) ⟨hL, ?_⟩
  have hz : (s.heap.push { cls := .type "tuple_iterator", data := .fields #[.ref t, .int 0 0] }).objs.size = s.heap.objs.size + 1 := Heap.size_push ..
  show _ ∧ _
  rw [hz]
  have he : IsEnum ((s.heap.push { cls := .type "tuple_iterator", data := .fields #[.ref t, .int 0 0] }).push
      { cls := .type "enumerate", data := .fields #[.none, .bool false, .ref s.heap.objs.size, rawInt 0, .none, .none] }) (s.heap.objs.size + 1) s.heap.objs.size 0 .none := by
    have := Heap.get?_push_size (s.heap.push { cls := .type "tuple_iterator", data := .fields #[.ref t, .int 0 0] })
      (o := { cls := .type "enumerate", data := .fields #[.none, .bool false, .ref s.heap.objs.size, rawInt 0, .none, .none] }) rfl
    rw [hz] at this; exact this
  refine ⟨⟨_, he, rfl⟩, h _ he ⟨_, Heap.get?_push_of_some _ (Heap.get?_push_size _ rfl), rfl, rfl⟩ (by rw [Heap.size_push, hz]) fun b o x => Heap.get?_push_of_some _ (Heap.get?_push_of_some _ x)⟩
theorem enum_endT {prog : Program} {w : World} {A : Around} {E : Value → Shared → Prop} {s : Shared} {e it l : Addr} {i : Nat} {items : Array Value} {old : Value} {Q : Option Value → Shared → Prop} (hh : A.handled = none)
    (he : IsEnum s.heap e it i old) (hit : s.heap.IsTupleIter it l i) (hl : s.heap.IsTuple l items) (hx : items[i]? = none)
    (hQ : ∀ h', Heap.ExtBut it s.heap h' → Q none { s with heap := h' }) : wpAny (model prog w) A (pyNext (.ref e)) Q E s := by
  have hT : s.TypeIs (.ref e) "enumerate" := ⟨_, he, rfl⟩
  unfold pyNext
  refine wpAny_bind (wpAny_attempt (wpAny_callSpecial?_slot (name := Str.ofString "__next__") hT F.slot_enumerate_next
    (wpAny_call_entry F.slot_enumerate_next hT F.entry_enumerate_next ?_ (F.args_enumerate_next_1 _))))
  show wpAny _ _ (_root_.PySem.field (.ref e) 2 >>= _) _ _ _
  refine wpAny_bind (wpAny_field he rfl (x := .ref it) rfl ?_)
  refine wpAny_bind (wpAny_nextOf_tuple_end hh hit hl hx fun h' x he' hx' => ?_)
  obtain ⟨o, ho, hc⟩ := hx'
  refine wpAny_bind (wpAny_isInstance (T := "StopIteration") (b := true) ⟨o, ho, hc⟩ isSubtype_stop ?_)
  exact wpAny_pure (hQ _ he')
def ItetT (K : PySem.W.Frag) (a : Addr) : It :=
  ⟨fun i H => ∃ (xs : List V) (x : V), SqT K H a xs ∧ xs[i]? = some x, fun i H v H' => ∃ T x, v = .ref T ∧ H T = none ∧ H' = upd H T (.tup [.int (i : Nat), x]) ∧ ∀ xs, SqT K H a xs → xs[i]? = some x, fun i H => ∃ xs : List V, SqT K H a xs ∧ xs.length ≤ i⟩
theorem turn_enumT {P : Program} {w : World} {K : PySem.W.Frag} {elts : List Expr} {kk : Nat} {tpos : Pos} (a e it : Addr) (hne : e ≠ it) (ha1 : a ≠ it) (ha2 : a ≠ e) :
    Turn P w K (.Tuple elts kk tpos) (ItetT K a) [e, it] e (fun i h => (∃ old, IsEnum h e it ((i : Nat) : Int) old) ∧ h.IsTupleIter it a i) where
  mem := by simp
  obj := fun i h st b hb => by
    obtain ⟨⟨old, he⟩, ⟨o, ho, hc, hd⟩⟩ := st
    have e' : b = e ∨ b = it := by simpa using hb
    rcases e' with z | z
    · rw [z]; exact ⟨_, he, fun v q => nomatch q⟩
    · rw [z]; exact ⟨o, ho, fun v q => by rw [hd] at q; cases q⟩
  keep := fun i h h' st k => let ⟨⟨old, he⟩, hi⟩ := st; ⟨⟨old, k e (by simp) _ he⟩, hi.at fun o q => k it (by simp) o q⟩
  item := by
    intro X hP hw hK hc i pins s σ H E I hf st hg
    subst hP hw hK
    obtain ⟨⟨old, he⟩, hit⟩ := st
    obtain ⟨xs, x, hq, hx⟩ := hg
    obtain ⟨its, rv, p, hz⟩ := I.tuple hq
    obtain ⟨u, hu, ru⟩ := rv.get hx
    have hel : e < s.heap.objs.size := Heap.lt_size he
    have hil : it < s.heap.objs.size := by obtain ⟨_, q, _⟩ := hit; exact Heap.lt_size q
    have p : s.heap.IsTuple a its.toArray := p
    have hlt : i < its.toArray.size := by
      have hu' : its.toArray[i]? = some u := by simpa using hu
      exact (Array.getElem?_eq_some_iff.mp hu').1
    have hef : e ∉ [it, a] := by
      intro z
      rcases List.mem_cons.mp z with z | z
      · exact hne z
      · exact ha2 (List.mem_singleton.mp z).symm
    refine wpAny_pyNext_enum_itemD (Draws.tuple (A := X.A.in1) (show X.A.in1.handled = none from I.ok.hd hc) it a ha1 its.toArray) he ⟨hit, p⟩ hlt hne hef fun y h' tk hy ho hs' hT hsz hk => ?_
    have hyu : y = u := by
      have hu' : its.toArray[i]? = some u := by simpa using hu
      have hy : its.toArray[i]? = some y := hy
      rw [hu'] at hy; exact (Option.some.inj hy).symm
    subst hyu
    obtain ⟨hit', _⟩ := hs'
    refine ⟨_, rfl, wpAny_letOwnedTupleGo_enum (s := { s with heap := h', toks := tk + 1 }) ho fun h'' he' sb => ?_⟩
    have hT2 : h''.get? s.heap.objs.size = some { cls := .type "tuple", data := .seq #[.int i tk, y] } := (sb.2 _ (Nat.ne_of_gt hel)).trans hT
    have new : ObjOk X.prog X.w (upd H s.heap.objs.size (.tup [.int (i : Nat), x])) h'' s.heap.objs.size (.tup [.int (i : Nat), x]) :=
      ⟨by show 2 ≤ sizeLine; decide, [.int i tk, y], .cons ⟨_, rfl⟩ (.cons ru .nil), ⟨_, hT2, rfl, _, rfl⟩⟩
    have I1 : Inv X pins σ (upd H s.heap.objs.size (.tup [.int (i : Nat), x])) { s with heap := h'', toks := tk + 1 } :=
      I.turnedNew (ch := [e, it]) (fun b ob hb q => (sb.2 b (fun z => hb (by simp [z]))).trans (hk b ob (fun z => hb (by simp [z])) (fun z => hb (by simp [z])) q)) hf (Nat.le_refl _) new
    refine ⟨.ref s.heap.objs.size, _, I1, rfl, ⟨_, x, rfl, I.hok.fresh (Nat.le_refl _), rfl, fun ys hy => by rw [I.tuple_inj hy hq]; exact hx⟩, ⟨⟨y, ?_⟩, hit'.at fun o q => (sb.2 it (Ne.symm hne)).trans q⟩, fun b hb => ?_⟩
    · have e1 : ((i + 1 : Nat) : Int) = (i : Int) + 1 := by omega
      rw [e1]; exact he'
    · have hb' : b < s.heap.objs.size := by
        have e' : b = e ∨ b = it := by simpa using hb
        rcases e' with z | z
        · rw [z]; exact hel
        · rw [z]; exact hil
      rw [upd_ne (Nat.ne_of_lt hb')]
      exact (hf b hb).1
  done := by
    intro X hP hw hK hc i pins s σ H E I hf st hg
    subst hP hw hK
    obtain ⟨⟨old, he⟩, hit⟩ := st
    obtain ⟨xs, hq, hx⟩ := hg
    obtain ⟨its, rv, p, hz⟩ := I.tuple hq
    have p : s.heap.IsTuple a its.toArray := p
    obtain ⟨f0, f1, f2, f3, f4, f5⟩ := hf it (by simp)
    have hl := rv.length
    have hle : its.toArray.size ≤ i := by simp; omega
    have hend : its.toArray[i]? = none := by simp; omega
    exact enum_endT (I.ok.hd hc) he hit p hend fun h' eb => ⟨rfl, I.turned (t' := s.toks) (fun b o hb q => eb b o hb q) f0 f1 f3 f4 f5⟩
  self := fun A i s Q E st h => let ⟨⟨_, he⟩, _⟩ := st; wpAny_pyIter_enum he h
end L2

namespace L2
open PySem PySem.Spec PyProof.Rows
def iEnumA (K : PySem.W.Frag) (ta : TA) : TI := fun σ H R => ta σ H fun vs H1 => ∃ a xs, vs = [.ref a] ∧ ((SqL K H1 a xs ∧ R (Ite K a) H1) ∨ (SqT K H1 a xs ∧ R (ItetT K a) H1))
theorem pi_enumA {X : Cx} {e : Expr} {ta : TA} {p pos tpos : Pos} {elts : List Expr} {kk : Nat} (hg : Gl X "enumerate") (hm : X.mg "enumerate" = none) (ha : PA X [e] ta) (hs : starEach [e] X.env = [(false, eval e X.env)] := by rfl) :
    PI X (.Tuple elts kk tpos) (.Call (.Name "enumerate" p) [e] [] pos) (iEnumA X.K ta) := by
  refine ⟨fun pins s σ H R I h => ?_⟩
  refine Call_ (ld_blt I hg hm boot_enumerate (PyProof.Rows.callWith_type1 (thn (ha.run pos pins s σ H _ I h) fun us s1 ⟨vs, H1, I1, r1, q1⟩ => ?_) hs rfl))
  obtain ⟨a, xs, ex, q⟩ := q1
  subst ex
  cases r1 with
  | cons r rr =>
    cases rr
    cases r
    have fr : ∀ b ∈ [s1.heap.objs.size + 1, s1.heap.objs.size], FpOk X pins H1 b := fun b hb => by
      have e' : b = s1.heap.objs.size + 1 ∨ b = s1.heap.objs.size := by simpa using hb
      have hle : s1.heap.objs.size ≤ b := by
        rcases e' with z | z
        · rw [z]; exact Nat.le_add_right _ _
        · rw [z]; exact Nat.le_refl _
      exact I1.fpOk hle (I1.hok.fresh hle)
    rcases q with ⟨hq, q⟩ | ⟨hq, q⟩
    · obtain ⟨its, rv, p', hz⟩ := I1.list hq
      refine call_enumerate_list p'.isList fun h' he hit hsz hk => wpAny_pyIter_enum he ?_
      have I2 : Inv X pins σ H1 { s1 with heap := h' } := I1.kept (t' := s1.toks) hk
      exact ⟨s1.heap.objs.size + 1, [s1.heap.objs.size + 1, s1.heap.objs.size], _, _, H1, rfl, I2, turn_enum a (s1.heap.objs.size + 1) s1.heap.objs.size, ⟨⟨.none, he⟩, hit, Nat.succ_ne_self _⟩, fr, q⟩
    · obtain ⟨its, rv, p', hz⟩ := I1.tuple hq
      have p' : s1.heap.IsTuple a its.toArray := p'
      have hlt : a < s1.heap.objs.size := by obtain ⟨o, ho, _⟩ := id p'; exact Heap.lt_size ho
      refine call_enumerate_tuple p' fun h' he hit hsz hk => wpAny_pyIter_enum he ?_
      have I2 : Inv X pins σ H1 { s1 with heap := h' } := I1.kept (t' := s1.toks) hk
      exact ⟨s1.heap.objs.size + 1, [s1.heap.objs.size + 1, s1.heap.objs.size], _, _, H1, rfl, I2, turn_enumT a (s1.heap.objs.size + 1) s1.heap.objs.size (Nat.succ_ne_self _) (Nat.ne_of_lt hlt) (Nat.ne_of_lt (Nat.lt_succ_of_lt hlt)), ⟨⟨.none, he⟩, hit⟩, fr, q⟩
end L2
namespace RS
open PySem PySem.Spec L2
section
variable {c : Cf} {tg e e2 : Expr} {ev : Ev} {a : EvA} {p pos tpos : Pos} {elts : List Expr} {kk : Nat}
/-- what a list or a tuple holds, at each turn -/
def SqOk (c : Cf) (q : Addr) (l : Bool) (f : AtF) (g0 : Gh) (H0 : Hp) : Prop := ∀ g H st i, FutR g0 H0 g H → c.Ok g H st → ∀ r, f st i = some r → ∃ xs vs, r = xs[i]? ∧ (match l with
  | true => SqL c.K H q vs
  | false => SqT c.K H q vs) ∧ c.RpL g H xs vs
/-- the items of a value -/
def atOf (st : Sto) (v : G) (k : Bool → AtF → Prop) : Prop := match v with
  | .sq l xs => (match l with
    | true => k true (atL xs)
    | false => k false (atL xs))
  | .ref n => (match listO (getO st.ob n) with
    | some _ => k true (atR n)
    | none => False)
  | .fz xs => k true (atL (xs.map G.int))
  | _ => False
theorem atOf_ok {st : Sto} {v : G} {k : Bool → AtF → Prop} {g : Gh} {H : Hp} {x : V} (ok : c.Ok g H st) (r : c.Rp g H v x) (h : atOf st v k) : ∃ q l f vs, x = .ref q ∧ k l f ∧ SqOk c q l f g H ∧ (match l with
  | true => SqL c.K H q vs
  | false => SqT c.K H q vs) := by
  cases r <;> try exact h.elim
  case tup q xs vs hp r =>
    refine ⟨q, false, _, vs, rfl, h, fun g2 H2 st2 i f2 ok2 r' e => ?_, hp.sq⟩
    exact ⟨xs, vs, (Option.some.inj e).symm, (hp.futR f2).sq, r.futR f2⟩
  case lst q xs vs f hp r =>
    refine ⟨q, true, _, vs, rfl, h, fun g2 H2 st2 i f2 ok2 r' e => ?_, .of hp⟩
    exact ⟨xs, vs, (Option.some.inj e).symm, .of (f2.lst _ _ f hp), r.futR f2⟩
  case fz q xs hp =>
    refine ⟨q, true, _, _, rfl, h, fun g2 H2 st2 i f2 ok2 r' e => ?_, hp.sq⟩
    exact ⟨_, _, (Option.some.inj e).symm, (hp.futR f2).sq, rpl_ints xs⟩
  case ref m hm =>
    have h : (match listO (getO st.ob m) with
      | some _ => k true (atR m)
      | none => False) := h
    cases e0 : listO (getO st.ob m) with
    | none => simp only [e0] at h
    | some xs0 =>
      simp only [e0] at h
      obtain ⟨vs0, _, hp0, _⟩ := obj_lst ok (RS.Rp.ref m hm) rfl (listO_some e0)
      refine ⟨_, true, _, vs0, rfl, h, fun g2 H2 st2 i f2 ok2 r' e => ?_, .of hp0⟩
      unfold atR at e
      split at e
      · rename_i xs e1
        have e1 := listO_some e1
        obtain ⟨b1, _, _⟩ := ok2.ob m _ e1
        obtain ⟨vs, _, hp, r1⟩ := obj_lst ok2 (RS.Rp.ref m b1) rfl e1
        rw [f2.at_ m hm] at hp
        exact ⟨xs, vs, (Option.some.inj e).symm, .of hp, r1⟩
      · cases e
def prE (f : AtF) : AtF := fun st i => match f st i with
  | none => none
  | some o => (match o with
    | none => some none
    | some y => some (some (.sw [.int (.ofNat i), y])))
def iEnum (a : EvA) : EvI := fun l st k ex => a l st (fun xs st1 => match xs with
  | [x] => atOf st1 x fun _ f => k (prE f) st1
  | _ => False) ex
theorem i_enum (ha : EA c [e] a) (hg : c.sc.names.lookup ("enumerate" : Str) = some .globalImplicit) (hm : c.mg ("enumerate" : Str) = none) (hs : ∀ env, starEach [e] env = [(false, eval e env)] := by intro _; rfl) : EI c (.Tuple elts kk tpos) (.Call (.Name "enumerate" p) [e] [] pos) (iEnum a) := fun X hX W tk => by
  have hh := ha X hX W tk
  obtain ⟨cl, n, cm, fr, fk, px, rfl⟩ := hX.eq
  refine (pi_enumA (X := X) hg hm hh (hs _)).imp fun σ H R q => ?_
  obtain ⟨g, l, st, k, ex, b, h1, hk, hx⟩ := q
  refine ⟨g, l, st, _, ex, b, h1, fun xs st1 g1 H1 vs h2 n1 r1 => ?_, hx⟩
  cases xs with
  | nil => exact h2.elim
  | cons y ys =>
    cases ys with
    | cons _ _ => exact h2.elim
    | nil =>
      obtain ⟨v, rfl, r2⟩ := one_rp r1
      have h2 : atOf st1 y fun _ f => k (prE f) st1 := h2
      obtain ⟨q, lb, f, us, rfl, h3, so, hq⟩ := atOf_ok n1.ok r2 h2
      cases lb with
      | true =>
        refine ⟨q, us, rfl, .inl ⟨hq, hk _ _ _ _ _ h3 n1 fun g2 H2 st2 i f2 ok2 => ⟨fun e => ?_, fun z e => ?_⟩⟩⟩
        · unfold prE at e
          split at e <;> try (cases e; done)
          rename_i o e1
          split at e <;> try (cases e; done)
          obtain ⟨xs, ws, e3, hq2, r3⟩ := so g2 H2 st2 i f2 ok2 _ e1
          exact ⟨ws, hq2, by rw [← r3.length]; exact List.getElem?_eq_none_iff.mp e3.symm⟩
        · unfold prE at e
          split at e <;> try (cases e; done)
          rename_i o e1
          split at e <;> try (cases e; done)
          rename_i o y'
          cases e
          obtain ⟨xs, ws, e3, hq2, r3⟩ := so g2 H2 st2 i f2 ok2 _ e1
          obtain ⟨u, h4, h5⟩ := r3.get e3.symm
          refine ⟨⟨ws, u, hq2, h4⟩, fun x H' hy => ?_⟩
          obtain ⟨T, x', rfl, hT, rfl, hy⟩ := hy
          have := hy ws hq2
          rw [h4] at this
          cases this
          obtain ⟨n5, r5⟩ := new_sw ok2 (.cons (.int (.ofNat i)) (.cons h5 .nil)) hT
          exact ⟨g2, n5, r5⟩
      | false =>
        refine ⟨q, us, rfl, .inr ⟨hq, hk _ _ _ _ _ h3 n1 fun g2 H2 st2 i f2 ok2 => ⟨fun e => ?_, fun z e => ?_⟩⟩⟩
        · unfold prE at e
          split at e <;> try (cases e; done)
          rename_i o e1
          split at e <;> try (cases e; done)
          obtain ⟨xs, ws, e3, hq2, r3⟩ := so g2 H2 st2 i f2 ok2 _ e1
          exact ⟨ws, hq2, by rw [← r3.length]; exact List.getElem?_eq_none_iff.mp e3.symm⟩
        · unfold prE at e
          split at e <;> try (cases e; done)
          rename_i o e1
          split at e <;> try (cases e; done)
          rename_i o y'
          cases e
          obtain ⟨xs, ws, e3, hq2, r3⟩ := so g2 H2 st2 i f2 ok2 _ e1
          obtain ⟨u, h4, h5⟩ := r3.get e3.symm
          refine ⟨⟨ws, u, hq2, h4⟩, fun x H' hy => ?_⟩
          obtain ⟨T, x', rfl, hT, rfl, hy⟩ := hy
          have := hy ws hq2
          rw [h4] at this
          cases this
          obtain ⟨n5, r5⟩ := new_sw ok2 (.cons (.int (.ofNat i)) (.cons h5 .nil)) hT
          exact ⟨g2, n5, r5⟩
/-- zip of two lists or of two tuples -/
def prZ (f f' : AtF) : AtF := fun st i => match f st i with
  | none => none
  | some o => (match f' st i with
    | none => none
    | some o' => (match o with
      | none => some none
      | some y => (match o' with
        | none => some none
        | some y' => some (some (.sw [y, y'])))))
def iZip (a : EvA) : EvI := fun l st k ex => a l st (fun xs st1 => match xs with
  | [x, y] => atOf st1 x fun l f => atOf st1 y fun l' f' => (match l with
    | true => (match l' with
      | true => k (prZ f f') st1
      | false => False)
    | false => (match l' with
      | true => False
      | false => k (prZ f f') st1))
  | _ => False) ex
theorem prZ_none {f f' : AtF} {st : Sto} {i : Nat} (e : prZ f f' st i = some none) : ∃ o o', f st i = some o ∧ f' st i = some o' ∧ (o = none ∨ o' = none) := by
  unfold prZ at e
  split at e <;> try (cases e; done)
  rename_i o e1
  split at e <;> try (cases e; done)
  rename_i o' e2
  split at e
  · exact ⟨_, _, e1, e2, .inl rfl⟩
  · split at e
    · exact ⟨_, _, e1, e2, .inr rfl⟩
    · cases e
theorem prZ_some {f f' : AtF} {st : Sto} {i : Nat} {z : G} (e : prZ f f' st i = some (some z)) : ∃ y y', f st i = some (some y) ∧ f' st i = some (some y') ∧ z = .sw [y, y'] := by
  unfold prZ at e
  split at e <;> try (cases e; done)
  rename_i o e1
  split at e <;> try (cases e; done)
  rename_i o' e2
  split at e
  · cases e
  · split at e
    · cases e
    · cases e; exact ⟨_, _, e1, e2, rfl⟩
theorem i_zip (ha : EA c [e, e2] a) (hg : c.sc.names.lookup ("zip" : Str) = some .globalImplicit) (hm : c.mg ("zip" : Str) = none) (hs : ∀ env, starEach [e, e2] env = (false, eval e env) :: starEach [e2] env := by intro _; rfl) (hpl : ∀ env, (backTo pos (starEach [e2] env)).any (·.1) = false := by intro _; rfl) :
    EI c (.Tuple elts kk tpos) (.Call (.Name "zip" p) [e, e2] [] pos) (iZip a) := fun X hX W tk => by
  have hh := ha X hX W tk
  obtain ⟨cl, n, cm, fr, fk, px, rfl⟩ := hX.eq
  refine (RZ.pi_zipA (X := X) hg hm hh (hs _) (hpl _)).imp fun σ H R q => ?_
  obtain ⟨g, l, st, k, ex, b, h1, hk, hx⟩ := q
  refine ⟨g, l, st, _, ex, b, h1, fun xs st1 g1 H1 vs h2 n1 r1 => ?_, hx⟩
  cases xs with
  | nil => exact h2.elim
  | cons y ys =>
    cases ys with
    | nil => exact h2.elim
    | cons z zs =>
      cases zs with
      | cons _ _ => exact h2.elim
      | nil =>
        obtain ⟨v, u, rfl, r3, r4⟩ := two_rp r1
        have h2 : atOf st1 y fun l f => atOf st1 z fun l' f' => (match l with
          | true => (match l' with
            | true => k (prZ f f') st1
            | false => False)
          | false => (match l' with
            | true => False
            | false => k (prZ f f') st1)) := h2
        obtain ⟨q, lb, f, us, rfl, h3, so, hq⟩ := atOf_ok n1.ok r3 h2
        obtain ⟨q', lb', f', us', rfl, h4, so', hq'⟩ := atOf_ok n1.ok r4 h3
        cases lb <;> cases lb' <;> try exact h4.elim
        · refine ⟨q, q', us, us', rfl, .inr ⟨hq, hq', hk _ _ _ _ _ h4 n1 fun g2 H2 st2 i f2 ok2 => ⟨fun e => ?_, fun z e => ?_⟩⟩⟩
          · obtain ⟨o, o', e1, e2, e3⟩ := prZ_none e
            obtain ⟨xs, ws, e4, hq2, r5⟩ := so g2 H2 st2 i f2 ok2 _ e1
            obtain ⟨xs', ws', e4', hq2', r5'⟩ := so' g2 H2 st2 i f2 ok2 _ e2
            refine ⟨ws, ws', hq2, hq2', ?_⟩
            rw [← r5.length, ← r5'.length]
            rcases e3 with e3 | e3
            · exact .inl (List.getElem?_eq_none_iff.mp (e4.symm.trans e3))
            · exact .inr (List.getElem?_eq_none_iff.mp (e4'.symm.trans e3))
          · obtain ⟨y1, y2, e1, e2, rfl⟩ := prZ_some e
            obtain ⟨xs, ws, e4, hq2, r5⟩ := so g2 H2 st2 i f2 ok2 _ e1
            obtain ⟨xs', ws', e4', hq2', r5'⟩ := so' g2 H2 st2 i f2 ok2 _ e2
            obtain ⟨u1, a1, a2⟩ := r5.get e4.symm
            obtain ⟨u2, b1, b2⟩ := r5'.get e4'.symm
            refine ⟨⟨ws, ws', u1, u2, hq2, hq2', a1, b1⟩, fun x H' hy => ?_⟩
            obtain ⟨T, x1, x2, rfl, hT, rfl, hy1, hy2⟩ := hy
            have z1 := hy1 ws hq2
            have z2 := hy2 ws' hq2'
            rw [a1] at z1
            rw [b1] at z2
            cases z1
            cases z2
            obtain ⟨n5, r5⟩ := new_sw ok2 (.cons a2 (.cons b2 .nil)) hT
            exact ⟨g2, n5, r5⟩
        · refine ⟨q, q', us, us', rfl, .inl ⟨hq, hq', hk _ _ _ _ _ h4 n1 fun g2 H2 st2 i f2 ok2 => ⟨fun e => ?_, fun z e => ?_⟩⟩⟩
          · obtain ⟨o, o', e1, e2, e3⟩ := prZ_none e
            obtain ⟨xs, ws, e4, hq2, r5⟩ := so g2 H2 st2 i f2 ok2 _ e1
            obtain ⟨xs', ws', e4', hq2', r5'⟩ := so' g2 H2 st2 i f2 ok2 _ e2
            refine ⟨ws, ws', hq2, hq2', ?_⟩
            rw [← r5.length, ← r5'.length]
            rcases e3 with e3 | e3
            · exact .inl (List.getElem?_eq_none_iff.mp (e4.symm.trans e3))
            · exact .inr (List.getElem?_eq_none_iff.mp (e4'.symm.trans e3))
          · obtain ⟨y1, y2, e1, e2, rfl⟩ := prZ_some e
            obtain ⟨xs, ws, e4, hq2, r5⟩ := so g2 H2 st2 i f2 ok2 _ e1
            obtain ⟨xs', ws', e4', hq2', r5'⟩ := so' g2 H2 st2 i f2 ok2 _ e2
            obtain ⟨u1, a1, a2⟩ := r5.get e4.symm
            obtain ⟨u2, b1, b2⟩ := r5'.get e4'.symm
            refine ⟨⟨ws, ws', u1, u2, hq2, hq2', a1, b1⟩, fun x H' hy => ?_⟩
            obtain ⟨T, x1, x2, rfl, hT, rfl, hy1, hy2⟩ := hy
            have z1 := hy1 ws hq2
            have z2 := hy2 ws' hq2'
            rw [a1] at z1
            rw [b1] at z2
            cases z1
            cases z2
            obtain ⟨n5, r5⟩ := new_sw ok2 (.cons a2 (.cons b2 .nil)) hT
            exact ⟨g2, n5, r5⟩
end
end RS

/-! RS: calls of the program's own defs, raise, try. -/
namespace L2
open PySem PySem.Spec PyProof.Rows
section
variable {X : Cx} {CX : CXT} {k : Nat} {f C : Addr} {fd : FuncData} {ps ks : List Str} {sp : Sp} {E : St → XK} {x m : Str} {p pos apos : Pos} {e o : Expr} {es : List Expr} {ta : TE} {t tk : TA} {kws : List Keyword}
theorem pe_callS0 (F : FnOk X.prog X.w X.K X.mg X.base CX k f fd ps sp) (hr : Room k X.A) (hg : Gl X x) (hm : X.mg x = some (.ref f)) (hk : PySem.W.keepIn X.K (.ref f) = true) (hb : Binds X.K fd ps []) (hx : ∀ σ, PassesAt CX X σ (E σ))
    (hdb : (x == ("__debug__" : Str)) = false := by decide) : PE X (.Call (.Name x p) [] [] pos) (tCallS sp E tNil) := by
  refine ⟨fun pins s σ H Q I h => ?_⟩
  refine wpAny_Call_Name_kw (ld_glob I hg hm ?_ hdb)
  exact PySem.W.callWith_K0 I.kIn hk (run_fnS (us := []) F hr hb (hx σ) I .nil h)
/-- the picked places -/
def pick {α : Type} (p : List Nat) (l : List α) : List α := p.filterMap fun i => l[i]?
theorem pick_cons {α : Type} (i : Nat) (p : List Nat) (l : List α) : pick (i :: p) l = match l[i]? with
  | some x => x :: pick p l
  | none => pick p l := by
  show List.filterMap _ (i :: p) = _
  rw [List.filterMap_cons]
  cases l[i]? <;> rfl
theorem vals_pick {vs : List V} {us : List Value} (r : Vals vs us) : ∀ p, Vals (pick p vs) (pick p us)
  | [] => .nil
  | i :: p => by
    rw [pick_cons, pick_cons]
    cases e : vs[i]? with
    | some v =>
      obtain ⟨u, e2, r2⟩ := r.get e
      rw [e2]
      exact .cons r2 (vals_pick r p)
    | none =>
      have : us[i]? = none := by
        rw [List.getElem?_eq_none_iff] at e ⊢
        rw [← r.length]; exact e
      rw [this]
      exact vals_pick r p
/-- how a call with n positional and keyword arguments ks binds -/
def KPick (fd : FuncData) (ps : List Str) (n : Nat) (ks : List Str) (pk : List Nat) : Prop := ∀ (s : Shared) (us ws : List Value), us.length = n → ws.length = ks.length → BindsTo s fd ⟨us, ks.zip ws⟩ (ps.zip (pick pk (us ++ ws)))
def tCallKS (sp : Sp) (n m : Nat) (pk : List Nat) (E : St → XK) (t tk : TA) : TE := fun σ H Q => t σ H fun vs H1 => tk σ H1 fun zs H2 => vs.length = n ∧ zs.length = m ∧ sp (pick pk (vs ++ zs)) H2 Q (E σ)
variable {n : Nat} {pk : List Nat}
theorem run_fnKS {pins : List (Addr × Obj)} {σ : St} {H : Hp} {s : Shared} {Q : VK} {us ws : List Value} {vs zs : List V} (F : FnOk X.prog X.w X.K X.mg X.base CX k f fd ps sp) (hr : Room k X.A) (hb : KPick fd ps n ks pk) (hx : PassesAt CX X σ (E σ))
    (I : Inv X pins σ H s) (r : Vals vs us) (rz : Vals zs ws) (h1 : vs.length = n) (h2 : zs.length = ks.length) (h : sp (pick pk (vs ++ zs)) H Q (E σ)) : wpAny (model X.prog X.w) X.A (call (.ref f) us (ks.zip ws)) (EP X pins σ Q) X.xe s := by
  have r2 := vals_pick (r.append rz) pk
  refine wpAny_call (codeAny_mono (F.run X.A X.stack s H ⟨us, ks.zip ws⟩ (pick pk (us ++ ws)) (pick pk (vs ++ zs)) Q (E σ) hr I.env0 (hb s us ws (by rw [← r.length]; exact h1) (by rw [← rz.length]; exact h2)) r2 h) fun r s' hq => ?_)
  cases r with
  | error e => exact hx pins H s e s' I hq
  | ok fl =>
    cases fl with
    | ret u => exact I.after hq
    | next => exact False.elim hq
    | brk => exact False.elim hq
    | cont => exact False.elim hq
/-- f(e, .., k = v, ..) -/
theorem pe_callKS (F : FnOk X.prog X.w X.K X.mg X.base CX k f fd ps sp) (hr : Room k X.A) (hg : Gl X x) (hm : X.mg x = some (.ref f)) (hk : PySem.W.keepIn X.K (.ref f) = true) (hb : KPick fd ps n ks pk) (hx : ∀ σ, PassesAt CX X σ (E σ))
    (ha : PA X (e :: es) t) (hkw : PK X kws tk) (hall : (backToKw pos (keywordEach kws X.env)).all (·.1.isSome) = true := by rfl) (hks : (backToKw pos (keywordEach kws X.env)).filterMap (·.1) = ks := by rfl)
    (hdb : (x == ("__debug__" : Str)) = false := by decide) (he : starEach (e :: es) X.env = (false, eval e X.env) :: starEach es X.env := by rfl)
    (hpl : ((backTo pos (starEach (e :: es) X.env)).any (·.1) || (backToKw pos (keywordEach kws X.env)).any (·.1.isNone)) = false := by rfl) :
    PE X (.Call (.Name x p) (e :: es) kws pos) (tCallKS sp n ks.length pk E t tk) := by
  refine ⟨fun pins s σ H Q I h => ?_⟩
  refine wpAny_Call_Name_kw (ld_glob I hg hm ?_ hdb)
  refine PySem.W.callWith_KW (h₀ := X.base) I.ok.mod.kin hk hall (thn (ha.run pos pins s σ H _ I h) fun us s1 ⟨vs, H1, I1, r, q⟩ => ?_) hpl he
  refine thn (hkw.run pos pins s1 σ H1 _ I1 q) fun ws s2 ⟨zs, H2, I2, rz, q1, q2, q3⟩ => ⟨I2.kIn, ?_⟩
  rw [hks]
  exact run_fnKS F hr hb (hx σ) I2 r rz q1 q2 q3
theorem pe_callKS0 (F : FnOk X.prog X.w X.K X.mg X.base CX k f fd ps sp) (hr : Room k X.A) (hg : Gl X x) (hm : X.mg x = some (.ref f)) (hk : PySem.W.keepIn X.K (.ref f) = true) (hb : KPick fd ps 0 ks pk) (hx : ∀ σ, PassesAt CX X σ (E σ))
    (hkw : PK X kws tk) (hall : (backToKw pos (keywordEach kws X.env)).all (·.1.isSome) = true := by rfl) (hks : (backToKw pos (keywordEach kws X.env)).filterMap (·.1) = ks := by rfl)
    (hdb : (x == ("__debug__" : Str)) = false := by decide)
    (hpl : ((backTo pos (starEach [] X.env)).any (·.1) || (backToKw pos (keywordEach kws X.env)).any (·.1.isNone)) = false := by rfl) :
    PE X (.Call (.Name x p) [] kws pos) (tCallKS sp 0 ks.length pk E tNil tk) := by
  refine ⟨fun pins s σ H Q I h => ?_⟩
  refine wpAny_Call_Name_kw (ld_glob I hg hm ?_ hdb)
  refine PySem.W.callWith_KW0 (h₀ := X.base) I.ok.mod.kin hk hall ?_ hpl
  refine thn (hkw.run pos pins s σ H _ I h) fun ws s2 ⟨zs, H2, I2, rz, q1, q2, q3⟩ => ⟨I2.kIn, ?_⟩
  rw [hks]
  exact run_fnKS (us := []) (vs := []) F hr hb (hx σ) I2 .nil rz q1 q2 q3
/-- raise X(), X an own class without own __init__ -/
theorem pmk_own0 {bmB : List Value} {B newId initId : String} (F : ExcBaseFacts B newId initId bmB) (q : PySem.W.excIn X.K C bmB newId = true) (gC : X.mg x = some (.ref C)) (kC : PySem.W.keepIn X.K (.ref C) = true) (r : Raises X (.ref C)) (hg : Gl X x)
    (hdb : (x == ("__debug__" : Str)) = false := by decide) : PMk X (.Call (.Name x p) [] [] pos) (fun _ H Q => Q (.ref C) none H) := by
  intro pins s σ H Q I h
  refine wpAny_Call_Name_kw (ld_glob I hg gC ?_ hdb)
  refine PySem.W.callWith_K0 I.kIn kC ?_
  show wpAny _ _ (call (.ref C) []) _ _ _
  obtain ⟨bm, N, nm, qn, bs, hdct, sn, sub, ab, col, dd, k0, k1, k2, k3, k5, mN, hC, hN, hni, T⟩ := exc_obj I.kIn q
  refine wpAny_call_exc_subT F T hC hN hni (fun h' e hm => ?_) (Nat.zero_le _)
  exact mk_of I hm r h (I.hok.gone hm.new)
end
end L2
namespace RS
open PySem PySem.Spec L2
/-- the program's own defs: number, arguments, store, the wanted ends -/
abbrev Fn := Nat → List G → Sto → KG → KX → Prop
def eCall (Φ : Fn) (fid : Nat) (a : EvA) : Ev := fun l st k ex => a l st (fun xs st1 => Φ fid xs st1 k ex) ex
def eCallK (Φ : Fn) (fid : Nat) (pk : List Nat) (a b : EvA) : Ev := fun l st k ex => a l st (fun xs st1 => b l st1 (fun ys st2 => Φ fid (pick pk (xs ++ ys)) st2 k ex) ex) ex
section
variable (K : PySem.W.Frag) (cl : Nat → Addr)
def KG0 (g : Gh) (H : Hp) (k : KG) (Q : VK) : Prop := ∀ x st' g' H' v, k x st' → Fut g H g' H' → StOk K cl g' H' st' → Rp K cl g' H' x v → Q v H'
def KX0 (g : Gh) (H : Hp) (ex : KX) (E : XK) : Prop := ∀ x st' g' H', ex x st' → Fut g H g' H' → StOk K cl g' H' st' → E (.ref (cl x)) none H'
def spOf (Φ : Fn) (fid : Nat) : Sp := fun vs H Q E => ∃ g st xs k ex, StOk K cl g H st ∧ RpL K cl g H xs vs ∧ Φ fid xs st k ex ∧ KG0 K cl g H k Q ∧ KX0 K cl g H ex E
structure FOk (P : Program) (w : World) (mg : Str → Option Value) (base : Heap) (Φ : Fn) (k fid : Nat) (f : Addr) (fd : FuncData) (ps : List Str) : Prop where
  len : ∀ xs st k ex, Φ fid xs st k ex → xs.length = ps.length
  ok : FnOk P w K mg base (L2.CX P w) k f fd ps (spOf K cl Φ fid)
end
/-- the def named x is the table's fid -/
def Own (P : Program) (w : World) (K : PySem.W.Frag) (mg : Str → Option Value) (base : Heap) (cl : Nat → Addr) (Φ : Fn) (n fid : Nat) (x : Str) : Prop := ∃ f fd ps, mg x = some (.ref f) ∧ PySem.W.keepIn K (.ref f) = true ∧ Binds K fd ps [] ∧ FOk K cl P w mg base Φ n fid f fd ps
/-- .. called with n positional and keyword arguments ks -/
def OwnK (P : Program) (w : World) (K : PySem.W.Frag) (mg : Str → Option Value) (base : Heap) (cl : Nat → Addr) (Φ : Fn) (n fid : Nat) (x : Str) (m : Nat) (ks : List Str) (pk : List Nat) : Prop := ∃ f fd ps, mg x = some (.ref f) ∧ PySem.W.keepIn K (.ref f) = true ∧ KPick fd ps m ks pk ∧ FOk K cl P w mg base Φ n fid f fd ps
abbrev Cf.Own (c : Cf) (Φ : Fn) (fid : Nat) (x : Str) : Prop := RS.Own c.P c.w c.K c.mg c.base c.cl Φ c.n fid x
abbrev Cf.OwnK (c : Cf) (Φ : Fn) (fid : Nat) (x : Str) (m : Nat) (ks : List Str) (pk : List Nat) : Prop := RS.OwnK c.P c.w c.K c.mg c.base c.cl Φ c.n fid x m ks pk
section
variable {c : Cf} {Φ : Fn} {fid : Nat} {x : Str} {p pos : Pos} {e : Expr} {es : List Expr} {a b : EvA} {m : Nat} {ks : List Str} {pk : List Nat} {kws : List Keyword}
theorem to_KG0 {g : Gh} {H : Hp} {k : KG} {Q : VK} (h : KeepG c g H k Q) : KG0 c.K c.cl g H k Q := fun x st' g' H' v e f ok r => h x st' g' H' v e ⟨f, ok⟩ r
theorem to_KX0 {g : Gh} {H : Hp} {k : KX} {E : XK} (h : KeepX c g H k E) : KX0 c.K c.cl g H k E := fun x st' g' H' e f ok => h x st' g' H' _ _ e ⟨f, ok⟩ ⟨rfl, rfl⟩
theorem of_KG0 {g : Gh} {H : Hp} {k : KG} {Q : VK} (h : KG0 c.K c.cl g H k Q) : KeepG c g H k Q := fun x st' g' H' v e n r => h x st' g' H' v e n.f n.ok r
theorem of_KX0 {g : Gh} {H : Hp} {k : KX} {E : XK} (h : KX0 c.K c.cl g H k E) : KeepX c g H k E := fun x st' g' H' cls d e n r => by
  obtain ⟨rfl, rfl⟩ := r
  exact h x st' g' H' e n.f n.ok
theorem v_call (O : c.Own Φ fid x) (hc : c.cm = true) (ha : EA c (e :: es) a) (hg : c.sc.names.lookup x = some .globalImplicit) (hdb : (x == ("__debug__" : Str)) = false := by decide +kernel)
    (he : ∀ env, starEach (e :: es) env = (false, eval e env) :: starEach es env := by intro _; rfl) (hpl : ∀ env, (backTo pos (starEach es env)).any (·.1) = false := by intro _; rfl) :
    EE c (.Call (.Name x p) (e :: es) [] pos) (eCall Φ fid a) := fun X hX W tk => by
  have hA := ha X hX W tk
  have hr := hX.room hc
  obtain ⟨f, fd, ps, hm, hk, hb, F⟩ := O
  obtain ⟨cl, n, cm, fr, fk, px, rfl⟩ := hX.eq
  refine (pe_callS (X := X) F.ok hr hg hm hk hb (fun σ => passAt tk σ) hA hdb (he _) (hpl _)).imp fun σ H Q q => ?_
  obtain ⟨g, l, st, k, ex, bs, h, hk, hx⟩ := q
  exact ⟨g, l, st, _, ex, bs, h, fun xs st1 g1 H1 vs h1 n1 r1 => ⟨g1, st1, xs, k, ex, n1.ok, r1, h1, to_KG0 (hk.fut n1.f), to_KX0 (hx.fut n1.f)⟩, hx⟩
theorem v_call0 (O : c.Own Φ fid x) (hc : c.cm = true) (hg : c.sc.names.lookup x = some .globalImplicit) (hdb : (x == ("__debug__" : Str)) = false := by decide +kernel) :
    EE c (.Call (.Name x p) [] [] pos) (eCall Φ fid aNil) := fun X hX W tk => by
  have hr := hX.room hc
  obtain ⟨f, fd, ps, hm, hk, hb, F⟩ := O
  obtain ⟨cl, n, cm, fr, fk, px, rfl⟩ := hX.eq
  refine (pe_callS0 (X := X) F.ok hr hg hm hk hb (fun σ => passAt tk σ) hdb).imp fun σ H Q q => ?_
  obtain ⟨g, l, st, k, ex, bs, h, hk, hx⟩ := q
  exact ⟨g, st, [], k, ex, bs.ok, .nil, h, to_KG0 hk, to_KX0 hx⟩
/-- keywords -/
def EK (c : Cf) (kws : List Keyword) (ev : EvA) : Prop := ∀ X, At c X → ∀ W, Takes X W → PK X kws (tA c W ev)
theorem _root_.L2.PK.imp {X : Cx} {kws : List Keyword} {t t' : TA} (h : PK X kws t) (i : ∀ σ H Q, t' σ H Q → t σ H Q) : PK X kws t' := ⟨fun pos pins s σ H Q I q => h.run pos pins s σ H Q I (i σ H Q q)⟩
theorem k_nil : EK c [] aNil := fun X _ W _ => pk_nil.imp fun σ H Q q => by
  obtain ⟨g, l, st, k, ex, b, h, hk, _⟩ := q
  exact hk _ _ _ _ _ h (.refl b) .nil
theorem k_cons {nm : Option Str} {kpos : Pos} {e : Expr} {ea : Ev} (h1 : EE c e ea) (h2 : EK c kws b) : EK c (⟨nm, e, kpos⟩ :: kws) (aCons ea b) := fun X hX W tk =>
  (pk_cons (h1 X hX W tk) (h2 X hX W tk)).imp fun σ H Q q => by
    obtain ⟨g, l, st, k, ex, b, h, hk, hx⟩ := q
    refine ⟨g, l, st, _, ex, b, h, fun x st1 g1 H1 v h1 n1 r1 => ?_, hx⟩
    refine ⟨g1, l, st1, _, ex, b.nw n1, h1, fun xs st2 g2 H2 vs h2 n2 r2 => ?_, hx.fut n1.f⟩
    exact hk _ _ _ _ _ h2 (n1.trans n2) (.cons (r1.fut n2.f) r2)
theorem RpL.pick {K : PySem.W.Frag} {cl : Nat → Addr} {g : Gh} {H : Hp} {xs : List G} {vs : List V} (r : RpL K cl g H xs vs) : ∀ p, RpL K cl g H (L2.pick p xs) (L2.pick p vs)
  | [] => .nil
  | i :: p => by
    rw [pick_cons, pick_cons]
    cases e : xs[i]? with
    | some v =>
      obtain ⟨u, e2, r2⟩ := r.get e
      rw [e2]
      exact .cons r2 (RpL.pick r p)
    | none =>
      have : vs[i]? = none := by
        rw [List.getElem?_eq_none_iff] at e ⊢
        rw [← r.length]; exact e
      rw [this]
      exact RpL.pick r p
/-- as eCallK, the numbers of arguments asked -/
def eCallN (Φ : Fn) (fid m j : Nat) (pk : List Nat) (a b : EvA) : Ev := fun l st k ex => a l st (fun xs st1 => b l st1 (fun ys st2 => ck (Nat.beq xs.length m) (ck (Nat.beq ys.length j) (fL (L2.pick pk (xs ++ ys)) fun zs => Φ fid zs st2 k ex))) ex) ex
theorem v_callK (O : c.OwnK Φ fid x m ks pk) (hc : c.cm = true) (ha : EA c (e :: es) a) (hkw : EK c kws b) (hg : c.sc.names.lookup x = some .globalImplicit) (hdb : (x == ("__debug__" : Str)) = false := by decide +kernel)
    (hall : ∀ env, (backToKw pos (keywordEach kws env)).all (·.1.isSome) = true := by intro _; rfl) (hks : ∀ env, (backToKw pos (keywordEach kws env)).filterMap (·.1) = ks := by intro _; rfl)
    (he : ∀ env, starEach (e :: es) env = (false, eval e env) :: starEach es env := by intro _; rfl)
    (hpl : ∀ env, ((backTo pos (starEach (e :: es) env)).any (·.1) || (backToKw pos (keywordEach kws env)).any (·.1.isNone)) = false := by intro _; rfl) :
    EE c (.Call (.Name x p) (e :: es) kws pos) (eCallN Φ fid m ks.length pk a b) := fun X hX W tk => by
  have hA := ha X hX W tk
  have hB := hkw X hX W tk
  have hr := hX.room hc
  obtain ⟨f, fd, ps, hm, hk, hb, F⟩ := O
  obtain ⟨cl, n, cm, fr, fk, px, rfl⟩ := hX.eq
  refine (pe_callKS (X := X) F.ok hr hg hm hk hb (fun σ => passAt tk σ) hA hB (hall _) (hks _) hdb (he _) (hpl _)).imp fun σ H Q q => ?_
  obtain ⟨g, l, st, k, ex, bs, h, hk, hx⟩ := q
  refine ⟨g, l, st, _, ex, bs, h, fun xs st1 g1 H1 vs h1 n1 r1 => ?_, hx⟩
  refine ⟨g1, l, st1, _, ex, bs.nw n1, h1, fun ys st2 g2 H2 us h2 n2 r2 => ?_, hx.fut n1.f⟩
  have h3 := h2.r.r
  rw [fL_eq] at h3
  have n12 := n1.trans n2
  exact ⟨by rw [← r1.length]; exact Nat.eq_of_beq_eq_true h2.l, by rw [← r2.length]; exact Nat.eq_of_beq_eq_true h2.r.l, g2, st2, _, k, ex, n2.ok, ((r1.fut n2.f).append r2).pick pk, h3, to_KG0 (hk.fut n12.f), to_KX0 (hx.fut n12.f)⟩
theorem v_callK0 (O : c.OwnK Φ fid x 0 ks pk) (hc : c.cm = true) (hkw : EK c kws b) (hg : c.sc.names.lookup x = some .globalImplicit) (hdb : (x == ("__debug__" : Str)) = false := by decide +kernel)
    (hall : ∀ env, (backToKw pos (keywordEach kws env)).all (·.1.isSome) = true := by intro _; rfl) (hks : ∀ env, (backToKw pos (keywordEach kws env)).filterMap (·.1) = ks := by intro _; rfl)
    (hpl : ∀ env, ((backTo pos (starEach [] env)).any (·.1) || (backToKw pos (keywordEach kws env)).any (·.1.isNone)) = false := by intro _; rfl) :
    EE c (.Call (.Name x p) [] kws pos) (eCallN Φ fid 0 ks.length pk aNil b) := fun X hX W tk => by
  have hB := hkw X hX W tk
  have hr := hX.room hc
  obtain ⟨f, fd, ps, hm, hk, hb, F⟩ := O
  obtain ⟨cl, n, cm, fr, fk, px, rfl⟩ := hX.eq
  refine (pe_callKS0 (X := X) F.ok hr hg hm hk hb (fun σ => passAt tk σ) hB (hall _) (hks _) hdb (hpl _)).imp fun σ H Q q => ?_
  obtain ⟨g, l, st, k, ex, bs, h, hk, hx⟩ := q
  refine ⟨g, l, st, _, ex, bs, h, fun ys st2 g2 H2 us h2 n2 r2 => ?_, hx⟩
  have h3 := h2.r.r
  rw [fL_eq] at h3
  exact ⟨rfl, by rw [← r2.length]; exact Nat.eq_of_beq_eq_true h2.r.l, g2, st2, _, k, ex, n2.ok, r2.pick pk, h3, to_KG0 (hk.fut n2.f), to_KX0 (hx.fut n2.f)⟩
/-- .. the number of keywords apart, so that the unifier isn't held up -/
theorem v_callKj {j : Nat} (O : c.OwnK Φ fid x m ks pk) (hj : ks.length = j) (hc : c.cm = true) (ha : EA c (e :: es) a) (hkw : EK c kws b) (hg : c.sc.names.lookup x = some .globalImplicit) (hdb : (x == ("__debug__" : Str)) = false := by decide +kernel)
    (hall : ∀ env, (backToKw pos (keywordEach kws env)).all (·.1.isSome) = true := by intro _; rfl) (hks : ∀ env, (backToKw pos (keywordEach kws env)).filterMap (·.1) = ks := by intro _; rfl)
    (he : ∀ env, starEach (e :: es) env = (false, eval e env) :: starEach es env := by intro _; rfl)
    (hpl : ∀ env, ((backTo pos (starEach (e :: es) env)).any (·.1) || (backToKw pos (keywordEach kws env)).any (·.1.isNone)) = false := by intro _; rfl) :
    EE c (.Call (.Name x p) (e :: es) kws pos) (eCallN Φ fid m j pk a b) := by
  subst hj
  exact v_callK O hc ha hkw hg hdb hall hks he hpl
theorem v_callKj0 {j : Nat} (O : c.OwnK Φ fid x 0 ks pk) (hj : ks.length = j) (hc : c.cm = true) (hkw : EK c kws b) (hg : c.sc.names.lookup x = some .globalImplicit) (hdb : (x == ("__debug__" : Str)) = false := by decide +kernel)
    (hall : ∀ env, (backToKw pos (keywordEach kws env)).all (·.1.isSome) = true := by intro _; rfl) (hks : ∀ env, (backToKw pos (keywordEach kws env)).filterMap (·.1) = ks := by intro _; rfl)
    (hpl : ∀ env, ((backTo pos (starEach [] env)).any (·.1) || (backToKw pos (keywordEach kws env)).any (·.1.isNone)) = false := by intro _; rfl) :
    EE c (.Call (.Name x p) [] kws pos) (eCallN Φ fid 0 j pk aNil b) := by
  subst hj
  exact v_callK0 O hc hkw hg hdb hall hks hpl
/-! ### a def's body -/
def runB (m n : Nat) (b : EvS) (xs : List G) (st : Sto) (k : KG) (ex : KX) : Prop := ck (Nat.beq xs.length m) (fL (xs.map some ++ List.replicate n none) fun l => b l st ⟨fun _ st' => k .non st', k, fun _ _ => False, fun _ _ => False, fun x _ st' => ex x st'⟩)
def bodyCf (P : Program) (w : World) (K : PySem.W.Frag) (mg : Str → Option Value) (base : Heap) (cl : Nat → Addr) (n : Nat) (sc : Scope) (N : List Str) : Cf := ⟨P, w, K, mg, base, sc, N, cl, n, true, true, fun _ => true, none⟩
theorem rel_start {g : Gh} {H : Hp} {xs : List G} {vs : List V} {N : List Str} {n : Nat} (r : c.RpL g H xs vs) (hn : n = N.length - vs.length) : RelL c g H (xs.map some ++ List.replicate n none) (L2.start N vs) := by
  subst hn
  unfold L2.start
  refine ⟨by simp only [List.length_append, List.length_map, List.length_replicate]; rw [r.length], fun i x e => ?_⟩
  by_cases hi : i < xs.length
  · rw [List.getElem?_append_left (by rw [List.length_map]; exact hi), List.getElem?_map] at e
    cases e2 : xs[i]? with
    | none => rw [e2] at e; cases e
    | some y =>
      rw [e2] at e
      cases e
      obtain ⟨v, e3, r3⟩ := r.get e2
      refine ⟨v, ?_, r3⟩
      rw [List.getElem?_append_left (by rw [List.length_map, ← r.length]; exact hi), List.getElem?_map, e3]; rfl
  · rw [List.getElem?_append_right (by rw [List.length_map]; omega), List.getElem?_replicate] at e
    split at e <;> cases e
theorem fok_of {P : Program} {w : World} {K : PySem.W.Frag} {mg : Str → Option Value} {base : Heap} {cl : Nat → Addr} {qual : Str} {params : Arguments} {body : List Stmt} {scope : Scope} {dvs : List V} {kws : List (Str × V)} {f : Addr} {fd : FuncData} {N ps : List Str} {n k : Nat} {b : EvS}
    (F : FunD K x qual params body scope dvs kws f fd) (S : FnScope N ps scope) (hb : ESs (bodyCf P w K mg base cl k scope N) body b) (hΦ : ∀ xs st k ex, Φ fid xs st k ex → runB ps.length n b xs st k ex) (hn : n = N.length - ps.length) : FOk K cl P w mg base Φ (k + 1) fid f fd ps := by
  have hlen : ∀ xs st k ex, Φ fid xs st k ex → xs.length = ps.length := fun xs st k ex h => Nat.eq_of_beq_eq_true (hΦ xs st k ex h).l
  refine ⟨hlen, F.ok S (fun vs H Q E h => ?_) fun cdv A outer s H vs Q E hr h => ?_⟩
  · obtain ⟨g, st, xs, k, ex, ok, r, h, _⟩ := h
    rw [← r.length]; exact hlen _ _ _ _ h
  · obtain ⟨g, st, xs, kk, ex, ok, r, h, hk, hx⟩ := h
    have hl := hlen _ _ _ _ h
    have h := (hΦ _ _ _ _ h).r
    rw [fL_eq] at h
    have tk : Takes (cxOf (L2.CX P w) P w K mg base N qual scope f cdv A outer s H E) (fun cls d _ H => E cls d H) := takes_of rfl rfl rfl rfl
    have po : PassesOwn (model P w) (cxOf (L2.CX P w) P w K mg base N qual scope f cdv A outer s H E).A (cxOf (L2.CX P w) P w K mg base N qual scope f cdv A outer s H E).env (cxOf (L2.CX P w) P w K mg base N qual scope f cdv A outer s H E).xe := passes_of rfl
    have at_ : At (bodyCf P w K mg base cl k scope N) (cxOf (L2.CX P w) P w K mg base N qual scope f cdv A outer s H E) := ⟨⟨cl, k, true, true, fun _ => true, none, rfl⟩, rfl, fun _ => hr, hr.units, fun _ => ⟨rfl, rfl, rfl⟩, S.nd, (fun _ _ => rfl), fun p hp => nomatch hp⟩
    refine ⟨_, hb _ at_ _ tk po, g, _, st, _, ⟨ok, rel_start r (by rw [← r.length, hl]; exact hn), fun p hp => nomatch hp⟩, h, ⟨?_, of_KG0 hk, fun _ _ _ _ _ z => z.elim, fun _ _ _ _ _ z => z.elim, ?_⟩⟩
    · exact fun l' st' g' H' σ' e f b => hk _ _ _ _ _ e f b.ok .non
    · intro x l' st' g' H' σ' cls d e f b r
      obtain ⟨rfl, rfl⟩ := r
      exact hx x st' g' H' e f b.ok
end
end RS

/-! RS: raise, try. -/
namespace L2
open PySem PySem.Spec PyProof.Rows
/-- a clause: its class, its name's slot, its suite -/
abbrev HdA : Type := Value × Option Nat × (Addr → Value → Option Addr → TS)
/-- what the clauses wish of an exception of the body, one after the other -/
def wManyA (K : PySem.W.Frag) (Wout : WX) (D : Ends) : List HdA → WX
  | [] => Wout
  | (c, none, ts) :: r => fun cls d σ H => ∃ b, PySem.W.exmOne K cls c = some b ∧ (b = true → ∀ a, H a = none → ts a cls d D σ H) ∧ (b = false → wManyA K Wout D r cls d σ H)
  | (c, some i, ts) :: r => fun cls d σ H => ∃ b, PySem.W.exmOne K cls c = some b ∧ (b = true → ∀ a, H a = none → ts a cls d { nx := fun σ' H' => D.nx (σ'.set i none) H', rt := D.rt, bk := fun σ' H' => D.bk (σ'.set i none) H', ct := fun σ' H' => D.ct (σ'.set i none) H' } (σ.set i (some (.ref a))) H) ∧
    (b = false → wManyA K Wout D r cls d σ H)
inductive HdsA (X : Cx) : List ExceptHandler → List HdA → Prop
  | nil : HdsA X [] []
  | cons {x : Str} {c : Value} {ts : Addr → Value → Option Addr → TS} {b₀ : Stmt} {suite : List Stmt} {np pos' : Pos} {hds : List ExceptHandler} {l : List HdA} (hc : Names X x c)
      (hsu : ∀ (a : Addr) (oe : Obj) (cls : Value) (d : Option Addr) (pn : List (Addr × Obj)), Zc cls d oe → (∃ vs, oe.data = .fields vs) → PSs (X.suite a ((a, oe) :: pn)) (b₀ :: suite) (ts a cls d)) (r : HdsA X hds l) :
      HdsA X (.ExceptHandler (some (.Name x np)) none (b₀ :: suite) pos' :: hds) ((c, none, ts) :: l)
  | named {x n : Str} {i : Nat} {c : Value} {ts : Addr → Value → Option Addr → TS} {b₀ : Stmt} {suite : List Stmt} {np pos' : Pos} {hds : List ExceptHandler} {l : List HdA} (hc : Names X x c) (hi : X.N[i]? = some n) (hln : X.env.kindOf n = some .local)
      (hsu : ∀ (a : Addr) (oe : Obj) (cls : Value) (d : Option Addr) (pn : List (Addr × Obj)), Zc cls d oe → (∃ vs, oe.data = .fields vs) → PSs (X.suite a ((a, oe) :: pn)) (b₀ :: suite) (ts a cls d)) (r : HdsA X hds l) :
      HdsA X (.ExceptHandler (some (.Name x np)) (some n) (b₀ :: suite) pos' :: hds) ((c, some i, ts) :: l)
section
variable {X : Cx} {body : List Stmt} {h₀ : ExceptHandler} {hds : List ExceptHandler} {l : List HdA} {pos : Pos} {tb : WX → TS} {Wout : WX}
theorem ps_tryA (hN : X.N.Nodup) (hs : X.stack = X.env :: X.outer) (hf : X.env.frame = some X.env.locals) (tk : Takes X Wout)
    (hb : ∀ (W : WX) (pn : List (Addr × Obj)) (xe : Value → Shared → Prop), Takes (X.tr pn xe) W → PassesOwn (model X.prog X.w) X.A X.env xe → PSs (X.tr pn xe) body (tb W))
    (hh : HdsA X (h₀ :: hds) l) : PS X (.Try body (h₀ :: hds) [] [] pos) (fun D σ H => tb (wManyA X.K Wout D l) D σ H) := by
  refine ⟨fun pins s σ H D I h => ?_⟩
  have ok := I.ok
  have hfr : X.A.frames = some (X.env :: X.outer) := by rw [ok.frames, hs]
  refine wpAny_Try_except ?_
  refine wpAny_mono ((hb (wManyA X.K Wout D l) (X.pn ++ pins) (fun e s₁ => wpAny (model X.prog X.w) X.A (noteFrame e X.env) (fun _ s₂ => wpAny (model X.prog X.w) X.A (setFlight e none) (fun _ s₃ =>
    wpAny (model X.prog X.w) X.A (handleBy e X.env (h₀ :: hds)) (SP X pins D) X.xe s₃) X.xe s₂) X.xe s₁) (fun u s' xx => ?_) PassesOwn.looking).run [] s σ H D (I.toTry _) h) (fun f s1 hsp => ?_) (fun e s1 he => he)
  · -- the catch
    obtain ⟨a, B, sI, pins', σ', H', cls, d, rfl, J', nb, up, sky, na, os, ag, w⟩ := xx
    have J : Inv X pins σ' H' sI := J'.ofTry ok
    have sky' : Sky B (X.env :: X.outer) a (Zc cls d) X.env.locals s'.heap := by rw [← hs]; exact sky
    show wpAny (model X.prog X.w) X.A (noteFrame (.ref a) X.env) _ _ _
    refine Sky.land Zc.steady hfr hf sky' fun h3 fl3 up3 => ?_
    have J3 : Inv X pins σ' H' { s' with heap := h3 } := J.landed nb fl3.1 (up.trans up3) os ag
    obtain ⟨oe3, vs3, he3, hz3, hd3⟩ := fl3.there
    have notFr : ∀ {h : Heap} {o : Obj} {vs : Array Value}, h.FunFrames B (X.env :: X.outer) → h.get? a = some o → o.data = .fields vs → a ∉ frs (X.env :: X.outer) := fun {h o vs} ff e dd hm => by
      obtain ⟨_, o', e', hnf⟩ := ff.mem hm
      rw [e] at e'; cases e'
      exact hnf _ dd
    have nfr := notFr fl3.2.2.1 he3 hd3
    have nL : a ≠ X.env.locals := fun z => nfr (List.mem_filterMap.mpr ⟨X.env, List.mem_cons_self, by rw [hf, z]⟩)
    have nF : a ∉ X.fs := fun hm => by
      obtain ⟨e, he, q⟩ := List.mem_filterMap.mp hm
      exact nfr (List.mem_filterMap.mpr ⟨e, List.mem_cons_of_mem _ he, q⟩)
    have S3 := J3.suite he3 hd3 na nL nF
    have go : ∀ {hds' : List ExceptHandler} {l' : List HdA}, HdsA X hds' l' → wManyA X.K Wout D l' cls d σ' H' →
        wpAny (model X.prog X.w) X.A (handleBy (.ref a) X.env hds') (SP X pins D) X.xe { s' with heap := h3 } := by
      intro hds' l' hk
      induction hk with
      | nil =>
        intro w
        refine wpAny_handleBy_nil ?_
        obtain ⟨k1, k2, k3, oe, vs, T, oT, ts', he, hz, hd, h1, hr⟩ := id fl3
        unfold PySem.passOn
        refine wpAny_bind (wpAny_field he hd h1 ?_)
        rw [if_neg (show ¬ ((Value.ref T == Value.none) = true) from by simp)]
        have fin : wpAny (model X.prog X.w) X.A (setFlight (.ref a) X.env.frame) (fun _ s4 => wpAny (model X.prog X.w) X.A (throw (.ref a) : Sem Flow) (SP X pins D) X.xe s4) X.xe { s' with heap := h3 } := by
          rw [hf]
          refine HandSPX.setFlight_upZ fl3 fun h4 hh4 up4 => wpAny_throw (tk _ _ ?_)
          exact ⟨a, B, sI, pins, σ', H', cls, d, rfl, J, nb, (up.trans up3).trans up4, .inr (.inr (by rw [hs]; exact hh4)), na, os, ag, w⟩
        first
          | exact wpAny_bind (wpAny_pure (wpAny_bind fin))
          | exact wpAny_bind fin
      | @cons x c ts b₀ suite np pos' hds2 l2 hc hsu r ih =>
        intro w
        obtain ⟨b, hb1, hyes, hno⟩ := w
        refine wpAny_handleBy_cons (codeAny_handlers_test ?_) (by intro q; cases q)
        have LT : PySem.W.Looks (model X.prog X.w) h3 (typeOf (.ref a)) cls := fun A Q E s k q => wpAny_typeOf_ref (k _ _ he3) (by rw [hz3.1]; exact q)
        have LM := PySem.W.exm_one (M := model X.prog X.w) (J3.kIn) LT hb1
        have test : ∀ {Q : Value → Shared → Prop} {E : Value → Shared → Prop}, Q c { s' with heap := h3 } → wpAny (model X.prog X.w) (X.A.mark (some (.ref a))) (eval (.Name x np) X.env) Q E { s' with heap := h3 } := fun {Q E} q => by
          obtain ⟨hg, hdbg, hm | ⟨hm, hv, hnn⟩⟩ := hc
          · exact ld_glob (X := X.suite a ((a, oe3) :: (X.pn ++ pins))) S3 hg hm q hdbg
          · exact ld_blt (X := X.suite a ((a, oe3) :: (X.pn ++ pins))) S3 hg hm hv q hnn hdbg
        refine test (LM.here ?_)
        cases b with
        | true =>
          refine codeAny_handlers_suite ?_
          refine HandSPX.lands_againZ fl3 fun h4 fl4 up4 => ?_
          have J4 : Inv X pins σ' H' { s' with heap := h4 } := J.landed nb fl4.1 ((up.trans up3).trans up4) os ag
          obtain ⟨oe4, vs4, he4, hz4, hd4⟩ := fl4.there
          have S4 := J4.suite he4 hd4 na nL nF
          refine wpAny_mono ((hsu a oe4 cls d (X.pn ++ pins) hz4 ⟨_, hd4⟩).run [] _ _ H' _ S4 (hyes rfl a na)) (fun f s6 hsp => ?_) (fun _ _ z => False.elim z)
          cases f with
          | next =>
            obtain ⟨σ6, H6, S6, q6⟩ := hsp
            exact ⟨_, _, S6.unsuite ok, q6⟩
          | brk =>
            obtain ⟨σ6, H6, S6, q6⟩ := hsp
            exact ⟨_, _, S6.unsuite ok, q6⟩
          | cont =>
            obtain ⟨σ6, H6, S6, q6⟩ := hsp
            exact ⟨_, _, S6.unsuite ok, q6⟩
          | ret u =>
            obtain ⟨v6, σ6, H6, S6, r6, q6⟩ := hsp
            exact ⟨_, _, _, S6.unsuite ok, r6, q6⟩
        | false =>
          show wpAny _ X.A (handleBy (.ref a) X.env hds2) _ _ _
          exact ih (hno rfl)
      | @named x n i c ts b₀ suite np pos' hds2 l2 hc hi hln hsu r ih =>
        intro w
        obtain ⟨b, hb1, hyes, hno⟩ := w
        refine wpAny_handleBy_cons (codeAny_handlers_test ?_) (by intro q; cases q)
        have LT : PySem.W.Looks (model X.prog X.w) h3 (typeOf (.ref a)) cls := fun A Q E s k q => wpAny_typeOf_ref (k _ _ he3) (by rw [hz3.1]; exact q)
        have LM := PySem.W.exm_one (M := model X.prog X.w) (J3.kIn) LT hb1
        have test : ∀ {Q : Value → Shared → Prop} {E : Value → Shared → Prop}, Q c { s' with heap := h3 } → wpAny (model X.prog X.w) (X.A.mark (some (.ref a))) (eval (.Name x np) X.env) Q E { s' with heap := h3 } := fun {Q E} q => by
          obtain ⟨hg, hdbg, hm | ⟨hm, hv, hnn⟩⟩ := hc
          · exact ld_glob (X := X.suite a ((a, oe3) :: (X.pn ++ pins))) S3 hg hm q hdbg
          · exact ld_blt (X := X.suite a ((a, oe3) :: (X.pn ++ pins))) S3 hg hm hv q hnn hdbg
        refine test (LM.here ?_)
        cases b with
        | true =>
          refine codeAny_handlers_suite_as ?_
          refine HandSPX.lands_againZ fl3 fun h4 fl4 up4 => ?_
          have J4 : Inv X pins σ' H' { s' with heap := h4 } := J.landed nb fl4.1 ((up.trans up3).trans up4) os ag
          obtain ⟨oe4, vs4, he4, hz4, hd4⟩ := fl4.there
          have S4 := J4.suite he4 hd4 na nL nF
          have hloc : Loc X.env.scope n := .inl hln
          refine store_ok (X := X.suite a ((a, oe4) :: (X.pn ++ pins))) (v := .ref a) S4 hN hi hloc rfl (fun s5 S5 => ?_) (.inr hln)
          refine wpAny_mono ((hsu a oe4 cls d (X.pn ++ pins) hz4 ⟨_, hd4⟩).run [] s5 _ H' _ S5 (hyes rfl a na)) (fun f s6 hsp => ?_) (fun _ _ z => False.elim z)
          have end_ : ∀ {σ6 : St} {H6 : Hp} {Q : Shared → Prop}, Inv (X.suite a ((a, oe4) :: (X.pn ++ pins))) [] σ6 H6 s6 → (∀ s7, Inv X pins (σ6.set i none) H6 s7 → Q s7) →
              wpAny (model X.prog X.w) X.A (do bindName X.env n .none; unbindBehindTheSuite X.env n pos') (fun _ s7 => Q s7) X.xe s6 := fun {σ6 H6 Q} S6 hq => gone_ok (S6.unsuite ok) hN hi hln hq
          cases f with
          | next =>
            obtain ⟨σ6, H6, S6, q6⟩ := hsp
            exact end_ S6 fun s7 J7 => ⟨_, _, J7, q6⟩
          | brk =>
            obtain ⟨σ6, H6, S6, q6⟩ := hsp
            exact end_ S6 fun s7 J7 => ⟨_, _, J7, q6⟩
          | cont =>
            obtain ⟨σ6, H6, S6, q6⟩ := hsp
            exact end_ S6 fun s7 J7 => ⟨_, _, J7, q6⟩
          | ret u =>
            obtain ⟨v6, σ6, H6, S6, r6, q6⟩ := hsp
            exact end_ S6 fun s7 J7 => ⟨_, _, _, J7, r6, q6⟩
        | false =>
          show wpAny _ X.A (handleBy (.ref a) X.env hds2) _ _ _
          exact ih (hno rfl)
    exact go hh w
  · cases f with
    | next =>
      obtain ⟨σ', H', J', q⟩ := hsp
      exact wpAny_execs_nil ⟨σ', H', J'.ofTry ok, q⟩
    | brk =>
      obtain ⟨σ', H', J', q⟩ := hsp
      exact ⟨σ', H', J'.ofTry ok, q⟩
    | cont =>
      obtain ⟨σ', H', J', q⟩ := hsp
      exact ⟨σ', H', J'.ofTry ok, q⟩
    | ret u =>
      obtain ⟨v, σ', H', J', r, q⟩ := hsp
      exact ⟨v, σ', H', J'.ofTry ok, r, q⟩
end
end L2
namespace RS
open PySem PySem.Spec L2
/-- what is known of an own exception class (number k, name x) without own __init__ -/
structure ExK (K : PySem.W.Frag) (mg : Str → Option Value) (cl : Nat → Addr) (k : Nat) (x : Str) : Prop where
  gC : mg x = some (.ref (cl k))
  made : ∃ B newId initId bmB, ExcBaseFacts B newId initId bmB ∧ PySem.W.excIn K (cl k) bmB newId = true
  kC : PySem.W.keepIn K (.ref (cl k)) = true
  sb : PySem.W.subIn K (.ref (cl k)) (.type "BaseException") = some true
  ty : PySem.W.typeIn K (.ref (cl k)) = some (.type "type")
section
variable {c : Cf} {x : Str} {p pos pos' : Pos} {k : Nat}
def sRaise (k : Nat) : EvS := fun l st K => K.ex k l st
theorem s_raise (h : ExK c.K c.mg c.cl k x) (hc : c.cm = true) (hg : c.sc.names.lookup x = some .globalImplicit) (hdb : (x == ("__debug__" : Str)) = false := by decide +kernel) : ES c (.Raise (some (.Call (.Name x p) [] [] pos)) none pos') (sRaise k) := fun X hX W tk hp => by
  have cm := hX.calm
  obtain ⟨B, newId, initId, bmB, F, q⟩ := h.made
  have h1 := h.gC
  have h2 := h.kC
  have h3 := h.sb
  have h4 := h.ty
  obtain ⟨cl, n, cm', fr, fk, px, rfl⟩ := hX.eq
  refine (ps_raise (X := X) (cm.trans hc) tk (pmk_own0 F q h1 h2 (raises_own h3 h4) hg hdb)).imp fun D σ H q => ?_
  obtain ⟨g, l, st, K, bs, h, k⟩ := q
  exact k.ex _ _ _ _ _ _ _ _ h .refl bs ⟨rfl, rfl⟩
/-! ### try -/
def Cf.suite (c : Cf) (i : Option Nat) (a : Addr) (x : Nat) : Cf := { c with cm := false, px := i.map fun j => (j, a, x) }
/-- a clause: does it take the class? its name's slot; its suite -/
structure HdE where
  m : Nat → Option Bool
  i : Option Nat
  s : Nat → EvS
def KS.wi (K : KS) (i : Nat) : KS := ⟨fun l st => fset l i none fun l' => K.nx l' st, K.rt, fun l st => fset l i none fun l' => K.bk l' st, fun l st => fset l i none fun l' => K.ct l' st, fun _ _ _ => False⟩
def KS.wo (K : KS) : KS := ⟨K.nx, K.rt, K.bk, K.ct, fun _ _ _ => False⟩
def tryH (x : Nat) (l : L) (st : Sto) (K : KS) : List HdE → Prop
  | [] => K.ex x l st
  | h :: r => match h.m x with
    | none => False
    | some b => (match b with
      | false => tryH x l st K r
      | true => (match h.i with
        | none => h.s x l st K.wo
        | some i => fset l i none fun l' => h.s x l' st (K.wi i)))
def sTry (b : EvS) (hs : List HdE) : EvS := fun l st K => b l st { K with ex := fun x l1 st1 => tryH x l1 st1 K hs }
theorem At.tr {X : Cx} (hX : At c X) (hp : c.px = none) {pn : List (Addr × Obj)} {xe : Value → Shared → Prop} : At c (X.tr pn xe) := by
  have h1 := hX.calm
  have h2 := hX.room
  have h3 := hX.units
  have h4 := hX.nd
  have h5 := hX.frame
  have h6 := hX.fn
  obtain ⟨cl, n, cm, fr, fk, px, rfl⟩ := hX.eq
  have hp : px = none := hp
  subst hp
  exact ⟨⟨cl, n, cm, fr, fk, none, rfl⟩, h1, h2, h3, h5, h4, h6, fun p hp => nomatch hp⟩
theorem At.suite {X : Cx} (hX : At c X) {i : Option Nat} {a : Addr} {y : Nat} {oe : Obj} {pn : List (Addr × Obj)} (hz : Zc (.ref (c.cl y)) none oe) (hf : ∃ vs, oe.data = .fields vs) : At (c.suite i a y) (X.suite a ((a, oe) :: pn)) := by
  have h3 := hX.units
  have h4 := hX.nd
  have h5 := hX.frame
  have h6 := hX.fn
  obtain ⟨cl, n, cm, fr, fk, px, rfl⟩ := hX.eq
  refine ⟨⟨cl, n, false, fr, fk, i.map fun j => (j, a, y), rfl⟩, rfl, (fun z => nomatch z), ?_, h5, h4, h6, fun p hp => ?_⟩
  · first | exact h3 | (simpa [Around.mark] using h3)
  · cases i with
    | none => cases hp
    | some j =>
      cases hp
      exact ⟨X, oe, pn, rfl, hz, hf⟩
inductive HdsE (c : Cf) : List ExceptHandler → List HdE → Prop
  | nil : HdsE c [] []
  | cons {y : Str} {k : Nat} {np pos' : Pos} {b₀ : Stmt} {suite : List Stmt} {hds : List ExceptHandler} {l : List HdE} {m : Nat → Option Bool} {s : Nat → EvS} (hg : c.sc.names.lookup y = some .globalImplicit) (hdb : (y == ("__debug__" : Str)) = false) (hm : c.mg y = some (.ref (c.cl k)))
      (hx : ∀ z b, m z = some b → PySem.W.exmOne c.K (.ref (c.cl z)) (.ref (c.cl k)) = some b) (hs : ∀ z a, ESs (c.suite none a z) (b₀ :: suite) (s z)) (r : HdsE c hds l) : HdsE c (.ExceptHandler (some (.Name y np)) none (b₀ :: suite) pos' :: hds) (⟨m, none, s⟩ :: l)
  | named {y n : Str} {i k : Nat} {np pos' : Pos} {b₀ : Stmt} {suite : List Stmt} {hds : List ExceptHandler} {l : List HdE} {m : Nat → Option Bool} {s : Nat → EvS} (hg : c.sc.names.lookup y = some .globalImplicit) (hdb : (y == ("__debug__" : Str)) = false) (hm : c.mg y = some (.ref (c.cl k))) (hi : c.N[i]? = some n) (hln : c.sc.names.lookup n = some .local)
      (hx : ∀ z b, m z = some b → PySem.W.exmOne c.K (.ref (c.cl z)) (.ref (c.cl k)) = some b) (hs : ∀ z a, ESs (c.suite (some i) a z) (b₀ :: suite) (s z)) (r : HdsE c hds l) : HdsE c (.ExceptHandler (some (.Name y np)) (some n) (b₀ :: suite) pos' :: hds) (⟨m, some i, s⟩ :: l)
/-- the clauses of the layer below -/
inductive HdM (c : Cf) : List HdE → List HdA → Prop
  | nil : HdM c [] []
  | cons {h : HdE} {k : Nat} {hds : List HdE} {l : List HdA} (hx : ∀ z b, h.m z = some b → PySem.W.exmOne c.K (.ref (c.cl z)) (.ref (c.cl k)) = some b) (r : HdM c hds l) :
    HdM c (h :: hds) ((.ref (c.cl k), h.i, fun a cls d D σ H => ∃ z, cls = .ref (c.cl z) ∧ d = none ∧ tS (c.suite h.i a z) W0 (h.s z) D σ H) :: l)
theorem RelL.noneL {g : Gh} {H : Hp} {l : L} {σ : L2.St} (r : RelL c g H l σ) (i : Nat) (v : Option V) : RelL c g H (l.set i Option.none) (σ.set i v) := by
  refine ⟨by rw [List.length_set, List.length_set]; exact r.1, fun j x e => ?_⟩
  by_cases h : i = j
  · subst h
    by_cases hl : i < l.length
    · rw [List.getElem?_set_self hl] at e; cases e
    · rw [List.getElem?_eq_none (by rw [List.length_set]; omega)] at e; cases e
  · rw [List.getElem?_set_ne h] at e
    obtain ⟨u, h1, h2⟩ := r.2 j x e
    exact ⟨u, by rw [List.getElem?_set_ne h]; exact h1, h2⟩
theorem tryH_w {W : WX} {hs : List HdE} {ls : List HdA} (m : HdM c hs ls) (hp : c.px = none) {x : Nat} {l : L} {st : Sto} {K : KS} (h : tryH x l st K hs) {g : Gh} {H : Hp} {σ : L2.St} {D : Ends} (b : Bs c g H st l σ) (k : KeepS c g H K D W) : wManyA c.K W D ls (.ref (c.cl x)) none σ H := by
  induction m with
  | nil => exact k.ex _ _ _ _ _ _ _ _ h .refl b ⟨rfl, rfl⟩
  | @cons hd kk hds l2 hx r ih =>
    have h : (match hd.m x with
      | none => False
      | some b => (match b with
        | false => tryH x l st K hds
        | true => (match hd.i with
          | none => hd.s x l st K.wo
          | some i => fset l i none fun l' => hd.s x l' st (K.wi i)))) := h
    cases e : hd.m x with
    | none => simp only [e] at h
    | some t =>
      simp only [e] at h
      have he := hx x t e
      obtain ⟨hm, hi, hsu⟩ := hd
      cases hi with
      | none =>
        refine ⟨t, he, fun et a ha => ?_, fun et => ?_⟩
        · subst et
          have h : hsu x l st K.wo := h
          exact ⟨x, rfl, rfl, g, l, st, K.wo, ⟨b.ok, b.l, fun p hp => nomatch hp⟩, h, ⟨fun l' st' g' H' σ' e f b' => k.nx _ _ _ _ _ e f ⟨b'.ok, b'.l, fun p z => by rw [hp] at z; cases z⟩, (fun x st' g' H' v e n r => k.rt x st' g' H' v e ⟨n.f, n.ok⟩ r), fun l' st' g' H' σ' e f b' => k.bk _ _ _ _ _ e f ⟨b'.ok, b'.l, fun p z => by rw [hp] at z; cases z⟩, fun l' st' g' H' σ' e f b' => k.ct _ _ _ _ _ e f ⟨b'.ok, b'.l, fun p z => by rw [hp] at z; cases z⟩, fun _ _ _ _ _ _ _ _ z => z.elim⟩⟩
        · subst et
          exact ih h
      | some i =>
        refine ⟨t, he, fun et a ha => ?_, fun et => ?_⟩
        · subst et
          have h : fset l i none fun l' => hsu x l' st (K.wi i) := h
          rw [fset_eq] at h
          have back : ∀ {kk : L → Sto → Prop} {DD : L2.St → Hp → Prop}, KeepL c g H kk DD → KeepL (c.suite (some i) a x) g H (fun l st => fset l i none fun l' => kk l' st) (fun σ' H' => DD (σ'.set i none) H') := fun {kk DD} hk l' st' g' H' σ' e f b' => by
            have e : fset l' i none (fun l' => kk l' st') := e
            rw [fset_eq] at e
            exact hk _ _ _ _ _ e f ⟨b'.ok, RelL.noneL (c := c) b'.l i none, fun p z => by rw [hp] at z; cases z⟩
          exact ⟨x, rfl, rfl, g, l.set i none, st, K.wi i, ⟨b.ok, RelL.noneL (c := c) b.l i _, fun p hp' => by
            cases hp'
            intro v hv
            have hv : (σ.set i (some (V.ref a)))[i]? = some v := hv
            by_cases hlt : i < σ.length
            · rw [List.getElem?_set_self hlt] at hv
              exact (Option.some.inj hv).symm
            · rw [List.getElem?_eq_none (by rw [List.length_set]; omega)] at hv; cases hv⟩, h, ⟨back k.nx, (fun x st' g' H' v e n r => k.rt x st' g' H' v e ⟨n.f, n.ok⟩ r), back k.bk, back k.ct, fun _ _ _ _ _ _ _ _ z => z.elim⟩⟩
        · subst et
          exact ih h
theorem hdsE_A {X : Cx} (hX : At c X) {hds : List ExceptHandler} {hs : List HdE} (h : HdsE c hds hs) : ∃ ls, HdsA X hds ls ∧ HdM c hs ls := by
  induction h with
  | nil => exact ⟨[], .nil, .nil⟩
  | @cons y k np pos' b₀ suite hds l m s hg hdb hm hx hs r ih =>
    obtain ⟨ls, h1, h2⟩ := ih
    have sui : ∀ (a : Addr) (oe : Obj) (cls : Value) (d : Option Addr) (pn : List (Addr × Obj)), Zc cls d oe → (∃ vs, oe.data = .fields vs) → PSs (X.suite a ((a, oe) :: pn)) (b₀ :: suite) (fun D σ H => ∃ z, cls = .ref (c.cl z) ∧ d = none ∧ tS (c.suite none a z) W0 (s z) D σ H) := fun a oe cls d pn hz hf => ⟨fun pins s' σ H D I q => by
      obtain ⟨z, rfl, rfl, q⟩ := q
      exact (hs z a _ (hX.suite hz hf) W0 takes0 PassesOwn.never).run pins s' σ H D I q⟩
    refine ⟨_, .cons (c := .ref (c.cl k)) (ts := fun a cls d D σ H => ∃ z, cls = .ref (c.cl z) ∧ d = none ∧ tS (c.suite none a z) W0 (s z) D σ H) ?_ sui h1, .cons (h := ⟨m, none, s⟩) hx h2⟩
    · obtain ⟨cl, n, cm, fr, fk, px, rfl⟩ := hX.eq
      exact ⟨hg, hdb, .inl hm⟩
  | @named y n i k np pos' b₀ suite hds l m s hg hdb hm hi hln hx hs r ih =>
    obtain ⟨ls, h1, h2⟩ := ih
    have sui : ∀ (a : Addr) (oe : Obj) (cls : Value) (d : Option Addr) (pn : List (Addr × Obj)), Zc cls d oe → (∃ vs, oe.data = .fields vs) → PSs (X.suite a ((a, oe) :: pn)) (b₀ :: suite) (fun D σ H => ∃ z, cls = .ref (c.cl z) ∧ d = none ∧ tS (c.suite (some i) a z) W0 (s z) D σ H) := fun a oe cls d pn hz hf => ⟨fun pins s' σ H D I q => by
      obtain ⟨z, rfl, rfl, q⟩ := q
      exact (hs z a _ (hX.suite hz hf) W0 takes0 PassesOwn.never).run pins s' σ H D I q⟩
    refine ⟨_, .named (n := n) (i := i) (c := .ref (c.cl k)) (ts := fun a cls d D σ H => ∃ z, cls = .ref (c.cl z) ∧ d = none ∧ tS (c.suite (some i) a z) W0 (s z) D σ H) ?_ ?_ ?_ sui h1, .cons (h := ⟨m, some i, s⟩) hx h2⟩
    · obtain ⟨cl, n, cm, fr, fk, px, rfl⟩ := hX.eq
      exact ⟨hg, hdb, .inl hm⟩
    · obtain ⟨cl, n, cm, fr, fk, px, rfl⟩ := hX.eq
      exact hi
    · obtain ⟨cl, n, cm, fr, fk, px, rfl⟩ := hX.eq
      exact hln
theorem s_try {body : List Stmt} {h₀ : ExceptHandler} {hds : List ExceptHandler} {b : EvS} {hs : List HdE} (hc : c.fr = true) (hp : c.px = none) (hb : ESs c body b) (hh : HdsE c (h₀ :: hds) hs) : ES c (.Try body (h₀ :: hds) [] [] pos) (sTry b hs) := fun X hX W tk hpo => by
  obtain ⟨ls, hA, hM⟩ := hdsE_A hX hh
  obtain ⟨f1, f2, f3⟩ := hX.frame hc
  have nd := hX.nd
  have eN : X.N = c.N ∧ X.K = c.K := by obtain ⟨cl, n, cm, fr, fk, px, rfl⟩ := hX.eq; exact ⟨rfl, rfl⟩
  have hbb := fun W pn xe (tk : Takes (X.tr pn xe) W) po => hb (X.tr pn xe) (hX.tr hp) W tk po
  refine ⟨fun pins s σ H D I q => ?_⟩
  refine (ps_tryA (X := X) (tb := fun W => tS c W b) (Wout := W) (by rw [eN.1]; exact nd) f1 f2 tk hbb hA).run pins s σ H D I ?_
  obtain ⟨g, l, st, K, bs, h, k⟩ := q
  refine ⟨g, l, st, _, bs, h, ⟨k.nx, k.rt, k.bk, k.ct, fun x l' st' g' H' σ' cls d e f b' r => ?_⟩⟩
  obtain ⟨rfl, rfl⟩ := r
  rw [eN.2]
  exact tryH_w hM hp e b' (k.fut f)
end
end RS

/-! RS: isinstance of the caught exception. -/
namespace L2
open PySem PySem.Spec PyProof.Rows
def rIsEA (K : PySem.W.Frag) (D a : Addr) : List V → Hp → VK → Prop := fun xs H Q => ∃ (v : V) (b : Bool), xs = [.ref a, v] ∧
  ((∃ cv, ClsV v cv ∧ PySem.W.kitOne K (.ref D) cv = some b) ∨ ∃ tp cs us, v = .ref tp ∧ SqT K H tp cs ∧ Paired ClsV cs us ∧ PySem.W.kitAny K (.ref D) us = some b) ∧ Q (.bl b) H
theorem call_isEA {X : Cx} {a D : Addr} {oe : Obj} {pn : List (Addr × Obj)} (C : ExcC X.K D) (hz : Zc (.ref D) none oe) (hf : ∃ vs, oe.data = .fields vs) : CallR (X.suite a ((a, oe) :: pn)) (.builtin "isinstance") (rIsEA X.K D a) := by
  intro pins s σ H xs us Q I r h
  obtain ⟨v, b, rfl, hv, q⟩ := h
  cases r with
  | cons rx rr =>
    cases rr with
    | cons rt rr =>
      cases rr
      cases rx
      obtain ⟨hget, _⟩ := I.pin (a, oe) (List.mem_append.mpr (.inl List.mem_cons_self))
      obtain ⟨vs, hvs⟩ := hf
      have J : PySem.W.InstAt s.heap a oe D none := by
        obtain ⟨oc, od, oda, osl⟩ := oe
        obtain ⟨h1, h2⟩ := hz
        dsimp only at h1 h2 hvs
        subst h1 h2 hvs
        exact ⟨hget, rfl, rfl, trivial⟩
      have fin : ∀ tk, EP (X.suite a ((a, oe) :: pn)) pins σ Q (.bool b) { s with toks := tk } := fun tk => ⟨.bl b, H, I.kept (t' := tk) fun _ _ z => z, rfl, q⟩
      have Z := PySem.W.handS_kitx_exc (x := a) (ox := oe) C.hg C.hk C.hs C.hd C.ha C.hn C.ht C.hm
      rcases hv with ⟨cv, hc, e⟩ | ⟨tp, cs, cus, rfl, hT, hp, e⟩
      · have ec : _ = cv := ClsV.eq hc rt
        subst ec
        exact PySem.W.kia_one Z I.kIn J e (fun z => nomatch z) fin
      · cases rt
        obtain ⟨its, rv, ⟨⟨cls, dd, data, sl⟩, ho, hc, n, hd⟩, hs⟩ := I.tuple hT
        simp only at hc hd
        subst hc hd
        have e2 := ClsV.all hp rv
        subst e2
        exact PySem.W.kia_tup Z I.kIn J ho e (fun z => nomatch z) fin
end L2
namespace RS
open PySem PySem.Spec L2
/-- the own exception classes and what is below what -/
structure ExT (K : PySem.W.Frag) (cl : Nat → Addr) (sub : Nat → Nat → Option Bool) (tq : Nat → Ty → Option Bool) : Prop where
  exm : ∀ x k b, sub x k = some b → PySem.W.exmOne K (.ref (cl x)) (.ref (cl k)) = some b
  kit : ∀ x k b, sub x k = some b → PySem.W.kitOne K (.ref (cl x)) (.ref (cl k)) = some b
  kty : ∀ x t b, tq x t = some b → PySem.W.kitOne K (.ref (cl x)) (.type t.name) = some b
  ec : ∀ x b, sub x x = some b → ExcC K (cl x)
def anyX (sub : Nat → Option Bool) (tq : Ty → Option Bool) : List G → Option Bool
  | [] => some false
  | y :: r => match (match y with
    | .cls k => sub k
    | .ty t => tq t
    | _ => none) with
    | none => none
    | some b => (match anyX sub tq r with
      | none => none
      | some d => some (match b with
        | true => true
        | false => d))
def isX (sub : Nat → Option Bool) (tq : Ty → Option Bool) : G → Option Bool
  | .cls k => sub k
  | .ty t => tq t
  | .sq l xs => (match l with
    | true => none
    | false => anyX sub tq xs)
  | _ => none
def eIsX (sub : Nat → Nat → Option Bool) (tq : Nat → Ty → Option Bool) (x i : Nat) (e : Ev) : Ev := fun l st k ex => ck (Nat.blt i l.length) (e l st (fun y st1 => match sub x x with
  | none => False
  | some _ => (match isX (sub x) (tq x) y with
    | none => False
    | some b => k (.bl b) st1)) ex)
section
variable {c : Cf} {sub : Nat → Nat → Option Bool} {tq : Nat → Ty → Option Bool} {e2 : Expr} {ev : Ev} {p pn pos : Pos} {n : Str}
theorem anyX_rp {x : Nat} (T : ExT c.K c.cl sub tq) {g : Gh} {H : Hp} : ∀ {xs : List G} {vs : List V} {b : Bool}, c.RpL g H xs vs → anyX (sub x) (tq x) xs = some b → ∃ us, Paired ClsV vs us ∧ PySem.W.kitAny c.K (.ref (c.cl x)) us = some b
  | [], _, b, .nil, h => ⟨[], .nil, by cases h; rfl⟩
  | y :: r, _, b, .cons h rr, hb => by
    unfold anyX at hb
    split at hb
    · cases hb
    · rename_i b1 e1
      cases e3 : anyX (sub x) (tq x) r with
      | none => rw [e3] at hb; cases hb
      | some d =>
        rw [e3] at hb
        obtain ⟨us, h1, h2⟩ := anyX_rp T rr e3
        have fin : ∀ {v u}, ClsV v u → PySem.W.kitOne c.K (.ref (c.cl x)) u = some b1 → ∃ us', Paired ClsV (v :: _) us' ∧ PySem.W.kitAny c.K (.ref (c.cl x)) us' = some b := fun {v u} hc hk => ⟨u :: us, .cons hc h1, kitAny_cons hk (fun e => by
          subst e
          rw [h2]
          exact hb) (fun e => by
          subst e
          exact (Option.some.inj hb).symm)⟩
        cases h <;> first
          | (cases e1; done)
          | exact fin (.own _) (T.kit x _ _ e1)
          | exact fin (.ty _) (T.kty x _ _ e1)
theorem v_isX (x i : Nat) (T : ExT c.K c.cl sub tq) (a : Addr) (hpx : c.px = some (i, a, x)) (hN : c.N[i]? = some n) (hvis : Vis c.sc n) (he : EE c e2 ev) (hg : c.sc.names.lookup ("isinstance" : Str) = some .globalImplicit) (hm : c.mg ("isinstance" : Str) = none)
    (hd : (n == ("__debug__" : Str)) = false := by decide +kernel) (hcd : (n == ("__classdict__" : Str)) = false := by decide +kernel)
    (hs : ∀ env, starEach [.Name n pn, e2] env = (false, eval (.Name n pn) env) :: starEach [e2] env := by intro _; rfl) (hs2 : ∀ env, starEach [e2] env = (false, eval e2 env) :: starEach [] env := by intro _; rfl) (hpl : ∀ env, (backTo pos (starEach [e2] env)).any (·.1) = false := by intro _; rfl) :
    EE c (.Call (.Name "isinstance" p) [.Name n pn, e2] [] pos) (eIsX sub tq x i ev) := fun X hX W tk => by
  obtain ⟨X0, oe, pp, rfl, hz, hf⟩ := hX.exc _ hpx
  have hE := he _ hX W tk
  have T' := T
  obtain ⟨cl, nn, cm, fr, fk, px, hc⟩ := hX.eq
  subst hc
  have hpx : px = some (i, a, x) := hpx
  subst hpx
  have hz : Zc (.ref (cl x)) none oe := hz
  refine ⟨fun pins s σ H Q I q => ?_⟩
  obtain ⟨g, l, st, k, ex, b, h, hk, hx⟩ := q
  have hi := blt_lt h.l
  have h := h.r
  have hσ : σ[i]? = some (some (V.ref a)) := by
    have hl : i < σ.length := by rw [← b.l.1]; exact hi
    have := b.px (i, a, x) rfl σ[i] (List.getElem?_eq_getElem hl)
    rw [List.getElem?_eq_getElem hl, this]
  cases hsx : sub x x with
  | none =>
    have hC : ∀ {Q' : VK}, tE (cfOf (X0.suite a ((a, oe) :: pp)) cl nn cm fr fk (some (i, a, x))) W ev σ H (fun _ _ => False) := fun {Q'} => ⟨g, l, st, _, ex, b, h, fun y st1 g1 H1 v h1 n1 r1 => by
      simp only [hsx] at h1, hx⟩
    refine wpAny_mono (((pe_callB (X := X0.suite a ((a, oe) :: pp)) (id := "isinstance") (r := fun _ _ _ => False) (t := tCons (tVar i) (tCons (tE (cfOf (X0.suite a ((a, oe) :: pp)) cl nn cm fr fk (some (i, a, x))) W ev) tNil)) (fun _ _ _ _ _ _ _ _ _ z => z.elim) hg hm PyProof.Rows.boot_isinstance (pa_cons (pe_var hN hvis hd hcd) (pa_cons hE pa_nil (hs2 _)) (hs _)) (by decide +kernel) (by decide +kernel) (hs _) (hpl _)).run pins s σ H (fun _ _ => False) I ?_)) (fun _ _ z => ?_) fun _ _ z => z
    · refine ⟨V.ref a, hσ, ?_⟩
      exact ⟨g, l, st, _, ex, b, h, fun y st1 g1 H1 v h1 n1 r1 => by simp only [hsx] at h1, hx⟩
    · obtain ⟨_, _, _, _, z⟩ := z; exact z.elim
  | some bb =>
    have C : ExcC X0.K (cl x) := T.ec x bb hsx
    refine (pe_callB (X := X0.suite a ((a, oe) :: pp)) (call_isEA C hz hf) hg hm PyProof.Rows.boot_isinstance (pa_cons (pe_var hN hvis hd hcd) (pa_cons hE pa_nil (hs2 _)) (hs _)) (by decide +kernel) (by decide +kernel) (hs _) (hpl _)).run pins s σ H Q I ?_
    refine ⟨V.ref a, hσ, ?_⟩
    refine ⟨g, l, st, _, ex, b, h, fun y st1 g1 H1 v h1 n1 r1 => ?_, hx⟩
    simp only [hsx] at h1
    cases e1 : isX (sub x) (tq x) y with
    | none => simp only [e1] at h1
    | some d =>
      simp only [e1] at h1
      refine ⟨v, d, rfl, ?_, hk _ _ _ _ _ h1 n1 (.bl d)⟩
      cases r1 <;> first
        | (cases e1; done)
        | exact .inl ⟨_, .own _, T.kit x _ _ e1⟩
        | exact .inl ⟨_, .ty _, T.kty x _ _ e1⟩
        | (rename_i hp r
           obtain ⟨us, h2, h3⟩ := anyX_rp (c := cfOf (X0.suite a ((a, oe) :: pp)) cl nn cm fr fk (some (i, a, x))) T r e1
           exact .inr ⟨_, _, us, rfl, hp.sq, h2, h3⟩)
end
end RS

/-! RS: stores into lists, or of values. -/
namespace RS
open PySem PySem.Spec L2
section
variable {c : Cf} {a b o i : Expr} {ea eb : Ev} {pos : Pos} {rest : List Expr}
/-- x or y, by truth -/
def eOrT (s t : Ev) : Ev := fun l st k ex => s l st (fun v st1 => match truG st1 v with
  | none => False
  | some b => (match b with
    | true => k v st1
    | false => t l st1 k ex)) ex
theorem v_orT (ha : EE c a ea) (hb : EE c (.BoolOp .Or (b :: rest) pos) eb) : EE c (.BoolOp .Or (a :: b :: rest) pos) (eOrT ea eb) := fun X hX W tk => by
  have hA := ha X hX W tk
  have hB := hb X hX W tk
  obtain ⟨cl, n, cm, fr, fk, px, rfl⟩ := hX.eq
  refine (pe_orT hA hB).imp fun σ H Q q => ?_
  obtain ⟨g, l, st, k, ex, bs, h1, hk, hx⟩ := q
  refine ⟨g, l, st, _, ex, bs, h1, fun v st1 g1 H1 x h2 n1 r1 => ?_, hx⟩
  cases e : truG st1 v with
  | none => simp only [e] at h2
  | some d =>
    simp only [e] at h2
    refine ⟨d, tru_rp (c := cfOf X cl n cm fr fk px) n1.ok r1 e, ?_⟩
    cases d with
    | true => exact hk _ _ _ _ _ h2 n1 r1
    | false => exact ⟨g1, l, st1, k, ex, bs.nw n1, h2, hk.fut n1.f, hx.fut n1.f⟩
/-- x and y, by truth -/
def eAndT (s t : Ev) : Ev := fun l st k ex => s l st (fun v st1 => match truG st1 v with
  | none => False
  | some b => (match b with
    | true => t l st1 k ex
    | false => k v st1)) ex
theorem v_andT (ha : EE c a ea) (hb : EE c (.BoolOp .And (b :: rest) pos) eb) : EE c (.BoolOp .And (a :: b :: rest) pos) (eAndT ea eb) := fun X hX W tk => by
  have hA := ha X hX W tk
  have hB := hb X hX W tk
  obtain ⟨cl, n, cm, fr, fk, px, rfl⟩ := hX.eq
  refine (pe_andT hA hB).imp fun σ H Q q => ?_
  obtain ⟨g, l, st, k, ex, bs, h1, hk, hx⟩ := q
  refine ⟨g, l, st, _, ex, bs, h1, fun v st1 g1 H1 x h2 n1 r1 => ?_, hx⟩
  cases e : truG st1 v with
  | none => simp only [e] at h2
  | some d =>
    simp only [e] at h2
    refine ⟨d, tru_rp (c := cfOf X cl n cm fr fk px) n1.ok r1 e, ?_⟩
    cases d with
    | true => exact ⟨g1, l, st1, k, ex, bs.nw n1, h2, hk.fut n1.f, hx.fut n1.f⟩
    | false => exact hk _ _ _ _ _ h2 n1 r1
/-- the store, walked at once -/
def fputO : List (Nat × O) → Nat → O → (List (Nat × O) → Prop) → Prop
  | [], _, _, k => k []
  | p :: r, n, o, k => match Nat.beq p.1 n with
    | true => k ((n, o) :: r)
    | false => fputO r n o fun r' => k (p :: r')
theorem fputO_eq : ∀ (l : List (Nat × O)) (n : Nat) (o : O) (k : List (Nat × O) → Prop), fputO l n o k = k (putO l n o)
  | [], _, _, _ => rfl
  | p :: r, n, o, k => by
    unfold fputO putO
    cases Nat.beq p.1 n with
    | true => rfl
    | false => exact fputO_eq r n o fun r' => k (p :: r')
def fPut (st : Sto) (n : Nat) (o : O) (k : Sto → Prop) : Prop := fputO st.ob n o fun ob => k ⟨st.sz, ob⟩
theorem fPut_eq (st : Sto) (n : Nat) (o : O) (k : Sto → Prop) : fPut st n o k = k (st.put n o) := fputO_eq _ _ _ _
/-- the place that an index names -/
def ixG (n : Nat) (i : Int) : Option Nat := match i with
  | .ofNat m => (match Nat.blt m n with
    | true => some m
    | false => none)
  | .negSucc m => (match Nat.ble (m + 1) n with
    | true => some (n - (m + 1))
    | false => none)
theorem ixG_ixN {n : Nat} {i : Int} {j : Nat} (h : ixG n i = some j) : ixN n i = some j := by
  cases i with
  | ofNat m =>
    unfold ixG at h
    cases e : Nat.blt m n with
    | false => simp only [e] at h; cases h
    | true =>
      simp only [e] at h
      obtain rfl : m = j := Option.some.inj h
      have := blt_lt e
      unfold ixN
      have h0 : (0 : Int) ≤ Int.ofNat m := Int.natCast_nonneg m
      rw [if_pos h0, if_pos (by show ((m : Nat) : Int) < n; omega)]
      rfl
  | negSucc m =>
    unfold ixG at h
    cases e : Nat.ble (m + 1) n with
    | false => simp only [e] at h; cases h
    | true =>
      simp only [e] at h
      cases h
      have := Nat.le_of_ble_eq_true e
      unfold ixN
      rw [if_neg (by omega), if_pos (by omega)]
      congr 1
      omega
/-- o[i] = y: o an object of the store -/
def setO (v : G) (w : G) (y : G) (st : Sto) (k : Sto → Prop) : Prop := match v with
  | .ref n => (match w with
    | .int i => (match listO (getO st.ob n) with
      | some xs => (match ixG xs.length i with
        | some j => fset xs j y fun ys => fPut st n (.lst ys) k
        | none => False)
      | none => False)
    | _ => False)
  | _ => False
def gSet (eo ei : Ev) : EvG := fun y l st k => eo l st (fun v st1 => ei l st1 (fun w st2 => setO v w y st2 fun st3 => k l st3) fun _ _ => False) fun _ _ => False
theorem setO_some {v w y : G} {st : Sto} {k : Sto → Prop} (h : setO v w y st k) : ∃ n i xs j, v = .ref n ∧ w = .int i ∧ getO st.ob n = some (.lst xs) ∧ ixG xs.length i = some j ∧ k (st.put n (.lst (xs.set j y))) := by
  cases v <;> try exact h.elim
  rename_i n
  cases w <;> try exact h.elim
  rename_i i
  have h : (match listO (getO st.ob n) with
    | some xs => (match ixG xs.length i with
      | some j => fset xs j y fun ys => fPut st n (.lst ys) k
      | none => False)
    | none => False) := h
  cases e : listO (getO st.ob n) with
  | none => simp only [e] at h
  | some xs =>
    simp only [e] at h
    cases e2 : ixG xs.length i with
    | none => simp only [e2] at h
    | some j =>
      simp only [e2] at h
      rw [fset_eq, fPut_eq] at h
      exact ⟨n, i, xs, j, rfl, rfl, listO_some e, e2, h⟩
theorem put_lst {g : Gh} {H : Hp} {st : Sto} {n : Nat} {xs ys : List G} {vs us : List V} (ok : c.Ok g H st) (e : getO st.ob n = some (.lst xs)) (hp : H (g.at_ n) = some (.lst vs)) (r : c.RpL g H ys us) : Nw c g H (st.put n (.lst ys)) g (upd H (g.at_ n) (.lst us)) := by
  have f : Fut g H g (upd H (g.at_ n) (.lst us)) := Fut.write ok e hp trivial
  exact ⟨f, ok.write e hp trivial ⟨us, rfl, r.fut f⟩⟩
/-- a store into a list (its places don't raise) -/
theorem g_set (ho : EE c o ea) (hi : EE c i eb)
    (ha : ∀ env v, assign (.Subscript o i pos) env v = (do
      let ov ← holding [v] (eval o env)
      let iv ← holding [v, ov] (eval i env)
      standAt pos
      holding [v, ov, iv] (setItem ov iv v)
      release [v, ov, iv] []) := by intro _ _; rfl) : EG c (.Subscript o i pos) [] (gSet ea eb) := fun X hX => by
  have hO := ho X hX W0 takes0
  have hI := hi X hX W0 takes0
  obtain ⟨cl, n, cm, fr, fk, px, rfl⟩ := hX.eq
  refine (pg_sub hO hI set_list (ha _)).imp fun v σ H Q q => ?_
  obtain ⟨g, l, st, y, k, b, r, h1, hk⟩ := q
  refine ⟨g, l, st, _, _, b, h1, fun x st1 g1 H1 u h2 n1 r1 => ?_, fun _ _ _ _ _ _ z => z.elim⟩
  refine ⟨g1, l, st1, _, _, b.nw n1, h2, fun w st2 g2 H2 u2 h3 n2 r2 => ?_, fun _ _ _ _ _ _ z => z.elim⟩
  obtain ⟨m, j, xs, jj, rfl, rfl, e, e2, h3⟩ := setO_some h3
  cases r2
  obtain ⟨vs, rfl, hp, r3⟩ := obj_lst n2.ok (r1.fut n2.f) rfl e
  have n12 := n1.trans n2
  refine ⟨_, vs, j, jj, rfl, rfl, hp, by rw [← r3.length]; exact ixG_ixN e2, ?_⟩
  have n3 := put_lst (c := cfOf X cl n cm fr fk px) n2.ok e hp (r3.set (r.fut n12.f) jj)
  have n13 := n12.trans n3
  exact hk _ _ _ _ _ h3 n13.f (b.nw n13) ⟨rfl, fun _ _ => rfl⟩
end
end RS

/-! RS: the laws' own helpers: what they promise. -/
namespace RS
open PySem PySem.Spec L2
/-! ### the bodies' readings, as printed -/
abbrev cI (i : Int) : Ev := eC (.int i)
def sub1 (i : Int) : Ev := eBin oIx (eVar 0) (cI i)
def int1 (e : Ev) : Ev := eApp oIntC (aCons e aNil)
/-- _law_take -/
def bTake : EvS :=
  sSeq (sIf (eTest (eBin oGt (sub1 0) (cI 0))) (sSeq (sSet 2 (eBin oMod (int1 (sub1 0)) (eVar 1))) (sSeq (sAsg (eBin oDiv (sub1 0) (eVar 1)) (gSet (eVar 0) (cI 0))) (sRet (eVar 2)))) sNil)
  (sSeq (sAsg (eBin oAdd (sub1 2) (cI 1)) (gSet (eVar 0) (cI 2)))
  (sSeq (sSet 3 (eBin oMod (int1 (eBin oMul (eBin oAdd (sub1 1) (eBin oMul (cI 48271) (sub1 2))) (eBin oAdd (cI 39373) (sub1 2)))) (cI 2147483647)))
  (sSeq (sSet 4 (eBin oAdd (eBin oMod (int1 (eVar 3)) (cI 40009)) (cI 7)))
  (sSeq (sSet 5 (eBin oMod (int1 (eBin oMul (eBin oAdd (eBin oAdd (eVar 3) (sub1 2)) (eBin oDiv (sub1 1) (cI 1000003))) (eVar 4))) (cI 2147483629)))
  (sRet (eBin oMod (int1 (eBin oDiv (eBin oMod (int1 (eBin oAdd (eBin oMul (eVar 5) (cI 48271)) (eVar 3))) (cI 2147483587)) (cI 64))) (eVar 1)))))))
/-! ### promises -/
def allN : Nat → (Nat → Prop) → Prop
  | 0, _ => True
  | n + 1, P => match n with
    | 0 => P 0
    | _ + 1 => allN n P ∧ P n
theorem allN_all {P : Nat → Prop} : ∀ {n : Nat}, allN n P → ∀ r, r < n → P r
  | 0, _, r, h => absurd h (Nat.not_lt_zero r)
  | 1, h, r, hr => by
    have : r = 0 := by omega
    subst this; exact h
  | n + 2, h, r, hr => by
    have h : allN (n + 1) P ∧ P (n + 1) := h
    by_cases e : r = n + 1
    · subst e; exact h.2
    · exact allN_all h.1 r (by omega)
/-- a draw: every answer -/
def takeF (xs : List G) (st : Sto) (k : KG) : Prop := match xs with
  | [u, w] => (match u with
    | .ref n => (match w with
      | .int m => (match m with
        | .ofNat mm => (match getO st.ob n with
          | some (.urn c) => ck (Nat.blt 0 mm) (ck (Nat.blt mm 1000000) (ck (Nat.blt c 1000000) (fN (c + 1) fun c2 => fPut st n (.urn c2) fun st2 => allN mm fun r => fN r fun r => k (.int (.ofNat r)) st2)))
          | _ => False)
        | _ => False)
      | _ => False)
    | _ => False)
  | _ => False
theorem takeF_some {xs : List G} {st : Sto} {k : KG} (h : takeF xs st k) : ∃ n mm c, xs = [.ref n, .int (.ofNat mm)] ∧ getO st.ob n = some (.urn c) ∧ 0 < mm ∧ mm < 1000000 ∧ c < 1000000 ∧ ∀ r : Nat, r < mm → k (.int (.ofNat r)) (st.put n (.urn (c + 1))) := by
  unfold takeF at h
  split at h <;> try exact h.elim
  split at h <;> try exact h.elim
  rename_i n
  split at h <;> try exact h.elim
  split at h <;> try exact h.elim
  rename_i mm
  split at h <;> try exact h.elim
  rename_i c e
  have h1 := h.l
  have h2 := h.r.l
  have h3 := h.r.r.l
  have h4 := h.r.r.r
  rw [fN_eq, fPut_eq] at h4
  refine ⟨n, mm, c, rfl, e, blt_lt h1, blt_lt h2, blt_lt h3, fun r hr => ?_⟩
  have := allN_all h4 r hr
  rw [fN_eq] at this
  exact this
/-- the store's objects told more loosely -/
theorem StOk.weak {K : PySem.W.Frag} {cl : Nat → Addr} {g : Gh} {H : Hp} {st st2 : Sto} (s : StOk K cl g H st) (hz : st2.sz = st.sz) (h : ∀ n o, getO st2.ob n = some o → ∃ o1, getO st.ob n = some o1 ∧ ∀ a u, RpO K cl g H a o1 u → RpO K cl g H a o u) : StOk K cl g H st2 :=
  ⟨hz.trans s.sz, fun n o e => by
    obtain ⟨o1, e1, i⟩ := h n o e
    obtain ⟨h1, h2, u, h3, h4⟩ := s.ob n o1 e1
    exact ⟨h1, h2, u, h3, i _ u h4⟩, fun n m o o' e e' q => by
    obtain ⟨o1, e1, _⟩ := h n o e
    obtain ⟨o2, e2, _⟩ := h m o' e'
    exact s.inj n m o1 o2 e1 e2 q, s.fz, fun n o e => by
    obtain ⟨o1, e1, _⟩ := h n o e
    exact s.pob n o1 e1, s.pz, s.pf⟩
/-- an object of the store told otherwise -/
theorem StOk.tell {K : PySem.W.Frag} {cl : Nat → Addr} {g : Gh} {H : Hp} {st : Sto} (s : StOk K cl g H st) {n : Nat} {o o2 : O} (e : getO st.ob n = some o) (h : ∀ u, H (g.at_ n) = some u → RpO K cl g H (g.at_ n) o u → RpO K cl g H (g.at_ n) o2 u) : StOk K cl g H (st.put n o2) :=
  ⟨s.sz, fun m u q => by
    have q : getO (putO st.ob n o2) m = some u := q
    rw [getO_put] at q
    by_cases z : m = n
    · rw [if_pos z, e] at q
      cases q
      subst z
      obtain ⟨h1, h2, w, h3, h4⟩ := s.ob m o e
      exact ⟨h1, h2, w, h3, h w h3 h4⟩
    · rw [if_neg z] at q
      exact s.ob m u q, fun m m' u u' q q' z => by
    have old : ∀ m u, getO (putO st.ob n o2) m = some u → ∃ u, getO st.ob m = some u := fun m u q => by
      rw [getO_put] at q
      by_cases z : m = n
      · subst z; exact ⟨o, e⟩
      · rw [if_neg z] at q
        exact ⟨u, q⟩
    obtain ⟨_, q1⟩ := old m u q
    obtain ⟨_, q2⟩ := old m' u' q'
    exact s.inj m m' _ _ q1 q2 z, s.fz, fun m u q => by
    have q : getO (putO st.ob n o2) m = some u := q
    rw [getO_put] at q
    by_cases z : m = n
    · subst z; exact s.pob m o e
    · rw [if_neg z] at q
      exact s.pob m u q, s.pz, s.pf⟩
section
variable {st : Sto} {n : Nat} {o o2 : O} {os : List (Nat × O)}
theorem put_put (os : List (Nat × O)) (n : Nat) (o o2 : O) : putO (putO os n o) n o2 = putO os n o2 := by
  induction os with
  | nil => rfl
  | cons p r ih =>
    rw [putO_cons, putO_cons]
    by_cases h : p.1 = n
    · rw [if_pos h, if_pos h, putO_cons, if_pos rfl]
    · rw [if_neg h, if_neg h, putO_cons, if_neg h, ih]
theorem get_put (e : getO os n = some o) : getO (putO os n o2) n = some o2 := by
  rw [getO_put, if_pos rfl, e]; rfl
end

/-! ### readings with a known value -/
def Val (e : Ev) (l : L) (st : Sto) (v : G) : Prop := ∀ k ex, k v st → e l st k ex
section
variable {e a b : Ev} {l : L} {st : Sto} {v x y : G} {i j : Int} {K : KS}
theorem Val.var {n : Nat} (h : nthL l n = some (some x)) : Val (eVar n) l st x := fun k ex q => by
  unfold eVar
  rw [h]
  exact q
theorem Val.c : Val (eC x) l st x := fun k ex q => q
theorem Val.bin {op : Op2} (ha : Val a l st x) (hb : Val b l st y) (h : ∀ k, k v st → op x y st k) : Val (eBin op a b) l st v := fun k ex q => ha _ ex (hb _ ex (h k q))
theorem op_add' (k : KG) (q : k (.int (i + j)) st) : oAdd (.int i) (.int j) st k := by
  show fI (i + j) fun s => k (.int s) st
  rw [fI_eq]; exact q
theorem op_mul' (h : mulOk i j = true) (k : KG) (q : k (.int (i * j)) st) : oMul (.int i) (.int j) st k := by
  show ck (mulOk i j) (fI (i * j) fun s => k (.int s) st)
  rw [h, fI_eq]; exact q
theorem op_mod' {n : Nat} (k : KG) (q : k (.int (i % ((n + 1 : Nat) : Int))) st) : oMod (.int i) (.int ((n + 1 : Nat) : Int)) st k := by
  show fI (i % ((n + 1 : Nat) : Int)) fun s => k (.int s) st
  rw [fI_eq]; exact q
theorem op_div' {n : Nat} (h : divOk ((n + 1 : Nat) : Int) = true) (k : KG) (q : k (.int (i / ((n + 1 : Nat) : Int))) st) : oDiv (.int i) (.int ((n + 1 : Nat) : Int)) st k := by
  show ck (divOk ((n + 1 : Nat) : Int)) (fI (i / ((n + 1 : Nat) : Int)) fun s => k (.int s) st)
  rw [h, fI_eq]; exact q
theorem op_gt' (k : KG) (q : k (.bl (decide (j < i))) st) : oGt (.int i) (.int j) st k := by
  show k (.bl (PySem.W.Z.ltB j i)) st
  rw [ltB_dec]; exact q
theorem op_lt' (k : KG) (q : k (.bl (decide (i < j))) st) : oLt (.int i) (.int j) st k := by
  show k (.bl (PySem.W.Z.ltB i j)) st
  rw [ltB_dec]; exact q
theorem op_ge' (k : KG) (q : k (.bl (decide (j ≤ i))) st) : oGe (.int i) (.int j) st k := by
  show k (.bl (PySem.W.Z.leB j i)) st
  rw [leB_dec]; exact q
theorem op_ix' {xs : List G} (hs : seqA st x = some xs) (hi : nthG xs i = some y) (k : KG) (q : k y st) : oIx x (.int i) st k := by
  show match seqA st x with
    | some xs => (match nthG xs i with
      | some y => k y st
      | none => False)
    | none => False
  rw [hs]
  show match nthG xs i with
      | some y => k y st
      | none => False
  rw [hi]
  exact q
theorem Val.int1 (h : Val e l st (.int i)) : Val (int1 e) l st (.int i) := fun k ex q => h _ ex q
theorem set_at {n : Nat} {xs : List G} {jj : Nat} {k : L → Sto → Prop} (hl : nthL l 0 = some (some (.ref n))) (hg : getO st.ob n = some (.lst xs)) (hi : ixG xs.length i = some jj) (q : k l (st.put n (.lst (xs.set jj v)))) : gSet (eVar 0) (cI i) v l st k := by
  refine Val.var hl _ _ ?_
  show setO (.ref n) (.int i) v st fun st3 => k l st3
  show match listO (getO st.ob n) with
      | some xs => (match ixG xs.length i with
        | some j => fset xs j v fun ys => fPut st n (.lst ys) fun st3 => k l st3
        | none => False)
      | none => False
  rw [hg]
  show match ixG xs.length i with
        | some j => fset xs j v fun ys => fPut st n (.lst ys) fun st3 => k l st3
        | none => False
  rw [hi]
  show fset xs jj v fun ys => fPut st n (.lst ys) fun st3 => k l st3
  rw [fset_eq, fPut_eq]
  exact q
theorem s_set' {n : Nat} (h : Val e l st v) (q : K.nx (l.set n (some v)) st) : sSet n e l st K := h _ _ (by
  show fset l n (some v) fun l1 => K.nx l1 st
  rw [fset_eq]; exact q)
theorem s_asg' {t : EvG} (h : Val e l st v) (q : t v l st K.nx) : sAsg e t l st K := h _ _ q
theorem s_ret' (h : Val e l st v) (q : K.rt v st) : sRet e l st K := h _ _ q
theorem s_if' {d : Bool} {s t : EvS} (h : Val e l st (.bl d)) (q1 : d = true → s l st K) (q2 : d = false → t l st K) : sIf (eTest e) s t l st K := h _ _ (by
  cases d with
  | true => exact q1 rfl
  | false => exact q2 rfl)
end
section
variable {e : Ev} {l : L} {st : Sto} {v : G} {K : KS} {b s : EvS} {n : Nat} {t : EvG} {d : Bool}
theorem seq_set (h : Val e l st v) (q : b (l.set n (some v)) st K) : sSeq (sSet n e) b l st K := s_set' h q
theorem seq_asg (h : Val e l st v) (q : t v l st fun l1 st1 => b l1 st1 K) : sSeq (sAsg e t) b l st K := s_asg' h q
theorem seq_if (h : Val e l st (.bl d)) (q1 : d = true → s l st { K with nx := fun l1 st1 => b l1 st1 K }) (q2 : d = false → b l st K) : sSeq (sIf (eTest e) s sNil) b l st K := s_if' h q1 q2
end
/-! ### _law_take -/
theorem mod_lt' {i : Int} {m : Nat} (h : 0 < m) : ∃ r : Nat, r < m ∧ i % (m : Int) = Int.ofNat r := by
  have h1 : 0 ≤ i % (m : Int) := Int.emod_nonneg i (by omega)
  have h2 : i % (m : Int) < (m : Int) := Int.emod_lt_of_pos i (by omega)
  exact ⟨(i % (m : Int)).toNat, by omega, (Int.toNat_of_nonneg h1).symm⟩
theorem log_le {n k : Nat} (h : n < 2 ^ (k + 1)) : Nat.ble (Nat.log2 n) k = true := by
  refine Nat.ble_eq_true_of_le ?_
  by_cases h0 : n = 0
  · subst h0; simp
  · exact Nat.le_of_lt_succ ((Nat.log2_lt h0).mpr h)
theorem mulOk_r {i j : Int} (h : j.natAbs < 2 ^ 63) : mulOk i j = true := by
  unfold mulOk
  rw [log_le (k := 62) h]
  cases Nat.ble (Nat.log2 i.natAbs) 62 <;> rfl
theorem mulOk_l {i j : Int} (h : i.natAbs < 2 ^ 63) : mulOk i j = true := by
  unfold mulOk
  rw [log_le (k := 62) h]
theorem divOk_s {j : Int} (h : j.natAbs < 2 ^ 63) : divOk j = true := by
  unfold divOk
  have := Nat.le_of_ble_eq_true (log_le (k := 62) h)
  exact Nat.ble_eq_true_of_le (by omega)

theorem take_run {n mm c : Nat} {x y z : Int} {st : Sto} {k : KG} {ex : KX} (e : getO st.ob n = some (.lst [.int x, .int y, .int z])) (hm : 0 < mm) (hm2 : mm < 1000000) (hc : c < 1000000) (hx : 0 ≤ x) (hy : 0 ≤ y) (hy2 : y < 2 ^ 63) (hz : 0 ≤ z) (hzc : z ≤ c)
    (hk : ∀ (r : Nat) (x' z' : Int), r < mm → 0 ≤ x' → 0 ≤ z' → z' ≤ ((c + 1 : Nat) : Int) → k (.int (.ofNat r)) (st.put n (.lst [.int x', .int y, .int z']))) : runB 2 4 bTake [.ref n, .int (.ofNat mm)] st k ex := by
  obtain ⟨m1, rfl⟩ : ∃ m1, mm = m1 + 1 := ⟨mm - 1, by omega⟩
  have hmi : ((m1 + 1 : Nat) : Int).natAbs < 2 ^ 63 := by omega
  show fL _ _
  rw [fL_eq]
  show bTake [some (.ref n), some (.int ((m1 + 1 : Nat) : Int)), none, none, none, none] st _
  have sq0 : ∀ {l : L} {st : Sto} {a b d : Int}, nthL l 0 = some (some (.ref n)) → getO st.ob n = some (.lst [.int a, .int b, .int d]) → Val (sub1 0) l st (.int a) := fun {l st a b d} h1 h2 => .bin (.var h1) .c fun k => op_ix' (xs := [.int a, .int b, .int d]) (by show listO (getO st.ob n) = _; rw [h2]; rfl) rfl k
  have sq1 : ∀ {l : L} {st : Sto} {a b d : Int}, nthL l 0 = some (some (.ref n)) → getO st.ob n = some (.lst [.int a, .int b, .int d]) → Val (sub1 1) l st (.int b) := fun {l st a b d} h1 h2 => .bin (.var h1) .c fun k => op_ix' (xs := [.int a, .int b, .int d]) (by show listO (getO st.ob n) = _; rw [h2]; rfl) rfl k
  have sq2 : ∀ {l : L} {st : Sto} {a b d : Int}, nthL l 0 = some (some (.ref n)) → getO st.ob n = some (.lst [.int a, .int b, .int d]) → Val (sub1 2) l st (.int d) := fun {l st a b d} h1 h2 => .bin (.var h1) .c fun k => op_ix' (xs := [.int a, .int b, .int d]) (by show listO (getO st.ob n) = _; rw [h2]; rfl) rfl k
  refine seq_if (.bin (sq0 rfl e) .c fun k => op_gt' k) (fun hd => ?_) fun hd => ?_
  · have hd := of_decide_eq_true hd
    obtain ⟨r, hr, er⟩ := mod_lt' (i := x) hm
    apply seq_set
    · exact (.bin (.int1 (sq0 (l := [some (.ref n), some (.int ((m1 + 1 : Nat) : Int)), none, none, none, none]) rfl e)) (.var rfl) fun k => op_mod' k)
    apply seq_asg
    · exact (.bin (sq0 rfl e) (.var rfl) fun k => op_div' (divOk_s hmi) k)
    refine set_at (n := n) rfl e rfl ?_
    apply s_ret'
    · exact (.var rfl)
    rw [er]
    exact hk r _ _ hr (Int.ediv_nonneg hx (by omega)) hz (by omega)
  · skip
    apply seq_asg
    · exact (.bin (sq2 rfl e) .c fun k => op_add' k)
    refine set_at (n := n) rfl e rfl ?_
    have e2 : getO (putO st.ob n (.lst [.int x, .int y, .int (z + 1)])) n = some (.lst [.int x, .int y, .int (z + 1)]) := get_put e
    generalize hst : st.put n (.lst ([G.int x, .int y, .int z].set 2 (.int (z + 1)))) = st2
    have e3 : getO st2.ob n = some (.lst [.int x, .int y, .int (z + 1)]) := by rw [← hst]; exact e2
    have fin : ∀ r : Nat, r < m1 + 1 → k (.int (.ofNat r)) st2 := fun r hr => by
      rw [← hst]
      exact hk r _ _ hr hx (by omega) (by omega)
    have p2 : (2 : Nat) ^ 63 = 9223372036854775808 := by decide
    apply seq_set
    · exact (.bin (.int1 (.bin (.bin (sq1 rfl e3) (.bin .c (sq2 rfl e3) fun k => op_mul' (mulOk_l (by decide)) k) fun k => op_add' k) (.bin .c (sq2 rfl e3) fun k => op_add' k) fun k => op_mul' (mulOk_r (by omega)) k)) .c fun k => op_mod' (n := 2147483646) k)
    apply seq_set
    · exact (.bin (.bin (.int1 (.var rfl)) .c fun k => op_mod' (n := 40008) k) .c fun k => op_add' k)
    generalize hO : (((y + 48271 * (z + 1)) * (39373 + (z + 1))) % ((2147483646 + 1 : Nat) : Int)) = once
    have ho : (once % ((40008 + 1 : Nat) : Int) + 7).natAbs < 2 ^ 63 := by
      have h1 : 0 ≤ once % ((40008 + 1 : Nat) : Int) := Int.emod_nonneg _ (by decide)
      have h2 : once % ((40008 + 1 : Nat) : Int) < ((40008 + 1 : Nat) : Int) := Int.emod_lt_of_pos _ (by decide)
      omega
    apply seq_set
    · exact (.bin (.int1 (.bin (.bin (.bin (.var rfl) (sq2 rfl e3) fun k => op_add' k) (.bin (sq1 rfl e3) .c fun k => op_div' (n := 1000002) (by decide) k) fun k => op_add' k) (.var rfl) fun k => op_mul' (mulOk_r ho) k)) .c fun k => op_mod' (n := 2147483628) k)
    · generalize hT : (((once + (z + 1) + y / ((1000002 + 1 : Nat) : Int)) * (once % ((40008 + 1 : Nat) : Int) + 7)) % ((2147483628 + 1 : Nat) : Int)) = twice
      have ht : twice.natAbs < 2 ^ 63 := by
        have h1 : 0 ≤ twice := by rw [← hT]; exact Int.emod_nonneg _ (by decide)
        have h2 : twice < ((2147483628 + 1 : Nat) : Int) := by rw [← hT]; exact Int.emod_lt_of_pos _ (by decide)
        omega
      apply s_ret'
      · exact (.bin (.int1 (.bin (.bin (.int1 (.bin (.bin (.var rfl) .c fun k => op_mul' (mulOk_l ht) k) (.var rfl) fun k => op_add' k)) .c fun k => op_mod' (n := 2147483586) k) .c fun k => op_div' (n := 63) (by decide) k)) (.var rfl) fun k => op_mod' k)
      obtain ⟨r, hr, er⟩ := mod_lt' (i := (twice * 48271 + once) % ((2147483586 + 1 : Nat) : Int) / ((63 + 1 : Nat) : Int)) hm
      rw [er]
      exact fin r hr
end RS

/-! RS: the promises of _law_take, _law_box, _law_cells, _law_mixed. -/
namespace RS
open PySem PySem.Spec L2
section
variable {P : Program} {w : World} {K : PySem.W.Frag} {mg : Str → Option Value} {base : Heap} {cl : Nat → Addr} {Φ ΦB : Fn} {k fid : Nat} {f : Addr} {fd : FuncData} {ps : List Str}
theorem fok_imp (Fb : FOk K cl P w mg base ΦB k fid f fd ps) (h : ∀ vs H Q E, spOf K cl Φ fid vs H Q E → spOf K cl ΦB fid vs H Q E) (len : ∀ xs st k ex, Φ fid xs st k ex → xs.length = ps.length) : FOk K cl P w mg base Φ k fid f fd ps := ⟨len, Fb.ok.imp h⟩
theorem StOk.get {g : Gh} {H : Hp} {st : Sto} (s : StOk K cl g H st) {n : Nat} {o : O} (e : getO st.ob n = some o) : ∃ h, H (g.at_ n) = some h ∧ RpO K cl g H (g.at_ n) o h := by
  obtain ⟨_, _, h, h3, h4⟩ := s.ob n o e
  exact ⟨h, h3, h4⟩
theorem ints_rp {g : Gh} {H : Hp} : ∀ ns : List Int, RpL K cl g H (ns.map G.int) (ns.map V.int)
  | [] => .nil
  | x :: r => .cons (.int x) (ints_rp r)
theorem rp_ints {g : Gh} {H : Hp} {xs : List G} {vs : List V} (r : RpL K cl g H xs vs) : ∀ {ns : List Int}, xs = ns.map G.int → vs = ns.map V.int := by
  intro ns
  induction ns generalizing xs vs with
  | nil => intro e; subst e; cases r; rfl
  | cons x s ih =>
    intro e
    subst e
    cases r with
    | cons h r =>
      cases h
      rw [ih r rfl]; rfl
/-! ### _law_take -/
theorem take_imp (hΦ : ∀ xs st k ex, Φ fid xs st k ex → takeF xs st k) (hB : ∀ xs st k ex, runB 2 4 bTake xs st k ex → ΦB fid xs st k ex) (vs : List V) (H : Hp) (Q : VK) (E : XK) (h : spOf K cl Φ fid vs H Q E) : spOf K cl ΦB fid vs H Q E := by
  obtain ⟨g, st, xs, k, ex, ok, r, h, hk, hx⟩ := h
  obtain ⟨n, mm, c, rfl, e, h1, h2, h3, h4⟩ := takeF_some (hΦ _ _ _ _ h)
  obtain ⟨u, hu, x, y, z, rfl, hx0, hy0, hy1, hz0, hz1⟩ := ok.get e
  have ok1 : StOk K cl g H (st.put n (.lst [.int x, .int y, .int z])) := ok.tell e fun u hu' _ => by
    rw [hu] at hu'
    cases hu'
    exact ⟨_, rfl, ints_rp [x, y, z]⟩
  have e1 : getO (st.put n (.lst [.int x, .int y, .int z])).ob n = some (.lst [.int x, .int y, .int z]) := get_put e
  refine ⟨g, _, _, fun v st' => ∃ (r : Nat) (x' z' : Int), v = .int (.ofNat r) ∧ r < mm ∧ 0 ≤ x' ∧ 0 ≤ z' ∧ z' ≤ ((c + 1 : Nat) : Int) ∧ st' = st.put n (.lst [.int x', .int y, .int z']), fun _ _ => False, ok1, r, hB _ _ _ _ (take_run e1 h1 h2 h3 hx0 hy0 hy1 hz0 hz1 fun r x' z' a b d q => ⟨r, x', z', rfl, a, b, d, q, ?_⟩), ?_, fun _ _ _ _ z => z.elim⟩
  · show Sto.mk st.sz (putO (putO st.ob n _) n _) = Sto.mk st.sz _
    rw [put_put]
  · rintro v st' g' H' val ⟨r, x', z', rfl, a, b, d, q, rfl⟩ f ok' rp
    refine hk _ _ g' H' val (h4 r a) f ?_ rp
    have e2 : getO (st.put n (.lst [.int x', .int y, .int z'])).ob n = some (.lst [.int x', .int y, .int z']) := get_put e
    have := ok'.tell (o2 := .urn (c + 1)) e2 fun u _ ru => by
      obtain ⟨vs, rfl, rv⟩ := ru
      rw [rp_ints rv (ns := [x', y, z']) rfl]
      exact ⟨x', y, z', rfl, b, hy0, hy1, d, q⟩
    have e3 : (st.put n (.lst [.int x', .int y, .int z'])).put n (.urn (c + 1)) = st.put n (.urn (c + 1)) := by
      show Sto.mk st.sz (putO (putO st.ob n _) n _) = Sto.mk st.sz _
      rw [put_put]
    rw [e3] at this
    exact this
/-! ### _law_box -/
def bBox (C M D : Int) : EvS :=
  sSeq (sSet 2 (eIf (eTest (eBin oLt (eVar 1) (eApp oLen (aCons (eVar 0) aNil)))) (eBin oIx (eVar 0) (eVar 1)) (cI 0)))
    (sRet (eLstM (aCons (eBin oMul (eApp oAbs (aCons (eVar 2) aNil)) (int1 (eBin oGe (eApp oAbs (aCons (eVar 2) aNil)) (eBin oPow (cI 10) (cI 18))))) (aCons (eBin oAdd (eBin oAdd (eBin oMod (int1 (eVar 2)) (cI M)) (eBin oMul (cI D) (eVar 1))) (cI C)) (aCons (cI 0) aNil)))))
def boxF (xs : List G) (st : Sto) (k : KG) : Prop := match xs with
  | [u, w] => (match u with
    | .ref n => (match w with
      | .int m => (match m with
        | .ofNat mm => (match mm with
          | 0 => (match getO st.ob n with
            | some .nums => k (.ref st.sz) (st.add (.urn 0))
            | _ => False)
          | _ + 1 => False)
        | _ => False)
      | _ => False)
    | _ => False)
  | _ => False
theorem boxF_some {xs : List G} {st : Sto} {k : KG} (h : boxF xs st k) : ∃ n, xs = [.ref n, .int 0] ∧ getO st.ob n = some .nums ∧ k (.ref st.sz) (st.add (.urn 0)) := by
  unfold boxF at h
  split at h <;> try exact h.elim
  split at h <;> try exact h.elim
  rename_i n
  split at h <;> try exact h.elim
  split at h <;> try exact h.elim
  split at h <;> try exact h.elim
  split at h <;> try exact h.elim
  rename_i e
  exact ⟨n, rfl, e, h⟩
section
variable {l : L} {st : Sto} {e e2 : Ev} {x : Int}
theorem Val.abs (h : Val e l st (.int x)) : Val (eApp oAbs (aCons e aNil)) l st (.int (Int.ofNat x.natAbs)) := fun k ex q => h _ ex (by
  show oAbs [.int x] st k
  cases x with
  | ofNat n => exact q
  | negSucc n =>
    show fN (n + 1) fun m => k (.int (.ofNat m)) st
    rw [fN_eq]; exact q)
theorem Val.len {xs : List G} {y : G} (h : Val e l st y) (hl : lenG st y = some xs.length) : Val (eApp oLen (aCons e aNil)) l st (.int (xs.length : Nat)) := fun k ex q => h _ ex (by
  show match lenG st y with
    | some n => fnat n fun i => k (.int i) st
    | none => False
  rw [hl]
  show fN xs.length fun m => k (.int (.ofNat m)) st
  rw [fN_eq]; exact q)
theorem op_pow10 (k : KG) (q : k (.int (10 ^ 18)) st) : oPow (.int 10) (.int 18) st k := by
  have e : oPow (.int (Int.ofNat 10)) (.int (Int.ofNat 18)) st k = ck (Nat.ble 18 1000) (ck (Nat.blt 10 18446744073709551616) (fI (powI 10 18) fun s => k (.int s) st)) := rfl
  show oPow (.int (Int.ofNat 10)) (.int (Int.ofNat 18)) st k
  rw [e, fI_eq, powI_eq]; exact q
theorem Val.intB {b : Bool} (h : Val e l st (.bl b)) : Val (RS.int1 e) l st (.int (bif b then 1 else 0)) := fun k ex q => h _ ex (by cases b <;> exact q)
theorem Val.if' {d : Bool} {t : Ev} {u : Ev} {c : Ev} {y : G} (hc : Val c l st (.bl d)) (h1 : d = true → Val t l st y) (h2 : d = false → Val u l st y) : Val (eIf (eTest c) t u) l st y := fun k ex q => hc _ ex (by
  cases d with
  | true => exact h1 rfl k ex q
  | false => exact h2 rfl k ex q)
end
theorem box_run {C M D : Int} {n : Nat} {a : Int} {ns : List Int} {st : Sto} {k : KG} {ex : KX} (e : getO st.ob n = some (.lst ((a :: ns).map G.int))) (hC : 0 ≤ C) (hM : 0 < M) (hCM : C + M < 2 ^ 63) (hD : D.natAbs < 2 ^ 63)
    (hk : ∀ x y : Int, 0 ≤ x → 0 ≤ y → y < 2 ^ 63 → k (.ref st.sz) (st.add (.lst [.int x, .int y, .int 0]))) : runB 2 1 (bBox C M D) [.ref n, .int 0] st k ex := by
  show fL _ _
  rw [fL_eq]
  show bBox C M D [some (.ref n), some (.int 0), none] st _
  obtain ⟨m, rfl⟩ : ∃ m : Nat, M = ((m + 1 : Nat) : Int) := ⟨M.toNat - 1, by omega⟩
  refine seq_set (v := .int a) (Val.if' (d := true) ?_ (fun _ => ?_) (fun z => nomatch z)) ?_
  · have := Val.bin (op := oLt) (l := [some (.ref n), some (.int 0), none]) (st := st) (v := .bl (decide ((0 : Int) < (((a :: ns).map G.int).length : Nat)))) (Val.var (n := 1) (x := .int 0) rfl) (Val.len (xs := (a :: ns).map G.int) (Val.var (n := 0) (x := .ref n) rfl) (by show (match listO (getO st.ob n) with | some xs => some xs.length | none => none) = _; rw [e]; rfl)) fun k => op_lt' k
    rw [decide_eq_true (by rw [List.length_map, List.length_cons]; omega)] at this
    exact this
  · exact .bin (.var rfl) (.var rfl) fun k => op_ix' (xs := (a :: ns).map G.int) (by show listO (getO st.ob n) = _; rw [e]; rfl) rfl k
  · have hl : ∀ {st : Sto}, Val (eVar 2) [some (.ref n), some (.int 0), some (.int a)] st (.int a) := fun {st} => .var rfl
    have hP : Val (eBin oMul (eApp oAbs (aCons (eVar 2) aNil)) (int1 (eBin oGe (eApp oAbs (aCons (eVar 2) aNil)) (eBin oPow (cI 10) (cI 18))))) [some (.ref n), some (.int 0), some (.int a)] st (.int (Int.ofNat a.natAbs * (bif decide ((10 : Int) ^ 18 ≤ Int.ofNat a.natAbs) then 1 else 0))) := .bin (.abs hl) (.intB (.bin (.abs hl) (.bin .c .c fun k => op_pow10 k) fun k => op_ge' k)) fun k => op_mul' (mulOk_r (by cases decide ((10 : Int) ^ 18 ≤ Int.ofNat a.natAbs) <;> decide)) k
    have hQ : Val (eBin oAdd (eBin oAdd (eBin oMod (int1 (eVar 2)) (cI ((m + 1 : Nat) : Int))) (eBin oMul (cI D) (eVar 1))) (cI C)) [some (.ref n), some (.int 0), some (.int a)] st (.int (a % ((m + 1 : Nat) : Int) + D * 0 + C)) :=
      .bin (.bin (.bin (.int1 hl) .c fun k => op_mod' k) (.bin .c (.var rfl) fun k => op_mul' (mulOk_l hD) k) fun k => op_add' k) .c fun k => op_add' k
    refine hP _ _ (hQ _ _ ?_)
    have h1 : 0 ≤ a % ((m + 1 : Nat) : Int) := Int.emod_nonneg _ (by omega)
    have h2 : a % ((m + 1 : Nat) : Int) < ((m + 1 : Nat) : Int) := Int.emod_lt_of_pos _ (by omega)
    refine (show fAdd st (.lst [.int (Int.ofNat a.natAbs * (bif decide ((10 : Int) ^ 18 ≤ Int.ofNat a.natAbs) then 1 else 0)), .int (a % ((m + 1 : Nat) : Int) + D * 0 + C), .int 0]) k from ?_)
    rw [fAdd_eq]
    refine hk _ _ ?_ ?_ ?_
    · have : (0 : Int) ≤ Int.ofNat a.natAbs := Int.natCast_nonneg _
      cases decide ((10 : Int) ^ 18 ≤ Int.ofNat a.natAbs)
      · show (0 : Int) ≤ Int.ofNat a.natAbs * 0
        rw [Int.mul_zero]; exact Int.le_refl 0
      · show (0 : Int) ≤ Int.ofNat a.natAbs * 1
        omega
    · rw [Int.mul_zero]; omega
    · rw [Int.mul_zero]; omega
theorem getO_add {st : Sto} {o : O} (ok : ∀ n u, getO st.ob n = some u → n < st.sz) : ∀ n u, getO (st.add o).ob n = some u → (n = st.sz ∧ u = o) ∨ (n ≠ st.sz ∧ getO st.ob n = some u) := fun n u e => by
  have e : getO ((st.sz, o) :: st.ob) n = some u := e
  rw [getO_cons] at e
  by_cases q : st.sz = n
  · rw [if_pos q] at e
    exact .inl ⟨q.symm, (Option.some.inj e).symm⟩
  · rw [if_neg q] at e
    exact .inr ⟨fun z => q z.symm, e⟩
/-- the last object told otherwise -/
theorem StOk.tellAdd {g : Gh} {H : Hp} {st st0 : Sto} {o o2 : O} (s : StOk K cl g H (st.add o)) (h : ∀ a u, RpO K cl g H a o u → RpO K cl g H a o2 u) (h0 : st0.sz = st.sz) (hob : ∀ n u, getO st0.ob n = some u → ∃ u1, getO st.ob n = some u1 ∧ ∀ a w, RpO K cl g H a u1 w → RpO K cl g H a u w) : StOk K cl g H (st0.add o2) :=
  s.weak (congrArg (· + 1) h0) fun n u e => by
    have e : getO ((st0.sz, o2) :: st0.ob) n = some u := e
    rw [getO_cons, h0] at e
    by_cases q : st.sz = n
    · rw [if_pos q] at e
      cases e
      exact ⟨o, by show getO ((st.sz, o) :: st.ob) n = _; rw [getO_cons, if_pos q], h⟩
    · rw [if_neg q] at e
      obtain ⟨u1, e1, i⟩ := hob n u e
      exact ⟨u1, by show getO ((st.sz, o) :: st.ob) n = _; rw [getO_cons, if_neg q]; exact e1, i⟩
theorem box_imp {C M D : Int} (hC : 0 ≤ C) (hM : 0 < M) (hCM : C + M < 2 ^ 63) (hD : D.natAbs < 2 ^ 63) (hΦ : ∀ xs st k ex, Φ fid xs st k ex → boxF xs st k) (hB : ∀ xs st k ex, runB 2 1 (bBox C M D) xs st k ex → ΦB fid xs st k ex) (vs : List V) (H : Hp) (Q : VK) (E : XK) (h : spOf K cl Φ fid vs H Q E) : spOf K cl ΦB fid vs H Q E := by
  obtain ⟨g, st, xs, k, ex, ok, r, h, hk, hx⟩ := h
  obtain ⟨n, rfl, e, h4⟩ := boxF_some (hΦ _ _ _ _ h)
  obtain ⟨u, hu, a, ns, rfl⟩ := ok.get e
  have ok1 : StOk K cl g H (st.put n (.lst ((a :: ns).map G.int))) := ok.tell e fun u hu' _ => by
    rw [hu] at hu'
    cases hu'
    exact ⟨_, rfl, ints_rp (a :: ns)⟩
  have e1 : getO (st.put n (.lst ((a :: ns).map G.int))).ob n = some (.lst ((a :: ns).map G.int)) := get_put e
  refine ⟨g, _, _, fun v st' => ∃ x y : Int, v = .ref st.sz ∧ 0 ≤ x ∧ 0 ≤ y ∧ y < 2 ^ 63 ∧ st' = (st.put n (.lst ((a :: ns).map G.int))).add (.lst [.int x, .int y, .int 0]), fun _ _ => False, ok1, r, hB _ _ _ _ (box_run e1 hC hM hCM hD fun x y b d q => ⟨x, y, rfl, b, d, q, rfl⟩), ?_, fun _ _ _ _ z => z.elim⟩
  rintro v st' g' H' val ⟨x, y, rfl, a1, b, d, rfl⟩ f ok' rp
  refine hk _ _ g' H' val h4 f (ok'.tellAdd (fun _ u ru => ?_) rfl fun m u em => ?_) rp
  · obtain ⟨vs, rfl, rv⟩ := ru
    rw [rp_ints rv (ns := [x, y, 0]) rfl]
    exact ⟨x, y, 0, rfl, a1, b, d, Int.le_refl _, Int.le_refl _⟩
  · by_cases z : m = n
    · subst z
      rw [e] at em
      cases em
      refine ⟨_, e1, fun _ w rw_ => ?_⟩
      obtain ⟨vs, rfl, rv⟩ := rw_
      rw [rp_ints rv (ns := a :: ns) rfl]
      exact ⟨a, ns, rfl⟩
    · refine ⟨u, ?_, fun _ _ h => h⟩
      show getO (putO st.ob n _) m = some u
      rw [getO_put, if_neg z]; exact em
end
end RS

/-! RS: the promises of _law_cells, _law_mixed. -/
namespace RS
open PySem PySem.Spec L2
/-- list(x), a new object unless it's empty -/
def oListE : OpC := fun xs st k => match xs with
  | [x] => (match seqZ st x with
    | some ys => (match ys with
      | [] => k (.sq true []) st
      | y :: r => k (.ref st.sz) (st.add (.lst (y :: r))))
    | none => False)
  | _ => False
section
variable {c : Cf}
theorem r_listE : ∀ X, At c X → CallR X (.type "list") (rListC X.K) ∧ OC c oListE (rListC X.K) := fun X hX => by
  obtain ⟨cl, n, cm, fr, fk, px, rfl⟩ := hX.eq
  refine ⟨call_list_of, oc1 fun x st k g H v Q ok r h hk => ?_⟩
  cases e : seqZ st x with
  | none => simp only [e] at h
  | some ys =>
    simp only [e] at h
    obtain ⟨a, vs, rfl, h1, r1⟩ := seqZ_rp ok r e
    refine ⟨a, vs, rfl, h1, fun t ht => ?_⟩
    cases ys with
    | nil =>
      obtain ⟨n2, r2⟩ := new_fix ok r1 ht
      exact hk _ _ _ _ _ h n2 r2
    | cons y ys =>
      obtain ⟨n2, r2⟩ := new_lst ok r1 ht
      exact hk _ _ _ _ _ h n2 r2
end
/-! ### _law_cells -/
def bTurn (em : Ev) : EvS := sSeq (sSet 5 (eBin oMod (int1 (eVar 3)) em)) (sAsg (eBin oAdd (eBin oIx (eVar 2) (eVar 5)) (eBin oMul (eVar 4) (eBin oAdd (eVar 3) (cI 2)))) (gSet (eVar 2) (eVar 5)))
def bCells (em : Ev) : EvS :=
  sSeq (sSet 2 (eOrT (eApp oListE (aCons (eSl (eVar 0) oNo (oSome (eVar 1))) aNil)) (eLstM (aCons (cI 0) aNil))))
  (sSeq (sFor (iEnum (aCons (eSl (eVar 0) (oSome (eVar 1)) (oSome (cI 63))) aNil)) (gT (gsCons (gN 3) (gsCons (gN 4) gsNil))) (bTurn em)) (sRet (eVar 2)))
theorem set_at' {eo ei : Ev} {l : L} {st : Sto} {n : Nat} {i : Int} {v : G} {xs : List G} {jj : Nat} {k : L → Sto → Prop} (ho : Val eo l st (.ref n)) (hi' : Val ei l st (.int i)) (hg : getO st.ob n = some (.lst xs)) (hi : ixG xs.length i = some jj) (q : k l (st.put n (.lst (xs.set jj v)))) : gSet eo ei v l st k := by
  refine ho _ _ (hi' _ _ ?_)
  show match listO (getO st.ob n) with
      | some xs => (match ixG xs.length i with
        | some j => fset xs j v fun ys => fPut st n (.lst ys) fun st3 => k l st3
        | none => False)
      | none => False
  rw [hg]
  show match ixG xs.length i with
        | some j => fset xs j v fun ys => fPut st n (.lst ys) fun st3 => k l st3
        | none => False
  rw [hi]
  show fset xs jj v fun ys => fPut st n (.lst ys) fun st3 => k l st3
  rw [fset_eq, fPut_eq]
  exact q
theorem put_add (st : Sto) (o o2 : O) : (st.add o).put st.sz o2 = st.add o2 := by
  show Sto.mk (st.sz + 1) (putO ((st.sz, o) :: st.ob) st.sz o2) = Sto.mk (st.sz + 1) ((st.sz, o2) :: st.ob)
  rw [putO_cons, if_pos rfl]
theorem get_add (st : Sto) (o : O) : getO (st.add o).ob st.sz = some o := by
  show getO ((st.sz, o) :: st.ob) st.sz = _
  rw [getO_cons, if_pos rfl]
/-- the locals and the store of _law_cells in its loop -/
def CellSt (xs : List Int) (st0 : Sto) (l : L) (st : Sto) : Prop := ∃ (ns : List Int) (o3 o4 o5 : Option G), ns ≠ [] ∧ l = [some (.fz xs), some (.int 1), some (.ref st0.sz), o3, o4, o5] ∧ st = st0.add (.lst (ns.map G.int))
def ModOk (em : Ev) : Prop := ∀ (xs : List Int) (st0 : Sto) (ns : List Int) (o3 o4 o5 : Option G), ns ≠ [] → ∃ q : Nat, q < ns.length ∧ Val em [some (.fz xs), some (.int 1), some (.ref st0.sz), o3, o4, o5] (st0.add (.lst (ns.map G.int))) (.int ((q + 1 : Nat) : Int))
theorem modOk_1 : ModOk (eVar 1) := fun xs st0 ns o3 o4 o5 h => ⟨0, List.length_pos_iff.mpr h, .var rfl⟩
theorem modOk_len : ModOk (eApp oLen (aCons (eVar 2) aNil)) := fun xs st0 ns o3 o4 o5 h => by
  have hl := List.length_pos_iff.mpr h
  refine ⟨ns.length - 1, by omega, ?_⟩
  have e : ((ns.length - 1 + 1 : Nat) : Int) = ((ns.map G.int).length : Nat) := by rw [List.length_map]; congr 1; omega
  rw [e]
  exact Val.len (.var rfl) (by show (match listO (getO (st0.add _).ob st0.sz) with | some xs => some xs.length | none => none) = _; rw [get_add]; rfl)
theorem cells_loop {em : Ev} (hem : ModOk em) {xs : List Int} {st0 : Sto} {ws : List Int} (hw : ws.length ≤ 1000) {K : KS} (fin : ∀ l st, CellSt xs st0 l st → K.nx l st) : ∀ (m i : Nat) (l : L) (st : Sto), ws.length - i < m → CellSt xs st0 l st → loopF (prE (atL (ws.map G.int))) (gT (gsCons (gN 3) (gsCons (gN 4) gsNil))) (bTurn em) K m i l st
  | 0, _, _, _, h, _ => absurd h (Nat.not_lt_zero _)
  | m + 1, i, l, st, hm, hs => by
    unfold loopF
    cases e : (ws.map G.int)[i]? with
    | none =>
      have : prE (atL (ws.map G.int)) st i = some none := by
        show (match some (ws.map G.int)[i]? with | none => none | some o => (match o with | none => some none | some y => some (some (G.sw [.int (.ofNat i), y])))) = _
        rw [e]
      rw [this]
      exact fin l st hs
    | some y =>
      have : prE (atL (ws.map G.int)) st i = some (some (.sw [.int (.ofNat i), y])) := by
        show (match some (ws.map G.int)[i]? with | none => none | some o => (match o with | none => some none | some y => some (some (G.sw [.int (.ofNat i), y])))) = _
        rw [e]
      rw [this]
      obtain ⟨w, rfl⟩ : ∃ w, y = .int w := by
        rw [List.getElem?_map] at e
        cases e2 : ws[i]? with
        | none => rw [e2] at e; cases e
        | some w => rw [e2] at e; cases e; exact ⟨w, rfl⟩
      have hi : i < ws.length := by
        have := (List.getElem?_eq_some_iff.mp e).1
        rw [List.length_map] at this
        exact this
      obtain ⟨ns, o3, o4, o5, hne, rfl, rfl⟩ := hs
      show fset _ 3 _ fun l1 => fset l1 4 _ fun l2 => bTurn em l2 _ _
      rw [fset_eq, fset_eq]
      show bTurn em [some (.fz xs), some (.int 1), some (.ref st0.sz), some (.int (.ofNat i)), some (.int w), o5] _ _
      obtain ⟨q, hq, hv⟩ := hem xs st0 ns (some (.int (.ofNat i))) (some (.int w)) o5 hne
      obtain ⟨r, hr, er⟩ := mod_lt' (i := Int.ofNat i) (m := q + 1) (by omega)
      refine seq_set (.bin (.int1 (.var rfl)) hv fun k => op_mod' k) ?_
      rw [er]
      have hrl : r < ns.length := by omega
      have hx : (ns.map G.int)[r]? = some (.int ns[r]) := by rw [List.getElem?_map, List.getElem?_eq_getElem hrl]; rfl
      have hg : getO (st0.add (.lst (ns.map G.int))).ob st0.sz = some (.lst (ns.map G.int)) := get_add _ _
      refine s_asg' (v := .int (ns[r] + w * (Int.ofNat i + 2))) (.bin (.bin (.var rfl) (.var rfl) fun k => op_ix' (xs := ns.map G.int) (by show listO (getO _ st0.sz) = _; rw [hg]; rfl) (show nthG (ns.map G.int) (Int.ofNat r) = some (.int ns[r]) from hx) k) (.bin (.var rfl) (.bin (.var rfl) .c fun k => op_add' k) fun k => op_mul' (mulOk_r ?_) k) fun k => op_add' k) ?_
      · show ((i : Int) + 2).natAbs < _
        omega
      · have hix : ixG (ns.map G.int).length (Int.ofNat r) = some r := by
          show (match Nat.blt r (ns.map G.int).length with | true => some r | false => none) = some r
          rw [show Nat.blt r (ns.map G.int).length = true from Nat.ble_eq_true_of_le (by rw [List.length_map]; exact hrl)]
        refine set_at' (n := st0.sz) (.var rfl) (.var rfl) hg hix ?_
        rw [put_add]
        show fN (i + 1) fun j => loopF _ _ _ K m j _ _
        rw [fN_eq]
        refine cells_loop hem hw fin m (i + 1) _ _ (by omega) ⟨ns.set r (ns[r] + w * (Int.ofNat i + 2)), some (.int (.ofNat i)), some (.int w), some (.int (.ofNat r)), ?_, rfl, ?_⟩
        · intro z
          have := congrArg List.length z
          rw [List.length_set] at this
          exact hne (List.length_eq_zero_iff.mp this)
        · rw [List.map_set]
theorem cut_map (xs : List Int) (lo hi : Option Int) : ∃ ys : List Int, cutG (xs.map G.int) lo hi = ys.map G.int ∧ ys.length ≤ clamp xs.length xs.length hi := by
  refine ⟨(xs.drop (clamp xs.length 0 lo)).take (clamp xs.length xs.length hi - clamp xs.length 0 lo), ?_, ?_⟩
  · unfold cutG
    rw [List.length_map, List.map_take, List.map_drop]
  · rw [List.length_take]
    omega
theorem clamp_le (n d m : Nat) : clamp n d (some (.ofNat m)) ≤ m := by
  show (match Nat.ble m n with | true => m | false => n) ≤ m
  cases e : Nat.ble m n with
  | true => exact Nat.le_refl _
  | false =>
    show n ≤ m
    by_cases h : m ≤ n
    · rw [Nat.ble_eq_true_of_le h] at e; cases e
    · omega
def Val2 (e : Ev) (l : L) (st : Sto) (v : G) (st1 : Sto) : Prop := ∀ k ex, k v st1 → e l st k ex
section
variable {s t e : Ev} {l : L} {st st1 st2 : Sto} {v v2 : G} {n : Nat} {b : EvS} {K : KS}
theorem orT_left (h : Val2 s l st v st1) (ht : truG st1 v = some true) : Val2 (eOrT s t) l st v st1 := fun k ex q => h _ _ (by rw [ht]; exact q)
theorem orT_right (h : Val2 s l st v st1) (ht : truG st1 v = some false) (h2 : Val2 t l st1 v2 st2) : Val2 (eOrT s t) l st v2 st2 := fun k ex q => h _ _ (by rw [ht]; exact h2 k ex q)
theorem seq_set2 (h : Val2 e l st v st1) (q : b (l.set n (some v)) st1 K) : sSeq (sSet n e) b l st K := h _ _ (by
  show fset l n (some v) fun l1 => b l1 st1 K
  rw [fset_eq]; exact q)
end
def cellsF (xs : List G) (st : Sto) (k : KG) : Prop := match xs with
  | [u, w] => (match u with
    | .fz _ => (match w with
      | .int m => (match PySem.W.Z.eqB m 1 with
        | true => k (.ref st.sz) (st.add .nums)
        | false => False)
      | _ => False)
    | _ => False)
  | _ => False
theorem cellsF_some {xs : List G} {st : Sto} {k : KG} (h : cellsF xs st k) : ∃ ns, xs = [.fz ns, .int 1] ∧ k (.ref st.sz) (st.add .nums) := by
  unfold cellsF at h
  split at h <;> try exact h.elim
  split at h <;> try exact h.elim
  rename_i ns
  split at h <;> try exact h.elim
  rename_i m
  split at h <;> try exact h.elim
  rename_i e
  have := (PySem.W.Z.eqB_iff m 1).mp e
  subst this
  exact ⟨ns, rfl, h⟩
theorem cells_run {em : Ev} (hem : ModOk em) {xs : List Int} {st : Sto} {k : KG} {ex : KX} (hk : ∀ ns : List Int, ns ≠ [] → k (.ref st.sz) (st.add (.lst (ns.map G.int)))) : runB 2 4 (bCells em) [.fz xs, .int 1] st k ex := by
  show fL _ _
  rw [fL_eq]
  show bCells em [some (.fz xs), some (.int 1), none, none, none, none] st _
  obtain ⟨ws, ew, hw⟩ := cut_map xs (some 1) (some 63)
  obtain ⟨us, eu, _⟩ := cut_map xs none (some 1)
  have hw : ws.length ≤ 63 := Nat.le_trans hw (clamp_le _ _ 63)
  have rest : ∀ l st1, CellSt xs st l st1 → (sSeq (sFor (iEnum (aCons (eSl (eVar 0) (oSome (eVar 1)) (oSome (cI 63))) aNil)) (gT (gsCons (gN 3) (gsCons (gN 4) gsNil))) (bTurn em)) (sRet (eVar 2))) l st1 ⟨fun _ st' => k .non st', k, fun _ _ => False, fun _ _ => False, fun x _ st' => ex x st'⟩ := by
    rintro l st1 hs
    have hs' := hs
    obtain ⟨ns, o3, o4, o5, hne, rfl, rfl⟩ := hs
    show fL (cutG (xs.map G.int) (some 1) (some 63)) fun zs => loopF (prE (atL zs)) _ _ _ fuelN 0 _ _
    rw [fL_eq, ew]
    refine cells_loop hem (by omega) (fun l st2 hc => ?_) fuelN 0 _ _ (by show _ < 1000000; omega) hs'
    obtain ⟨ns2, p3, p4, p5, hne2, rfl, rfl⟩ := hc
    exact hk ns2 hne2
  have hv : ∀ {k ex}, k (.sq true (us.map G.int)) st → eSl (eVar 0) oNo (oSome (eVar 1)) [some (.fz xs), some (.int 1), none, none, none, none] st k ex := fun {k ex} q => by
    show fL (cutG (xs.map G.int) none (some 1)) fun zs => k (.sq true zs) st
    rw [fL_eq, eu]; exact q
  have hl : Val2 (eLstM (aCons (cI 0) aNil)) [some (.fz xs), some (.int 1), none, none, none, none] st (.ref st.sz) (st.add (.lst [.int 0])) := fun k ex q => by
    show fAdd st (.lst [.int 0]) k
    rw [fAdd_eq]; exact q
  cases us with
  | nil =>
    have hs : Val2 (eApp oListE (aCons (eSl (eVar 0) oNo (oSome (eVar 1))) aNil)) [some (.fz xs), some (.int 1), none, none, none, none] st (.sq true []) st := fun k ex q => hv (k := fun x st1 => oListE [x] st1 k) (ex := ex) q
    exact seq_set2 (orT_right hs rfl hl) (rest _ _ ⟨[0], none, none, none, by simp, rfl, rfl⟩)
  | cons u us =>
    have hs : Val2 (eApp oListE (aCons (eSl (eVar 0) oNo (oSome (eVar 1))) aNil)) [some (.fz xs), some (.int 1), none, none, none, none] st (.ref st.sz) (st.add (.lst ((u :: us).map G.int))) := fun k ex q => hv (k := fun x st1 => oListE [x] st1 k) (ex := ex) q
    have et : truG (st.add (.lst ((u :: us).map G.int))) (.ref st.sz) = some true := by
      show truO (getO (st.add _).ob st.sz) = _
      rw [get_add]; rfl
    exact seq_set2 (orT_left hs et) (rest _ _ ⟨u :: us, none, none, none, by simp, rfl, rfl⟩)
section
variable {K : PySem.W.Frag} {cl : Nat → Addr} {Φ ΦB : Fn} {fid : Nat}
theorem cells_imp {em : Ev} (hem : ModOk em) (hΦ : ∀ xs st k ex, Φ fid xs st k ex → cellsF xs st k) (hB : ∀ xs st k ex, runB 2 4 (bCells em) xs st k ex → ΦB fid xs st k ex) (vs : List V) (H : Hp) (Q : VK) (E : XK) (h : spOf K cl Φ fid vs H Q E) : spOf K cl ΦB fid vs H Q E := by
  obtain ⟨g, st, xs, k, ex, ok, r, h, hk, hx⟩ := h
  obtain ⟨ns, rfl, h4⟩ := cellsF_some (hΦ _ _ _ _ h)
  refine ⟨g, st, _, fun v st' => ∃ ns : List Int, ns ≠ [] ∧ v = .ref st.sz ∧ st' = st.add (.lst (ns.map G.int)), fun _ _ => False, ok, r, hB _ _ _ _ (cells_run hem fun ns hne => ⟨ns, hne, rfl, rfl⟩), ?_, fun _ _ _ _ z => z.elim⟩
  rintro v st' g' H' val ⟨ns2, hne, rfl, rfl⟩ f ok' rp
  refine hk _ _ g' H' val h4 f (ok'.tellAdd (fun _ u ru => ?_) rfl fun m u em => ⟨u, em, fun _ _ h => h⟩) rp
  obtain ⟨vs, rfl, rv⟩ := ru
  rw [rp_ints rv rfl]
  cases ns2 with
  | nil => exact absurd rfl hne
  | cons a b => exact ⟨a, b, rfl⟩
end
/-! ### _law_mixed -/
def mixL (f : G → Nat → (G → Nat → Prop) → Prop) : List G → Nat → (List G → Nat → Prop) → Prop
  | [], c, k => k [] c
  | x :: r, c, k => f x c fun y c1 => mixL f r c1 fun ys c2 => k (y :: ys) c2
/-- every tuple and list within told as a list or a tuple; c counts the draws -/
def mixN : Nat → G → Nat → (G → Nat → Prop) → Prop
  | 0, _, _, _ => False
  | n + 1, x, c, k => match x with
    | .sq _ xs => (match n with
      | 0 => False
      | _ + 1 => ck (Nat.blt xs.length 10000) (mixL (mixN n) xs c fun ys c1 => ck (Nat.blt c1 1000000) (fN (c1 + 1) fun c2 => ∀ b : Bool, k (.sq b ys) c2)))
    | .int i => k (.int i) c
    | .bl i => k (.bl i) c
    | .non => k .non c
    | .str i => k (.str i) c
    | _ => False
def mixF (n : Nat) (xs : List G) (st : Sto) (k : KG) : Prop := match xs with
  | [u, x] => (match u with
    | .ref m => (match getO st.ob m with
      | some (.urn c) => mixN n x c fun y c1 => fPut st m (.urn c1) fun st1 => k y st1
      | _ => False)
    | _ => False)
  | _ => False
def bMixed (Φ : Fn) (fM fT : Nat) : EvS :=
  sSeq (sIf (tNot' (eTru (eApp oIsi (aCons (eVar 1) (aCons (eTup (aCons (eC (.ty .list)) (aCons (eC (.ty .tuple)) aNil))) aNil))))) (sRet (eVar 1)) sNil)
  (sSeq (sSet 2 (eLc [3] (iSeq (eVar 1)) (gN 3) tYes' (eCall Φ fM (aCons (eVar 0) (aCons (eVar 3) aNil)))))
  (sRet (eIf (eTest (eBin oEq (eCall Φ fT (aCons (eVar 0) (aCons (cI 2) aNil))) (cI 0))) (eVar 2) (eApp oTup (aCons (eVar 2) aNil)))))
theorem mixL_mono {f : G → Nat → (G → Nat → Prop) → Prop} (hf : ∀ x c (k k' : G → Nat → Prop), (∀ y c1, k y c1 → k' y c1) → f x c k → f x c k') : ∀ (xs : List G) (c : Nat) (k k' : List G → Nat → Prop), (∀ y c1, k y c1 → k' y c1) → mixL f xs c k → mixL f xs c k'
  | [], c, k, k', h, q => h _ _ q
  | x :: r, c, k, k', h, q => hf x c _ _ (fun y c1 z => mixL_mono hf r c1 _ _ (fun ys c2 w => h _ _ w) z) q
theorem mixN_mono : ∀ (n : Nat) (x : G) (c : Nat) (k k' : G → Nat → Prop), (∀ y c1, k y c1 → k' y c1) → mixN n x c k → mixN n x c k'
  | 0, _, _, _, _, _, q => q.elim
  | n + 1, x, c, k, k', h, q => by
    cases x <;> first
      | exact (show False from q).elim
      | exact h _ _ q
      | skip
    rename_i l xs
    cases n with
    | zero => exact (show False from q).elim
    | succ n =>
      have q : ck (Nat.blt xs.length 10000) (mixL (mixN (n + 1)) xs c fun ys c1 => ck (Nat.blt c1 1000000) (fN (c1 + 1) fun c2 => ∀ b : Bool, k (.sq b ys) c2)) := q
      show ck (Nat.blt xs.length 10000) (mixL (mixN (n + 1)) xs c fun ys c1 => ck (Nat.blt c1 1000000) (fN (c1 + 1) fun c2 => ∀ b : Bool, k' (.sq b ys) c2))
      rw [q.l]
      refine mixL_mono (fun x c k k' => mixN_mono (n + 1) x c k k') xs c _ _ (fun ys c1 z => ?_) q.r
      have h1 := z.l
      have h3 := z.r
      rw [fN_eq] at h3
      rw [h1, fN_eq]
      exact fun b => h _ _ (h3 b)
theorem put_same : ∀ {os : List (Nat × O)} {n : Nat} {o : O}, getO os n = some o → putO os n o = os
  | [], _, _, h => nomatch h
  | p :: r, n, o, h => by
    rw [getO_cons] at h
    rw [putO_cons]
    by_cases q : p.1 = n
    · rw [if_pos q] at h ⊢
      obtain ⟨a, b⟩ := p
      dsimp only at q
      cases h
      rw [← q]
    · rw [if_neg q] at h ⊢
      rw [put_same h]
theorem mixF_of {n m c : Nat} {x : G} {st : Sto} {k : KG} (e : getO st.ob m = some (.urn c)) (h : mixN n x c fun y c1 => fPut st m (.urn c1) fun st1 => k y st1) : mixF n [.ref m, x] st k := by
  show match getO st.ob m with
    | some (.urn c) => mixN n x c fun y c1 => fPut st m (.urn c1) fun st1 => k y st1
    | _ => False
  rw [e]
  exact h
theorem mix_loop {Φ : Fn} {fM n m : Nat} {XS : List G} {st : Sto} {x0 : G} {o2 : Option G} {kk : List G → Sto → Prop} {Fin : List G → Nat → Prop} (hM : ∀ xs st k ex, mixF n xs st k → Φ fM xs st k ex) (hg : ∃ c, getO st.ob m = some (.urn c)) (hk : ∀ r c1, Fin r c1 → kk r (st.put m (.urn c1))) :
    ∀ (mm i : Nat) (acc : List G) (c : Nat), XS.length - i < mm → mixL (mixN n) (XS.drop i) c (fun ys c1 => Fin (acc.reverse ++ ys) c1) → loopC (atL XS) (gN 3) tYes' (eCall Φ fM (aCons (eVar 0) (aCons (eVar 3) aNil))) [some (.ref m), some x0, o2, none] kk mm i acc (st.put m (.urn c))
  | 0, _, _, _, h, _ => absurd h (Nat.not_lt_zero _)
  | mm + 1, i, acc, c, hm, h => by
    unfold loopC
    show match some XS[i]? with
      | none => False
      | some o => _
    cases e : XS[i]? with
    | none =>
      have hd : XS.drop i = [] := List.drop_eq_nil_iff.mpr (List.getElem?_eq_none_iff.mp e)
      rw [hd] at h
      have h : Fin (acc.reverse ++ []) c := h
      rw [List.append_nil] at h
      exact hk _ _ h
    | some x =>
      have hi := (List.getElem?_eq_some_iff.mp e).1
      have hd : XS.drop i = x :: XS.drop (i + 1) := by
        rw [List.drop_eq_getElem_cons hi]
        congr 1
        exact (List.getElem?_eq_some_iff.mp e).2
      rw [hd] at h
      show fset _ 3 _ _
      rw [fset_eq]
      refine hM _ _ _ _ ?_
      obtain ⟨c0, hg⟩ := hg
      have e2 : getO (putO st.ob m (.urn c)) m = some (.urn c) := get_put hg
      refine mixF_of e2 (mixN_mono n x c _ _ (fun y c1 z => ?_) h)
      rw [fPut_eq]
      have ep : (st.put m (.urn c)).put m (.urn c1) = st.put m (.urn c1) := by
        show Sto.mk st.sz (putO (putO st.ob m _) m _) = Sto.mk st.sz _
        rw [put_put]
      rw [ep]
      show fN (i + 1) fun j => loopC _ _ _ _ _ kk mm j _ _
      rw [fN_eq]
      refine mix_loop hM ⟨c0, hg⟩ hk mm (i + 1) (y :: acc) c1 (by omega) ?_
      refine mixL_mono (fun x c k k' => mixN_mono n x c k k') _ _ _ _ (fun ys c2 w => ?_) z
      rw [List.reverse_cons, List.append_assoc]
      exact w
theorem mix_lc {Φ : Fn} {fM n m c : Nat} {lb : Bool} {XS : List G} {st : Sto} {K : KG} {ex : KX} {Fin : List G → Nat → Prop} (hM : ∀ xs st k ex, mixF n xs st k → Φ fM xs st k ex) (hg : getO st.ob m = some (.urn c)) (hl : XS.length < 10000) (hk : ∀ r c1, Fin r c1 → K (.sq true r) (st.put m (.urn c1)))
    (h : mixL (mixN n) XS c Fin) : eLc [3] (iSeq (eVar 1)) (gN 3) tYes' (eCall Φ fM (aCons (eVar 0) (aCons (eVar 3) aNil))) [some (.ref m), some (.sq lb XS), none, none] st K ex := by
  have p0 : st.put m (.urn c) = st := by
    show Sto.mk st.sz (putO st.ob m (.urn c)) = st
    rw [put_same hg]
  have := mix_loop (kk := fun r st' => fL r fun r => finS K r st') (x0 := .sq lb XS) (o2 := none) (Fin := Fin) hM ⟨c, hg⟩ (fun r c1 hf => by rw [fL_eq]; exact hk r c1 hf) fuelC 0 [] c (by show _ < 10000; omega) h
  rw [p0] at this
  unfold eLc eLcK
  show fL _ _
  rw [fL_eq]
  exact this
theorem seq_ifG {t : EvT} {d : Bool} {l : L} {st : Sto} {K : KS} {s b : EvS} (h : ∀ Q ex, Q d st → t l st Q ex) (q1 : d = true → s l st { K with nx := fun l1 st1 => b l1 st1 K }) (q2 : d = false → b l st K) : sSeq (sIf t s sNil) b l st K := h _ _ (by
  cases d with
  | true => exact q1 rfl
  | false => exact q2 rfl)
theorem takeF_of {n c : Nat} {st : Sto} {k : KG} (e : getO st.ob n = some (.urn c)) (hc : Nat.blt c 1000000 = true) (h0 : k (.int 0) (st.put n (.urn (c + 1)))) (h1 : k (.int 1) (st.put n (.urn (c + 1)))) : takeF [.ref n, .int 2] st k := by
  show match getO st.ob n with
    | some (.urn c) => ck (Nat.blt 0 2) (ck (Nat.blt 2 1000000) (ck (Nat.blt c 1000000) (fN (c + 1) fun c2 => fPut st n (.urn c2) fun st2 => allN 2 fun r => fN r fun r => k (.int (.ofNat r)) st2)))
    | _ => False
  rw [e]
  show ck (Nat.blt c 1000000) (fN (c + 1) fun c2 => fPut st n (.urn c2) fun st2 => allN 2 fun r => fN r fun r => k (.int (.ofNat r)) st2)
  rw [hc, fN_eq, fPut_eq]
  exact ⟨h0, h1⟩
theorem mixed_run {Φ : Fn} {fM fT n : Nat} (hM : ∀ xs st k ex, mixF n xs st k → Φ fM xs st k ex) (hT : 0 < n → ∀ xs st k ex, takeF xs st k → Φ fT xs st k ex) {xs : List G} {st : Sto} {k : KG} {ex : KX} (h : mixF (n + 1) xs st k) : runB 2 2 (bMixed Φ fM fT) xs st k ex := by
  unfold mixF at h
  split at h <;> try exact h.elim
  rename_i u x
  split at h <;> try exact h.elim
  rename_i m
  split at h <;> try exact h.elim
  rename_i c hg
  have p0 : st.put m (.urn c) = st := by
    show Sto.mk st.sz (putO st.ob m (.urn c)) = st
    rw [put_same hg]
  show fL _ _
  rw [fL_eq]
  show bMixed Φ fM fT [some (.ref m), some x, none, none] st _
  have tst : ∀ {y : G} {d : Bool} {Q : Bool → Sto → Prop} {ex : KX}, isTs st y [.list, .tuple] = some d → Q (!d) st → tNot' (eTru (eApp oIsi (aCons (eVar 1) (aCons (eTup (aCons (eC (.ty .list)) (aCons (eC (.ty .tuple)) aNil))) aNil)))) [some (.ref m), some y, none, none] st Q ex := fun {y d Q ex} hi hq => by
    have : ∀ {Q2 : G → Sto → Prop}, Q2 (.bl d) st → (match isTs st y [.list, .tuple] with
      | some b => Q2 (.bl b) st
      | none => False) := fun {Q2} h => by rw [hi]; exact h
    exact this (Q2 := fun v st1 => match truG st1 v with
      | some b => Q (!b) st1
      | none => False) hq
  have leaf : ∀ {y : G}, isTs st y [.list, .tuple] = some false → k y st → bMixed Φ fM fT [some (.ref m), some y, none, none] st ⟨fun _ st' => k .non st', k, fun _ _ => False, fun _ _ => False, fun x _ st' => ex x st'⟩ := fun {y} hi hk => seq_ifG (d := true) (fun Q ex q => tst hi q) (fun _ => hk) (fun z => nomatch z)
  cases x with
  | int i =>
    have h : fPut st m (.urn c) fun st1 => k (.int i) st1 := h
    rw [fPut_eq, p0] at h
    exact leaf rfl h
  | bl i =>
    have h : fPut st m (.urn c) fun st1 => k (.bl i) st1 := h
    rw [fPut_eq, p0] at h
    exact leaf rfl h
  | non =>
    have h : fPut st m (.urn c) fun st1 => k .non st1 := h
    rw [fPut_eq, p0] at h
    exact leaf rfl h
  | str i =>
    have h : fPut st m (.urn c) fun st1 => k (.str i) st1 := h
    rw [fPut_eq, p0] at h
    exact leaf rfl h
  | sq lb xs =>
    cases n with
    | zero => exact (show False from h).elim
    | succ n =>
      have h : ck (Nat.blt xs.length 10000) (mixL (mixN (n + 1)) xs c fun ys c1 => ck (Nat.blt c1 1000000) (fN (c1 + 1) fun c2 => ∀ b : Bool, fPut st m (.urn c2) fun st1 => k (.sq b ys) st1)) := h
      refine seq_ifG (d := false) (fun Q ex q => tst (d := true) rfl q) (fun z => nomatch z) fun _ => ?_
      refine mix_lc (ex := fun x st1 => ex x st1) (Fin := fun ys c1 => ck (Nat.blt c1 1000000) (fN (c1 + 1) fun c2 => ∀ b : Bool, fPut st m (.urn c2) fun st1 => k (.sq b ys) st1)) hM hg (blt_lt h.l) (fun ys c1 hf => ?_) h.r
      have hc := hf.l
      have hf := hf.r
      rw [fN_eq] at hf
      show fset _ 2 _ _
      rw [fset_eq]
      have e2 : getO (putO st.ob m (.urn c1)) m = some (.urn c1) := get_put hg
      refine hT (Nat.succ_pos n) _ _ _ _ (takeF_of e2 hc ?_ ?_)
      · have := hf true
        rw [fPut_eq] at this
        show k (.sq true ys) ((st.put m (.urn c1)).put m (.urn (c1 + 1)))
        have ep : (st.put m (.urn c1)).put m (.urn (c1 + 1)) = st.put m (.urn (c1 + 1)) := by
          show Sto.mk st.sz (putO (putO st.ob m _) m _) = Sto.mk st.sz _
          rw [put_put]
        rw [ep]
        exact this
      · have := hf false
        rw [fPut_eq] at this
        show k (.sq false ys) ((st.put m (.urn c1)).put m (.urn (c1 + 1)))
        have ep : (st.put m (.urn c1)).put m (.urn (c1 + 1)) = st.put m (.urn (c1 + 1)) := by
          show Sto.mk st.sz (putO (putO st.ob m _) m _) = Sto.mk st.sz _
          rw [put_put]
        rw [ep]
        exact this
  | _ => exact (show False from h).elim
end RS

/-! RS: the head: what the top has written. -/
namespace RS
open PySem PySem.Spec L2
/-! ### the Hook with one more test -/
abbrev AlR : Type := He.AlD × Bool
def obsR (fa : List He.Fa) (fn : List He.DefD) (ex : PySem.W.Frag → Bool) (K : PySem.W.Frag) : AlR := (He.obsD fa fn K, ex K)
def obsRG (n : Nat) (fa : List He.Fa) (fn : List He.DefD) (ex : PySem.W.Frag → Bool) (g : Addr → Option Obj) : AlR := obsR fa fn ex (He.frG g (He.asD g n))
def hookR (n : Nat) (fa : List He.Fa) (fn : List He.DefD) (ex : PySem.W.Frag → Bool) : PySem.W.Hook where
  α := AlR
  obs := fun s => obsRG n fa fn ex s.heap.get?
  val := fun _ => (He.valD fn, true)
  says := fun _ h => ∃ K : PySem.W.Frag, K.In h ∧ He.SaysD fa fn K ∧ ex K = true
  of := fun _ _ e => ⟨_, He.frG_in, congrArg (fun z : AlR => z.1) e, congrArg (fun z : AlR => z.2) e⟩
  keeps := fun _ _ _ ⟨K, hK, c⟩ k => ⟨K, PySem.W.Frag.In.keeps hK k, c⟩
theorem obsRG_eq {n : Nat} {fa : List He.Fa} {fn : List He.DefD} {ex : PySem.W.Frag → Bool} {g : Addr → Option Obj} {s : Shared} (h : ∀ a, g a = s.heap.get? a) : obsRG n fa fn ex g = (hookR n fa fn ex).obs s := by
  have e : g = s.heap.get? := funext h
  rw [e] <;> rfl
/-! ### the exception classes -/
def clOf (K : PySem.W.Frag) (ns : List Str) (k : Nat) : Addr := He.ga K (ns.getD k "")
def exB (K : PySem.W.Frag) (C : Addr) : Bool :=
  He.eqO (PySem.W.findIn K (.ref C) "__getattribute__") (some (some (.builtin "BaseException.__getattribute__"))) && (He.eqO (PySem.W.findIn K (.ref C) "__getattr__") (some none) && (decide (PySem.W.subIn K (.ref C) (.type "BaseException") = some true) &&
  (PySem.W.hasDictIn K C && (He.eqO (PySem.W.findIn K (.ref C) "__class__") (some (some (.builtin "object.__class__"))) && (He.eqO (PySem.W.specialIn K (.builtin "object.__class__") "__get__") (some (some (.builtin "getset_descriptor.__get__"))) &&
  (decide (PySem.W.takesIn K (.builtin "object.__class__") = some true) && (decide (PySem.W.mroIn K C (.type "object") = some true) && (PySem.W.excIn K C He.veBase "ValueError.__new__" && (PySem.W.keepIn K (.ref C) && (decide (PySem.W.typeIn K (.ref C) = some (.type "type")) &&
  decide (PySem.W.kitOne K (.ref C) (.type "ValueError") = some true)))))))))))
def exP (K : PySem.W.Frag) (x y : Addr) (b : Bool) : Bool := decide (PySem.W.exmOne K (.ref x) (.ref y) = some b) && decide (PySem.W.kitOne K (.ref x) (.ref y) = some b)
def exOk (ns : List Str) (r : Nat) (K : PySem.W.Frag) : Bool := (List.range r).all fun x => exB K (clOf K ns x) && (List.range ns.length).all fun k => exP K (clOf K ns x) (clOf K ns k) (Nat.beq x k)
def subN (r m x k : Nat) : Option Bool := match Nat.blt x r with
  | true => (match Nat.blt k m with
    | true => some (Nat.beq x k)
    | false => none)
  | false => none
def tqN (r x : Nat) (t : Ty) : Option Bool := match Nat.blt x r with
  | true => (match t with
    | .ve => some true
    | _ => none)
  | false => none
section
variable {K : PySem.W.Frag} {ns : List Str} {r : Nat} {mg : Str → Option Value}
theorem exOk_B (h : exOk ns r K = true) {x : Nat} (hx : x < r) : exB K (clOf K ns x) = true := by
  unfold exOk at h
  rw [List.all_eq_true] at h
  exact (He.ba (h x (List.mem_range.mpr hx))).1
theorem exOk_P (h : exOk ns r K = true) {x k : Nat} (hx : x < r) (hk : k < ns.length) : exP K (clOf K ns x) (clOf K ns k) (Nat.beq x k) = true := by
  unfold exOk at h
  rw [List.all_eq_true] at h
  have := (He.ba (h x (List.mem_range.mpr hx))).2
  rw [List.all_eq_true] at this
  exact this k (List.mem_range.mpr hk)
theorem subN_some {m x k : Nat} {b : Bool} (h : subN r m x k = some b) : x < r ∧ k < m ∧ b = Nat.beq x k := by
  unfold subN at h
  split at h <;> try (cases h; done)
  rename_i e
  split at h <;> try (cases h; done)
  rename_i e2
  exact ⟨blt_lt e, blt_lt e2, (Option.some.inj h).symm⟩
theorem exT_of (h : exOk ns r K = true) : ExT K (clOf K ns) (subN r ns.length) (tqN r) where
  exm := fun x k b e => by
    obtain ⟨h1, h2, rfl⟩ := subN_some e
    exact of_decide_eq_true (He.ba (exOk_P h h1 h2)).1
  kit := fun x k b e => by
    obtain ⟨h1, h2, rfl⟩ := subN_some e
    exact of_decide_eq_true (He.ba (exOk_P h h1 h2)).2
  kty := fun x t b e => by
    unfold tqN at e
    split at e <;> try (cases e; done)
    rename_i e1
    split at e <;> try (cases e; done)
    cases e
    have c := exOk_B h (blt_lt e1)
    exact of_decide_eq_true (He.ba (He.ba (He.ba (He.ba (He.ba (He.ba (He.ba (He.ba (He.ba (He.ba (He.ba c).2).2).2).2).2).2).2).2).2).2).2
  ec := fun x b e => by
    obtain ⟨h1, _, _⟩ := subN_some e
    have c := exOk_B h h1
    obtain ⟨c1, c⟩ := He.ba c
    obtain ⟨c2, c⟩ := He.ba c
    obtain ⟨c3, c⟩ := He.ba c
    obtain ⟨c4, c⟩ := He.ba c
    obtain ⟨c5, c⟩ := He.ba c
    obtain ⟨c6, c⟩ := He.ba c
    obtain ⟨c7, c⟩ := He.ba c
    obtain ⟨c8, c⟩ := He.ba c
    exact ⟨He.eqO_ok c1, He.eqO_ok c2, of_decide_eq_true c3, c4, He.eqO_ok c5, He.eqO_ok c6, of_decide_eq_true c7, of_decide_eq_true c8⟩
theorem exK_of (h : exOk ns r K = true) {k : Nat} {x : Str} (hk : k < r) (gC : mg x = some (.ref (clOf K ns k))) : ExK K mg (clOf K ns) k x := by
  have c := exOk_B h hk
  obtain ⟨c1, c⟩ := He.ba c
  obtain ⟨c2, c⟩ := He.ba c
  obtain ⟨c3, c⟩ := He.ba c
  obtain ⟨c4, c⟩ := He.ba c
  obtain ⟨c5, c⟩ := He.ba c
  obtain ⟨c6, c⟩ := He.ba c
  obtain ⟨c7, c⟩ := He.ba c
  obtain ⟨c8, c⟩ := He.ba c
  obtain ⟨c9, c⟩ := He.ba c
  obtain ⟨c10, c⟩ := He.ba c
  obtain ⟨c11, c12⟩ := He.ba c
  exact ⟨gC, ⟨_, _, _, _, PySem.F.excBase_ValueError, c9⟩, c10, of_decide_eq_true c3, of_decide_eq_true c11⟩
end
/-! ### level 0; the law's run -/
theorem fok0 {K : PySem.W.Frag} {cl : Nat → Addr} {P : Program} {w : World} {mg : Str → Option Value} {base : Heap} {Φ : Fn} {k fid : Nat} {f : Addr} {fd : FuncData} {ps : List Str} (h : ∀ xs st k ex, ¬ Φ fid xs st k ex) : FOk K cl P w mg base Φ k fid f fd ps :=
  ⟨fun xs st k ex q => (h xs st k ex q).elim, ⟨fun vs H Q E ⟨_, _, _, _, _, _, _, q, _⟩ => (h _ _ _ _ q).elim, fun A outer s H args us vs Q E _ _ _ _ ⟨_, _, _, _, _, _, _, q, _⟩ => (h _ _ _ _ q).elim⟩⟩
def g00 : Gh := ⟨0, fun _ => 0, fun _ => False, fun _ => False⟩
theorem ok00 {K : PySem.W.Frag} {cl : Nat → Addr} {H : Hp} : StOk K cl g00 H ⟨0, []⟩ :=
  ⟨rfl, (fun n o e => nomatch e), (fun n m o o' e => nomatch e), (fun a h => False.elim h), (fun n o e => nomatch e), (fun a h => False.elim h), fun a h => False.elim h⟩
/-- the law's promise -/
theorem sp_law {K : PySem.W.Frag} {cl : Nat → Addr} {Φ : Fn} {fid : Nat} (h : ∀ ns : List Int, Φ fid [.fz ns] ⟨0, []⟩ (fun v _ => v = .bl true) fun _ _ => False) (H : Hp) (a : Addr) (ns : List Int) (hO : Only H) (hS : SqL K H a (ns.map V.int)) : spOf K cl Φ fid [.ref a] H (fun v _ => v = .bl true) fun _ _ _ => False := by
  have hz : Fz K H a (ns.map V.int) := by
    rcases hS with (h | ⟨o, h⟩) | h
    · rcases hO a with e | ⟨o, xs, e⟩
      · rw [e] at h; cases h
      · rw [e] at h; cases h
    · exact .inl ⟨o, h⟩
    · exact .inr h
  refine ⟨g00, ⟨0, []⟩, [.fz ns], _, _, ok00, .cons (.fz hz) .nil, h ns, fun x st' g' H' v e f ok r => ?_, fun _ _ _ _ z => z.elim⟩
  subst e
  cases r
  rfl
theorem cx_none {P : Program} {w : World} (H : Hp) (s : Shared) (e : Value) (s' : Shared) (h : L2.CX P w [] H s (fun _ _ _ => False) e s') : False := by
  obtain ⟨_, _, _, _, _, _, _, _, _, _, _, _, z⟩ := h
  exact z
/-- some world's -/
def CXw (P : Program) : CXT := fun o H s E e s' => ∃ w, L2.CX P w o H s E e s'
theorem cxw_none {P : Program} (H : Hp) (s : Shared) (e : Value) (s' : Shared) (h : CXw P [] H s (fun _ _ _ => False) e s') : False := by
  obtain ⟨w, h⟩ := h
  exact cx_none H s e s' h
theorem fn_cxw {P : Program} {w : World} {K : PySem.W.Frag} {mg : Str → Option Value} {base : Heap} {k : Nat} {f : Addr} {fd : FuncData} {ps : List Str} {sp : Sp} (F : FnOk P w K mg base (L2.CX P w) k f fd ps sp) : FnOk P w K mg base (CXw P) k f fd ps sp :=
  ⟨F.len, fun A outer s H args us vs Q E hr he hb hv hs => codeAny_mono (F.run A outer s H args us vs Q E hr he hb hv hs) fun r s' z => by
    cases r with
    | ok f => cases f <;> exact z
    | error e => exact ⟨w, z⟩⟩
/-! ### stores of constants, of captured names -/
theorem sw_fold {env : Env} {ts vs : List Expr} {kt k2 : Nat} {pt p2 : Pos} (h2 : vs.all (foldedForSure 8) = true) : swappedStores [.Tuple ts kt pt] (.Tuple vs k2 p2) env = pure none := by
  unfold swappedStores
  simp only [h2, if_true]
  repeat' split
  all_goals rfl
end RS
namespace RS
open PySem PySem.Spec L2
theorem kpick_of {K : PySem.W.Frag} {x qual : Str} {params : Arguments} {body : List Stmt} {scope : Scope} {f : Addr} {fd : FuncData} {ps ks : List Str} {n : Nat} {pk : List Nat} (F : FunD K x qual params body scope [] [] f fd)
    (h : ∀ (kV doc pm : Value) (an : Option Addr) (cdv ct : Value) (us ws : List Value), us.length = n → ws.length = ks.length → bindArgs (PySem.W.fnOf x qual params body scope .none kV doc pm an cdv ct) ⟨us, ks.zip ws⟩ = pure (ps.zip (L2.pick pk (us ++ ws)))) : KPick fd ps n ks pk := fun s us ws h1 h2 => by
  obtain ⟨oc, od, dV, kV, doc, pm, an, cdv, ct, osl, rfl, lk, hcd, hD, hK⟩ := F.ex
  rcases hD with ⟨_, rfl⟩ | ⟨e, _⟩
  · exact .of_eq (h kV doc pm an cdv ct us ws h1 h2)
  · exact absurd rfl e
/-- the wanted answer -/
def yes : G → Prop
  | .bl b => match b with
    | true => True
    | false => False
  | _ => False
theorem yes_eq {v : G} (h : yes v) : v = .bl true := by
  cases v <;> try exact h.elim
  rename_i b
  cases b with
  | true => rfl
  | false => exact h.elim
theorem sp_law2 {K : PySem.W.Frag} {cl : Nat → Addr} {Φ : Fn} {fid : Nat} (h : ∀ ns : List Int, Φ fid [.fz ns] ⟨0, []⟩ (fun v _ => yes v) fun _ _ => False) (H : Hp) (a : Addr) (ns : List Int) (hO : Only H) (hS : SqL K H a (ns.map V.int)) : spOf K cl Φ fid [.ref a] H (fun v _ => v = .bl true) fun _ _ _ => False := by
  have hz : Fz K H a (ns.map V.int) := by
    rcases hS with (h | ⟨o, h⟩) | h
    · rcases hO a with e | ⟨o, xs, e⟩
      · rw [e] at h; cases h
      · rw [e] at h; cases h
    · exact .inl ⟨o, h⟩
    · exact .inr h
  refine ⟨g00, ⟨0, []⟩, [.fz ns], _, _, ok00, .cons (.fz hz) .nil, h ns, fun x st' g' H' v e f ok r => ?_, fun _ _ _ _ z => z.elim⟩
  rw [yes_eq e] at r
  cases r
  rfl
end RS

/-! RSE: dicts whose keys are int tuples; starred items; slices turned. -/
namespace RS
open PySem PySem.Spec L2
/-! ### keys -/
def eqIs : List Int → List Int → Bool
  | [], [] => true
  | a :: r, b :: s => (match PySem.W.Z.eqB a b with
    | true => eqIs r s
    | false => false)
  | [], _ :: _ => false
  | _ :: _, [] => false
theorem eqIs_dec : ∀ a b : List Int, eqIs a b = decide (a = b)
  | [], [] => rfl
  | [], _ :: _ => rfl
  | _ :: _, [] => rfl
  | x :: r, y :: s => by
    unfold eqIs
    rw [eqB_dec, eqIs_dec r s]
    by_cases h : x = y
    · simp [h]
    · simp [h]
def keyG (x : G) : Option (List Int) := match x with
  | .sq l xs => (match l with
    | true => none
    | false => intsG xs)
  | _ => none
abbrev DL := List (List Int × G)
def getT : DL → List Int → Option G
  | [], _ => none
  | p :: r, k => match eqIs p.1 k with
    | true => some p.2
    | false => getT r k
def putT : DL → List Int → G → DL
  | [], k, y => [(k, y)]
  | p :: r, k, y => match eqIs p.1 k with
    | true => (p.1, y) :: r
    | false => p :: putT r k y
def fputT : DL → List Int → G → (DL → Prop) → Prop
  | [], k, y, c => c [(k, y)]
  | p :: r, k, y, c => match eqIs p.1 k with
    | true => c ((p.1, y) :: r)
    | false => fputT r k y fun r' => c (p :: r')
theorem fputT_eq : ∀ (d : DL) (k : List Int) (y : G) (c : DL → Prop), fputT d k y c = c (putT d k y)
  | [], _, _, _ => rfl
  | p :: r, k, y, c => by
    unfold fputT putT
    cases eqIs p.1 k with
    | true => rfl
    | false => exact fputT_eq r k y fun r' => c (p :: r')
theorem putT_len : ∀ (d : DL) (k : List Int) (y : G), (putT d k y).length ≤ d.length + 1
  | [], _, _ => Nat.le_refl _
  | p :: r, k, y => by
    unfold putT
    cases eqIs p.1 k with
    | true => exact Nat.le_succ _
    | false => exact Nat.succ_le_succ (putT_len r k y)
theorem putT_keys : ∀ (d : DL) (k : List Int) (y : G), ((putT d k y).map (·.1) = d.map (·.1) ∧ k ∈ d.map (·.1)) ∨ ((putT d k y).map (·.1) = d.map (·.1) ++ [k] ∧ k ∉ d.map (·.1))
  | [], k, y => .inr ⟨rfl, by simp⟩
  | p :: r, k, y => by
    unfold putT
    rw [eqIs_dec]
    by_cases h : p.1 = k
    · rw [decide_eq_true h]
      exact .inl ⟨rfl, by simp [h]⟩
    · rw [decide_eq_false h]
      rcases putT_keys r k y with ⟨e, m⟩ | ⟨e, m⟩
      · exact .inl ⟨by show _ :: _ = _; rw [e]; rfl, List.mem_cons_of_mem _ m⟩
      · exact .inr ⟨by show _ :: _ = _; rw [e]; rfl, fun z => (List.mem_cons.mp z).elim (fun q => h q.symm) m⟩
theorem putT_nd {d : DL} {k : List Int} {y : G} (h : (d.map (·.1)).Nodup) : ((putT d k y).map (·.1)).Nodup := by
  rcases putT_keys d k y with ⟨e, _⟩ | ⟨e, m⟩
  · rw [e]; exact h
  · rw [e]
    exact List.nodup_append.mpr ⟨h, by simp, fun a ha b hb z => m (by rw [← List.mem_singleton.mp hb, ← z]; exact ha)⟩
section
variable {K : PySem.W.Frag} {cl : Nat → Addr} {g : Gh} {H : Hp}
theorem RpX.keys {d : DL} {xs : RSK.DX} (r : RpX K cl g H d xs) : d.map (·.1) = xs.map (·.1) := by
  induction r with
  | nil => rfl
  | cons h t ih => rw [List.map_cons, List.map_cons, ih, h.1]
theorem atKey_cons (x : List Int × Addr × Value) (xs : RSK.DX) (k : List Int) : atKey (x :: xs) k = if x.1 = k then some x.2 else atKey xs k := by
  unfold atKey
  rw [List.find?_cons]
  by_cases h : x.1 = k
  · simp [h]
  · simp [h]
theorem RpX.get {d : DL} {xs : RSK.DX} (r : RpX K cl g H d xs) (k : List Int) : (∀ y, getT d k = some y → ∃ q, atKey xs k = some q ∧ ∃ v, RelV v q.2 ∧ Rp K cl g H y v) ∧ (getT d k = none → atKey xs k = none) := by
  induction r with
  | nil => exact ⟨fun y e => (nomatch e), fun _ => rfl⟩
  | @cons p q ps qs h t ih =>
    rw [atKey_cons]
    unfold getT
    rw [eqIs_dec]
    by_cases e : p.1 = k
    · rw [decide_eq_true e, if_pos (h.1.symm.trans e)]
      refine ⟨fun y z => ?_, fun z => nomatch z⟩
      cases z
      exact ⟨_, rfl, h.2.2⟩
    · rw [decide_eq_false e, if_neg fun z => e (h.1.trans z)]
      exact ih
theorem storedH_cons (x : List Int × Addr × Value) (xs : RSK.DX) (k : List Int) (b : Addr) (u : Value) (nd : ((x :: xs).map (·.1)).Nodup) : storedH (x :: xs) k b u = if x.1 = k then (x.1, x.2.1, u) :: xs else x :: storedH xs k b u := by
  unfold storedH
  rw [atKey_cons]
  by_cases h : x.1 = k
  · rw [if_pos h, if_pos h, if_pos (show (some x.snd).isSome = true from rfl), List.map_cons]
    have e : xs.map (putAt k u) = xs := by
      refine (List.map_congr_left fun y hy => ?_).trans (List.map_id xs)
      unfold putAt
      refine if_neg fun z => ?_
      exact (List.nodup_cons.mp nd).1 (List.mem_map.mpr ⟨y, hy, z.trans h.symm⟩)
    rw [e]
    unfold putAt
    rw [if_pos h]
  · rw [if_neg h, if_neg h]
    by_cases z : (atKey xs k).isSome = true
    · rw [if_pos z, if_pos z, List.map_cons]
      unfold putAt
      rw [if_neg h]
    · rw [if_neg z, if_neg z]; rfl
theorem RpX.put {d : DL} {xs : RSK.DX} (r : RpX K cl g H d xs) {k : List Int} {b : Addr} {y : G} {v : V} {u : Value} (tb : Tp K H b (k.map V.int)) (rv : RelV v u) (ry : Rp K cl g H y v) (nd : (xs.map (·.1)).Nodup) : RpX K cl g H (putT d k y) (storedH xs k b u) := by
  induction r with
  | nil => exact .cons ⟨rfl, tb, v, rv, ry⟩ .nil
  | @cons p q ps qs h t ih =>
    rw [storedH_cons _ _ _ _ _ nd]
    unfold putT
    rw [eqIs_dec]
    by_cases e : p.1 = k
    · rw [decide_eq_true e, if_pos (h.1.symm.trans e)]
      exact .cons ⟨h.1, h.2.1, v, rv, ry⟩ t
    · rw [decide_eq_false e, if_neg fun z => e (h.1.trans z)]
      exact .cons h (ih (List.nodup_cons.mp nd).2)
end
section
variable {c : Cf} {g : Gh} {H : Hp} {st : Sto}
theorem keyG_rp {x : G} {v : V} {k : List Int} (r : c.Rp g H x v) (e : keyG x = some k) : ∃ b, v = .ref b ∧ Tp c.K H b (k.map V.int) := by
  cases r <;> try (cases e; done)
  case tup a xs vs h q =>
    have z := intsG_rp q (show intsG xs = some k from e)
    subst z
    exact ⟨a, rfl, h⟩
def dictO : Option O → Option DL
  | some (.dT d) => some d
  | _ => none
theorem dictO_some {o : Option O} {d : DL} (e : dictO o = some d) : o = some (.dT d) := by
  cases o with
  | none => cases e
  | some o => cases o <;> first | (cases e; rfl) | cases e
theorem obj_dx (ok : c.Ok g H st) {n : Nat} {x : V} (r : c.Rp g H (.ref n) x) {d : DL} (e : dictO (getO st.ob n) = some d) : ∃ xs, x = .ref (g.at_ n) ∧ RSK.DxAt c.K H (g.at_ n) xs ∧ RpX c.K c.cl g H d xs ∧ d.length < sizeLine := by
  cases r
  obtain ⟨_, _, h, h3, xs, rfl, nd, z, q⟩ := ok.ob n _ (dictO_some e)
  refine ⟨xs, rfl, ⟨h3, fun x hx => ?_, ?_, ?_⟩, q, z⟩
  · obtain ⟨j, hj⟩ := List.getElem?_of_mem hx
    obtain ⟨p, _, e1, t, _⟩ := RSK.pget2 q hj
    rw [← e1]; exact t.sq
  · have := RpX.keys q
    rw [← this]; exact nd
  · rw [← Paired.length q]; exact z
/-! ### reading -/
def getD (d : DL) (y : G) (st : Sto) (k : KG) : Prop := match keyG y with
  | some q => (match getT d q with
    | some z => k z st
    | none => False)
  | none => False
/-- x[y], x a list, a tuple or a dict of int tuples -/
def oIxD : Op2 := fun a b st k => match b with
  | .int i => oIx a (.int i) st k
  | .sq l ys => (match a with
    | .ref n => (match dictO (getO st.ob n) with
      | some d => getD d (.sq l ys) st k
      | none => False)
    | _ => False)
  | _ => False
def rIxD' (K : PySem.W.Frag) : R2 := fun x y H Q => ∃ a b xs k q v, x = .ref a ∧ y = .ref b ∧ RSK.DxAt K H a xs ∧ SqT K H b (k.map V.int) ∧ atKey xs k = some q ∧ RelV v q.2 ∧ Q v H
end
end RS
namespace L2
open PySem PySem.Spec PyProof.Rows
theorem ix_dx {X : Cx} (hu : X.A.units + 1 < cLine) : IxR X (RS.rIxD' X.K) := by
  intro value slice pins s σ H x y v u Q I rx ry ⟨a, b, xs, k, q, z, ex, ey, d, tb, hq, rz, hQ⟩ hs
  subst ex ey
  cases rx
  cases ry
  exact tail_any (RSK.dx_type I d).1 PySem.F.slot_dict_getitem.lookup (wpAny_getItem_heap (tupleKind_room_in1 hu) (RSK.key_sq I tb) (RSK.dx_of I d).2 hq ⟨z, H, I.tok _, rz, hQ⟩) hs
end L2
namespace RS
open PySem PySem.Spec L2
section
variable {c : Cf} {g : Gh} {H : Hp} {st : Sto} {a b : Expr} {ea eb : Ev} {pos : Pos}
theorem o_ixL {X : Cx} (hX : At c X) : O2 c oIx (fun x y H Q => rIxL c.K x y H Q ∨ rIxT c.K x y H Q) := fun a b st k g H x y Q ok ra rb h hk => by
  cases b <;> try exact h.elim
  rename_i i
  cases rb
  have h : (match seqA st a with
    | some xs => (match nthG xs i with
      | some y => k y st
      | none => False)
    | none => False) := h
  split at h <;> try exact h.elim
  rename_i xs e
  split at h <;> try exact h.elim
  rename_i y e1
  obtain ⟨p, vs, rfl, hp, r⟩ := seqA_rp ok ra e
  obtain ⟨v, e2, rv⟩ := nth_rp r e1
  rcases hp with hp | hp
  · exact .inl ⟨p, vs, i, v, rfl, rfl, hp, e2, hk _ _ _ _ _ h ⟨.refl, ok⟩ rv⟩
  · exact .inr ⟨p, vs, i, v, rfl, rfl, hp, e2, hk _ _ _ _ _ h ⟨.refl, ok⟩ rv⟩
theorem v_ixD (ha : EE c a ea) (hb : EE c b eb) (hs : PlainIx b := by intro _ _; rfl) : EE c (.Subscript a b pos) (eBin oIxD ea eb) := fun X hX W tk => by
  have old := o_ixL hX
  have hu := hX.units
  have hA := ha X hX W tk
  have hB := hb X hX W tk
  obtain ⟨cl, n, cm, fr, fk, px, rfl⟩ := hX.eq
  refine (pe_ix (ix_list.or (ix_tup.or (ix_dx (by omega)))) hA hB hs).imp fun _ _ _ q => bin_tE (X := X) (fun a b st k g H x y Q ok ra rb h hk => ?_) q
  cases b <;> try exact h.elim
  case int i =>
    rcases old _ _ _ _ _ _ _ _ _ ok ra rb (show oIx a (.int i) st k from h) hk with h | h
    · exact .inl h
    · exact .inr (.inl h)
  case sq l ys =>
    cases a <;> try exact h.elim
    rename_i m
    have h : (match dictO (getO st.ob m) with
      | some d => getD d (.sq l ys) st k
      | none => False) := h
    cases e : dictO (getO st.ob m) with
    | none => simp only [e] at h
    | some d =>
      simp only [e] at h
      unfold getD at h
      cases e1 : keyG (.sq l ys) with
      | none => simp only [e1] at h
      | some q =>
        simp only [e1] at h
        cases e2 : getT d q with
        | none => simp only [e2] at h
        | some z =>
          simp only [e2] at h
          obtain ⟨xs, rfl, dx, rx, _⟩ := obj_dx ok ra e
          obtain ⟨b, rfl, tb⟩ := keyG_rp rb e1
          obtain ⟨w, h1, v, h2, h3⟩ := (rx.get q).1 z e2
          exact .inr (.inr ⟨_, b, xs, q, w, v, rfl, rfl, dx, tb.sq, h1, h2, hk _ _ _ _ _ h ⟨.refl, ok⟩ h3⟩)
end
end RS

/-! RSY: dicts made, written, sorted; starred items; lists turned. -/
namespace RS
open PySem PySem.Spec L2
section
variable {c : Cf} {a b o i e f : Expr} {ea eb ef : Ev} {pos : Pos} {es : List Expr} {ra : EvA}
/-- {} -/
def eDNew : Ev := fun _ st k _ => fAdd st (.dT []) k
theorem new_dx {g : Gh} {H : Hp} {st : Sto} {p : Addr} {d : DL} {xs : RSK.DX} (ok : c.Ok g H st) (nd : (d.map (·.1)).Nodup) (hz : d.length < sizeLine) (r : RpX c.K c.cl g H d xs) (hp : H p = none) : Nw c g H (st.add (.dT d)) (g.add p) (upd H p (RSK.dxO p xs)) ∧ c.Rp (g.add p) (upd H p (RSK.dxO p xs)) (.ref st.sz) (.ref p) :=
  new_obj ok ⟨xs, rfl, nd, hz, RpX.futR (Fut.add hp).toFutR r⟩ hp
theorem v_dnew : EE c (.Dict [] [] pos) eDNew := fun X hX W tk => by
  obtain ⟨cl, n, cm, fr, fk, px, rfl⟩ := hX.eq
  refine RSK.pe_dnewI.imp fun σ H Q q => ?_
  obtain ⟨g, l, st, k, ex, bs, h, hk, hx⟩ := q
  unfold eDNew at h
  rw [fAdd_eq] at h
  intro p hp
  obtain ⟨n2, r2⟩ := new_dx (c := cfOf X cl n cm fr fk px) (d := []) (xs := []) bs.ok List.nodup_nil (by rw [sizeLine_eq]; decide) .nil hp
  exact hk _ _ _ _ _ h n2 r2
/-- d.get(y, z) -/
def getD2 (d : DL) (y z : G) (st : Sto) (k : KG) : Prop := match keyG y with
  | some q => (match getT d q with
    | some v => k v st
    | none => k z st)
  | none => False
def eGet2 (a b f : Ev) : Ev := fun l st k ex => a l st (fun x st1 => match x with
  | .ref n => (match dictO (getO st1.ob n) with
    | some _ => b l st1 (fun y st2 => f l st2 (fun z st3 => match dictO (getO st3.ob n) with
      | some d => getD2 d y z st3 k
      | none => False) ex) ex
    | none => False)
  | _ => False) ex
def M2B (o : Expr) (m : Str) (apos : Pos) (e f : Expr) (cpos : Pos) : Prop := ∀ X : Cx, M2 X o m apos e f cpos
theorem v_get2 {apos cpos : Pos} (ha : EE c o ea) (hb : EE c e eb) (hf : EE c f ef) (m : ∀ X : Cx, M2 X o "get" apos e f cpos) : EE c (.Call (.Attribute o "get" apos) [e, f] [] cpos) (eGet2 ea eb ef) := fun X hX W tk => by
  have hu := hX.units
  have hA := ha X hX W tk
  have hB := hb X hX W tk
  have hF := hf X hX W tk
  obtain ⟨cl, n, cm, fr, fk, px, rfl⟩ := hX.eq
  refine (RSK.pe_dget2I (by omega) hA hB hF (m X)).imp fun σ H Q q => ?_
  obtain ⟨g, l, st, k, ex, bs, h, hk, hx⟩ := q
  refine ⟨g, l, st, _, ex, bs, h, fun x st1 g1 H1 v h1 n1 r1 => ?_, hx⟩
  cases x <;> try exact h1.elim
  rename_i j
  have h1 : (match dictO (getO st1.ob j) with
    | some _ => eb l st1 (fun y st2 => ef l st2 (fun z st3 => match dictO (getO st3.ob j) with
      | some d => getD2 d y z st3 k
      | none => False) ex) ex
    | none => False) := h1
  cases e0 : dictO (getO st1.ob j) with
  | none => simp only [e0] at h1
  | some d0 =>
    simp only [e0] at h1
    obtain ⟨xs0, rfl, dx0, _, _⟩ := obj_dx n1.ok r1 e0
    refine ⟨_, xs0, rfl, dx0, ?_⟩
    refine ⟨g1, l, st1, _, ex, bs.nw n1, h1, fun y st2 g2 H2 w h2 n2 r2 => ?_, hx.fut n1.f⟩
    refine ⟨g2, l, st2, _, ex, bs.nw (n1.trans n2), h2, fun z st3 g3 H3 u h3 n3 r3 => ?_, hx.fut (n1.f.trans n2.f)⟩
    have n13 := n1.trans (n2.trans n3)
    cases e3 : dictO (getO st3.ob j) with
    | none => simp only [e3] at h3
    | some d =>
      simp only [e3] at h3
      obtain ⟨xs, ex3, dx, rx, _⟩ := obj_dx n3.ok (r1.fut (n2.f.trans n3.f)) e3
      unfold getD2 at h3
      cases e1 : keyG y with
      | none => simp only [e1] at h3
      | some q =>
        simp only [e1] at h3
        obtain ⟨b, rfl, tb⟩ := keyG_rp (r2.fut n3.f) e1
        have eq := V.ref.inj ex3
        rw [← eq] at dx
        refine ⟨b, xs, q, rfl, dx, tb.sq, ?_⟩
        cases e2 : getT d q with
        | none =>
          simp only [e2] at h3
          have hn := (rx.get q).2 e2
          exact ⟨fun w hw => (by rw [hn] at hw; cases hw), fun _ => hk _ _ _ _ _ h3 n13 r3⟩
        | some y2 =>
          simp only [e2] at h3
          obtain ⟨w, h5, v, h6, h7⟩ := (rx.get q).1 y2 e2
          refine ⟨fun w' hw => ?_, fun hn => by rw [h5] at hn; cases hn⟩
          rw [h5] at hw
          cases hw
          exact ⟨v, h6, hk _ _ _ _ _ h3 n13 h7⟩
/-! ### stores -/
def setD (v w y : G) (st : Sto) (k : Sto → Prop) : Prop := match w with
  | .int i => setO v (.int i) y st k
  | .sq l ys => (match v with
    | .ref n => (match dictO (getO st.ob n) with
      | some d => (match keyG (.sq l ys) with
        | some q => ck (Nat.blt d.length 10000) (fputT d q y fun d' => fPut st n (.dT d') k)
        | none => False)
      | none => False)
    | _ => False)
  | _ => False
def gSetD (eo ei : Ev) : EvG := fun y l st k => eo l st (fun v st1 => ei l st1 (fun w st2 => setD v w y st2 fun st3 => k l st3) fun _ _ => False) fun _ _ => False
theorem put_dx {g : Gh} {H : Hp} {st : Sto} {n : Nat} {d d' : DL} {xs xs' : RSK.DX} (ok : c.Ok g H st) (e : getO st.ob n = some (.dT d)) (hp : H (g.at_ n) = some (RSK.dxO (g.at_ n) xs)) (nd : (d'.map (·.1)).Nodup) (hz : d'.length < sizeLine) (r : RpX c.K c.cl g H d' xs') :
    Nw c g H (st.put n (.dT d')) g (upd H (g.at_ n) (RSK.dxO (g.at_ n) xs')) := by
  have f : Fut g H g (upd H (g.at_ n) (RSK.dxO (g.at_ n) xs')) := Fut.write ok e hp trivial
  exact ⟨f, ok.write e hp trivial ⟨xs', rfl, nd, hz, RpX.futR f.toFutR r⟩⟩
theorem set_or {X : Cx} {t t' : TSet} (h : PSet X t) (h' : PSet X t') : PSet X (fun o i v H Q => t o i v H Q ∨ t' o i v H Q) := fun pins s σ H o i v ov iv u Q I ro ri rv q => q.elim (h pins s σ H o i v ov iv u Q I ro ri rv) (h' pins s σ H o i v ov iv u Q I ro ri rv)
theorem g_setD (ho : EE c o ea) (hi : EE c i eb)
    (ha : ∀ env v, assign (.Subscript o i pos) env v = (do
      let ov ← holding [v] (eval o env)
      let iv ← holding [v, ov] (eval i env)
      standAt pos
      holding [v, ov, iv] (setItem ov iv v)
      release [v, ov, iv] []) := by intro _ _; rfl) : EG c (.Subscript o i pos) [] (gSetD ea eb) := fun X hX => by
  have hu := hX.units
  have hO := ho X hX W0 takes0
  have hI := hi X hX W0 takes0
  obtain ⟨cl, n, cm, fr, fk, px, rfl⟩ := hX.eq
  refine (pg_sub hO hI (set_or set_list (RSK.set_dx (by omega))) (ha _)).imp fun v σ H Q q => ?_
  obtain ⟨g, l, st, y, k, b, r, h1, hk⟩ := q
  refine ⟨g, l, st, _, _, b, h1, fun x st1 g1 H1 u h2 n1 r1 => ?_, fun _ _ _ _ _ _ z => z.elim⟩
  refine ⟨g1, l, st1, _, _, b.nw n1, h2, fun w st2 g2 H2 u2 h3 n2 r2 => ?_, fun _ _ _ _ _ _ z => z.elim⟩
  have n12 := n1.trans n2
  cases w <;> try exact h3.elim
  case int j =>
    have h3 : setO x (.int j) y st2 (fun st3 => k l st3) := h3
    obtain ⟨m, j, xs, jj, rfl, e0, e, e2, h3⟩ := setO_some h3
    cases e0
    cases r2
    obtain ⟨vs, rfl, hp, r3⟩ := obj_lst n2.ok (r1.fut n2.f) rfl e
    refine .inl ⟨_, vs, j, jj, rfl, rfl, hp, by rw [← r3.length]; exact ixG_ixN e2, ?_⟩
    have n3 := put_lst (c := cfOf X cl n cm fr fk px) n2.ok e hp (r3.set (r.fut n12.f) jj)
    have n13 := n12.trans n3
    exact hk _ _ _ _ _ h3 n13.f (b.nw n13) ⟨rfl, fun _ _ => rfl⟩
  case sq t ys =>
    cases x <;> try exact h3.elim
    rename_i m
    have h3 : (match dictO (getO st2.ob m) with
      | some d => (match keyG (.sq t ys) with
        | some q => ck (Nat.blt d.length 10000) (fputT d q y fun d' => fPut st2 m (.dT d') fun st3 => k l st3)
        | none => False)
      | none => False) := h3
    cases e : dictO (getO st2.ob m) with
    | none => simp only [e] at h3
    | some d =>
      simp only [e] at h3
      cases e1 : keyG (.sq t ys) with
      | none => simp only [e1] at h3
      | some q =>
        simp only [e1] at h3
        have hz := blt_lt h3.l
        have h4 := h3.r
        rw [fputT_eq, fPut_eq] at h4
        obtain ⟨xs, rfl, dx, rx, _⟩ := obj_dx n2.ok (r1.fut n2.f) e
        obtain ⟨bb, rfl, tb⟩ := keyG_rp r2 e1
        refine .inr ⟨_, bb, xs, q, rfl, rfl, dx, tb.sq, fun uu ru => ?_⟩
        have nd : (d.map (·.1)).Nodup := by rw [rx.keys]; exact dx.nd
        have n3 := put_dx (c := cfOf X cl n cm fr fk px) n2.ok (dictO_some e) dx.at_ (putT_nd (y := y) nd) (by have := putT_len d q y; rw [sizeLine_eq]; omega) (rx.put tb ru (r.fut n12.f) dx.nd)
        have n13 := n12.trans n3
        exact hk _ _ _ _ _ h4 n13.f (b.nw n13) ⟨rfl, fun _ _ => rfl⟩
end
end RS

/-! RSZ: sorted, dict, starred items, lists turned, sums of tuples. -/
namespace L2
open PySem PySem.Spec PyProof.Rows
def rSumN (K : PySem.W.Frag) : List V → Hp → VK → Prop := fun vs H Q => ∃ (a : Addr) (ns : List Int), vs = [V.ref a] ∧ SqT K H a (ns.map V.int) ∧ Q (.int ns.sum) H
theorem cr_sumN {X : Cx} (hc : X.calm = true) : CallR X (.builtin "sum") (rSumN X.K) := by
  intro pins s σ H vs us Q I r ⟨a, ns, ex, ht, q⟩
  subst ex
  obtain ⟨its, rv, tp, _⟩ := I.tuple ht
  rw [Vals.ref1 r]
  have hi := rv.ints
  have tp : s.heap.IsTuple a its.toArray := tp
  obtain ⟨xs, hx⟩ := hi.allInts.items
  have hn : numsOf its.toArray.toList = ns := by rw [show its.toArray.toList = its from by simp, hi.numsOf]
  rw [hx] at tp hn
  rw [nums_intItems] at hn
  refine PySem.W.ktm_sumG (I.ok.hd hc) tp fun h' tk t' hk => ?_
  rw [preSum_eq, List.take_of_length_le (by simp), hn]
  exact ⟨.int _, H, I.kept hk, ⟨_, rfl⟩, q⟩
end L2
namespace RS
open PySem PySem.Spec L2
/-! ### sorted -/
def lexB : List Int → List Int → Bool
  | [], [] => false
  | [], _ :: _ => true
  | _ :: _, [] => false
  | x :: r, y :: s => (match PySem.W.Z.eqB x y with
    | true => lexB r s
    | false => PySem.W.Z.ltB x y)
theorem lexB_eq : ∀ a b : List Int, lexB a b = RSK.lexI a b
  | [], [] => rfl
  | [], _ :: _ => rfl
  | _ :: _, [] => rfl
  | x :: r, y :: s => by
    unfold lexB
    rw [eqB_dec, ltB_dec, lexB_eq r s]
    by_cases h : x = y
    · rw [decide_eq_true h]; subst h; rw [RSK.lexI_self]
    · rw [decide_eq_false h, RSK.lexI_ne h]
section
variable {α : Type} (lt : α → α → Bool)
def insB (x : α) : List α → List α
  | [] => [x]
  | y :: r => match lt y x with
    | true => y :: insB x r
    | false => x :: y :: r
def sortB : List α → List α
  | [] => []
  | x :: r => insB lt x (sortB r)
theorem insB_perm (x : α) : ∀ l, (insB lt x l).Perm (x :: l)
  | [] => .refl _
  | y :: r => by
    unfold insB
    cases lt y x with
    | true => exact ((insB_perm x r).cons y).trans (List.Perm.swap x y r)
    | false => exact .refl _
theorem sortB_perm : ∀ l, (sortB lt l).Perm l
  | [] => .refl _
  | x :: r => (insB_perm lt x (sortB lt r)).trans ((sortB_perm r).cons x)
theorem insB_asc (asym : ∀ x y, lt x y = true → lt y x = false) (tr : ∀ x y z, lt y x = false → lt z y = false → lt z x = false) (x : α) : ∀ l : List α, l.Pairwise (fun a b => lt b a = false) → (insB lt x l).Pairwise fun a b => lt b a = false
  | [], _ => List.pairwise_singleton _ _
  | y :: r, h => by
    unfold insB
    obtain ⟨h1, h2⟩ := List.pairwise_cons.mp h
    cases e : lt y x with
    | true =>
      refine List.pairwise_cons.mpr ⟨fun z hz => ?_, insB_asc asym tr x r h2⟩
      rcases List.mem_cons.mp ((insB_perm lt x r).mem_iff.mp hz) with rfl | hz
      · exact asym _ _ e
      · exact h1 z hz
    | false =>
      refine List.pairwise_cons.mpr ⟨fun z hz => ?_, h⟩
      rcases List.mem_cons.mp hz with rfl | hz
      · exact e
      · exact tr x y z e (h1 z hz)
theorem sortB_asc (asym : ∀ x y, lt x y = true → lt y x = false) (tr : ∀ x y z, lt y x = false → lt z y = false → lt z x = false) : ∀ l : List α, (sortB lt l).Pairwise fun a b => lt b a = false
  | [] => .nil
  | x :: r => insB_asc lt asym tr x _ (sortB_asc asym tr r)
theorem asc_uniqB (anti : ∀ x y, lt x y = false → lt y x = false → x = y) : ∀ {a b : List α}, a.Perm b → a.Pairwise (fun x y => lt y x = false) → b.Pairwise (fun x y => lt y x = false) → a = b
  | [], b, p, _, _ => p.nil_eq
  | x :: r, [], p, _, _ => absurd p.length_eq (by simp)
  | x :: r, y :: t, p, ha, hb => by
    have hxy : x = y := by
      rcases List.mem_cons.mp (p.mem_iff.mp List.mem_cons_self) with e | hx
      · exact e
      · rcases List.mem_cons.mp (p.mem_iff.mpr List.mem_cons_self) with e | hy
        · exact e.symm
        · exact anti x y ((List.pairwise_cons.mp hb).1 x hx) ((List.pairwise_cons.mp ha).1 y hy)
    subst hxy
    rw [asc_uniqB anti (List.Perm.cons_inv p) (List.pairwise_cons.mp ha).2 (List.pairwise_cons.mp hb).2]
end
def sortT (l : List (List Int)) : List (List Int) := sortB lexB l
theorem sortT_is {ys l : List (List Int)} (p : ys.Perm l) (a : RSK.Asc ys) : ys = sortT l := by
  have e : (lexB : List Int → List Int → Bool) = RSK.lexI := funext fun x => funext fun y => lexB_eq x y
  unfold sortT
  rw [e]
  exact RSK.asc_uniq (p.trans (sortB_perm RSK.lexI l).symm) a (sortB_asc RSK.lexI (fun x y => RSK.lexI_asym x y) (fun x y z => RSK.lexI_tr x y z) l)
def sortI (l : List Int) : List Int := sortB PySem.W.Z.ltB l
theorem ltI {x y : Int} : PySem.W.Z.ltB x y = false ↔ y ≤ x := by
  rw [ltB_dec, decide_eq_false_iff_not]; omega
theorem sortI_is {ys l : List Int} (p : ys.Perm l) (a : ys.Pairwise (· ≤ ·)) : ys = sortI l := by
  refine asc_uniqB PySem.W.Z.ltB (fun x y h1 h2 => by have := ltI.mp h1; have := ltI.mp h2; omega) (p.trans (sortB_perm _ l).symm) (a.imp fun h => ltI.mpr h) (sortB_asc _ (fun x y h => ?_) (fun x y z h1 h2 => ?_) l)
  · rw [ltB_dec] at h
    have := of_decide_eq_true h
    exact ltI.mpr (by omega)
  · have := ltI.mp h1
    have := ltI.mp h2
    exact ltI.mpr (by omega)
def keyT (k : List Int) : G := .sq false (k.map G.int)
def oSorted : OpC := fun xs st k => match xs with
  | [x] => (match x with
    | .ref n => (match dictO (getO st.ob n) with
      | some d => fL (sortT (d.map (·.1))) fun ks => fL (ks.map keyT) fun ys => k (.sq true ys) st
      | none => (match seqL st (.ref n) with
        | some ys => (match intsG ys with
          | some ns => ck (Nat.blt ns.length 64) (fL (sortI ns) fun zs => fL (zs.map G.int) fun ys => k (.sq true ys) st)
          | none => False)
        | none => False))
    | x => (match seqL st x with
      | some ys => (match intsG ys with
        | some ns => ck (Nat.blt ns.length 64) (fL (sortI ns) fun zs => fL (zs.map G.int) fun ys => k (.sq true ys) st)
        | none => False)
      | none => False))
  | _ => False
def rSortA (K : PySem.W.Frag) : List V → Hp → VK → Prop := fun xs H Q => RSK.rSortDX K xs H Q ∨ rSorted K xs H Q
section
variable {c : Cf} {g : Gh} {H : Hp} {st : Sto}
theorem keys_rp {d : DL} {xs : RSK.DX} (rx : RpX c.K c.cl g H d xs) : ∀ {bs : List Addr} {ys : List (List Int)}, Paired (fun b k => ∃ v, (k, b, v) ∈ xs) bs ys → c.RpL g H (ys.map keyT) (bs.map V.ref)
  | _, _, .nil => .nil
  | _, _, .cons (a := b) (b := k) h t => by
    obtain ⟨v, hm⟩ := h
    obtain ⟨j, hj⟩ := List.getElem?_of_mem hm
    obtain ⟨p, _, e1, tp, _⟩ := RSK.pget2 rx hj
    have e1 : p.1 = k := e1
    rw [e1] at tp
    exact .cons (.tup tp (rpl_ints k)) (keys_rp rx t)
theorem sort_ints {x : G} {v : V} {k : KG} {Q : VK} (ok : c.Ok g H st) (r : c.Rp g H x v) (h : match seqL st x with
      | some ys => (match intsG ys with
        | some ns => ck (Nat.blt ns.length 64) (fL (sortI ns) fun zs => fL (zs.map G.int) fun ys => k (.sq true ys) st)
        | none => False)
      | none => False) (hk : KeepG c g H k Q) : rSorted c.K [v] H Q := by
  cases e : seqL st x with
  | none => simp only [e] at h
  | some ys =>
    simp only [e] at h
    cases e2 : intsG ys with
    | none => simp only [e2] at h
    | some ns =>
      simp only [e2] at h
      have h64 := blt_lt h.l
      have h := h.r
      rw [fL_eq, fL_eq] at h
      obtain ⟨a, vs, rfl, h1, r1⟩ := seqL_rp ok r e
      rw [intsG_rp r1 e2] at h1
      refine ⟨a, ns, rfl, .of h1, h64, fun ys p pm pw hp => ?_⟩
      rw [sortI_is pm pw]
      obtain ⟨n2, r2⟩ := new_fix ok (rpl_ints (sortI ns)) hp
      exact hk _ _ _ _ _ h n2 r2
theorem r_sorted (hc : c.cm = true) : ∀ X, At c X → CallR X (.builtin "sorted") (rSortA X.K) ∧ OC c oSorted (rSortA X.K) := fun X hX => by
  have hu := hX.units
  have hcm := hX.calm
  obtain ⟨cl, n, cm, fr, fk, px, rfl⟩ := hX.eq
  refine ⟨(RSK.cr_sortDX (by rw [hcm]; exact hc) hu).or cr_sorted, oc1 fun x st k g H v Q ok r h hk => ?_⟩
  cases x with
  | ref m =>
    have h : (match dictO (getO st.ob m) with
      | some d => fL (sortT (d.map (·.1))) fun ks => fL (ks.map keyT) fun ys => k (.sq true ys) st
      | none => (match seqL st (.ref m) with
        | some ys => (match intsG ys with
          | some ns => ck (Nat.blt ns.length 64) (fL (sortI ns) fun zs => fL (zs.map G.int) fun ys => k (.sq true ys) st)
          | none => False)
        | none => False)) := h
    cases e : dictO (getO st.ob m) with
    | none =>
      simp only [e] at h
      exact .inr (sort_ints ok r h hk)
    | some d =>
      simp only [e] at h
      rw [fL_eq, fL_eq] at h
      obtain ⟨xs, rfl, dx, rx, _⟩ := obj_dx ok r e
      refine .inl ⟨_, xs, rfl, dx, fun bs ys p pm asc pb hp => ?_⟩
      have ek := sortT_is pm asc
      rw [← rx.keys] at ek
      obtain ⟨n2, r2⟩ := new_fix ok (keys_rp rx pb) hp
      rw [ek] at r2
      exact hk _ _ _ _ _ h n2 r2
  | _ => exact .inr (sort_ints ok r h hk)
/-! ### dict(pairs) -/
def pairG (x : G) : Option (List Int × G) := match x with
  | .sq l xs => (match l with
    | true => none
    | false => (match xs with
      | [kx, v] => (match keyG kx with
        | some q => some (q, v)
        | none => none)
      | _ => none))
  | _ => none
def pairsG : List G → Option DL
  | [] => some []
  | x :: r => (match pairG x with
    | some p => (match pairsG r with
      | some ps => some (p :: ps)
      | none => none)
    | none => none)
def fputAll : DL → DL → (DL → Prop) → Prop
  | [], d, k => k d
  | p :: r, d, k => fputT d p.1 p.2 fun d' => fputAll r d' k
def mergeT (d : DL) (ps : DL) : DL := ps.foldl (fun acc p => putT acc p.1 p.2) d
theorem fputAll_eq : ∀ (ps d : DL) (k : DL → Prop), fputAll ps d k = k (mergeT d ps)
  | [], _, _ => rfl
  | p :: r, d, k => by
    unfold fputAll
    rw [fputT_eq]
    exact fputAll_eq r (putT d p.1 p.2) k
theorem pairG_rp {x : G} {v : V} {p : List Int × G} (r : c.Rp g H x v) (e : pairG x = some p) : ∃ a b w, v = .ref a ∧ SqT c.K H a [.ref b, w] ∧ Tp c.K H b (p.1.map V.int) ∧ c.Rp g H p.2 w := by
  cases r <;> try (cases e; done)
  case tup a xs vs h q =>
    cases q with
    | nil => cases e
    | @cons kx w0 _ _ r1 q =>
      cases q with
      | nil => cases e
      | @cons vx w1 _ _ r2 q =>
        cases q with
        | cons _ _ => cases e
        | nil =>
          have e : (match keyG kx with
            | some q => some (q, vx)
            | none => none) = some p := e
          cases e1 : keyG kx with
          | none => simp only [e1] at e; cases e
          | some k =>
            simp only [e1] at e
            cases e
            obtain ⟨b, rfl, tb⟩ := keyG_rp r1 e1
            exact ⟨a, b, _, rfl, h.sq, tb, r2⟩
theorem pairs_rp : ∀ {xs : List G} {vs : List V} {ps : DL}, c.RpL g H xs vs → pairsG xs = some ps → ∃ (as : List Addr) (es : List (List Int × Addr × V)), vs = as.map V.ref ∧
    Paired (fun (p : Addr) (e : List Int × Addr × V) => SqT c.K H p [.ref e.2.1, e.2.2] ∧ SqT c.K H e.2.1 (e.1.map V.int)) as es ∧ Paired (fun (p : List Int × G) (e : List Int × Addr × V) => p.1 = e.1 ∧ Tp c.K H e.2.1 (p.1.map V.int) ∧ c.Rp g H p.2 e.2.2) ps es
  | [], _, _, .nil, e => by cases e; exact ⟨[], [], rfl, .nil, .nil⟩
  | x :: r, _, _, .cons h q, e => by
    have e : (match pairG x with
      | some p => (match pairsG r with
        | some ps => some (p :: ps)
        | none => none)
      | none => none) = some _ := e
    cases e1 : pairG x with
    | none => simp only [e1] at e; cases e
    | some p =>
      simp only [e1] at e
      cases e2 : pairsG r with
      | none => simp only [e2] at e; cases e
      | some ps =>
        simp only [e2] at e
        cases e
        obtain ⟨a, b, w, rfl, t1, t2, t3⟩ := pairG_rp h e1
        obtain ⟨as, es, e3, p1, p2⟩ := pairs_rp q e2
        exact ⟨a :: as, (p.1, b, w) :: es, by rw [e3]; rfl, .cons ⟨t1, t2.sq⟩ p1, .cons ⟨rfl, t2, t3⟩ p2⟩
theorem merge_rp : ∀ {ps : DL} {es : List (List Int × Addr × V)} {ds : RSK.DX} {d : DL} {xs : RSK.DX}, Paired (fun (p : List Int × G) (e : List Int × Addr × V) => p.1 = e.1 ∧ Tp c.K H e.2.1 (p.1.map V.int) ∧ c.Rp g H p.2 e.2.2) ps es →
    Paired (fun (e : List Int × Addr × V) (d : List Int × Addr × Value) => d.1 = e.1 ∧ d.2.1 = e.2.1 ∧ RelV e.2.2 d.2.2) es ds → RpX c.K c.cl g H d xs → (d.map (·.1)).Nodup → RpX c.K c.cl g H (mergeT d ps) (storedAllH xs ds) ∧ ((mergeT d ps).map (·.1)).Nodup ∧ (mergeT d ps).length ≤ d.length + ps.length
  | _, _, _, _, _, .nil, .nil, r, nd => ⟨r, nd, Nat.le_refl _⟩
  | _, _, _, d, xs, .cons (a := p) h1 t1, .cons (b := q) h2 t2, r, nd => by
    have h3 : Tp c.K H q.2.1 (p.1.map V.int) := by rw [h2.2.1]; exact h1.2.1
    have r' := r.put (k := p.1) (y := p.2) h3 h2.2.2 h1.2.2 (by rw [← r.keys]; exact nd)
    obtain ⟨z1, z2, z3⟩ := merge_rp t1 t2 r' (putT_nd nd)
    have e : q.1 = p.1 := h2.1.trans h1.1.symm
    refine ⟨?_, z2, ?_⟩
    · show RpX _ _ _ _ _ (storedAllH (storedH xs q.1 q.2.1 q.2.2) _)
      rw [e]; exact z1
    · refine Nat.le_trans z3 ?_
      have := putT_len d p.1 p.2
      rw [List.length_cons]; omega
def oDict : OpC := fun xs st k => match xs with
  | [x] => (match seqA st x with
    | some ys => (match pairsG ys with
      | some ps => ck (Nat.blt ps.length 10000) (fputAll ps [] fun d => fAdd st (.dT d) k)
      | none => False)
    | none => False)
  | _ => False
theorem r_dict (hc : c.cm = true) : ∀ X, At c X → CallR X (.type "dict") (RSK.rDictI X.K) ∧ OC c oDict (RSK.rDictI X.K) := fun X hX => by
  have hu := hX.units
  have hcm := hX.calm
  obtain ⟨cl, n, cm, fr, fk, px, rfl⟩ := hX.eq
  refine ⟨RSK.cr_dictI (by rw [hcm]; exact hc) hu, oc1 fun x st k g H v Q ok r h hk => ?_⟩
  cases e : seqA st x with
  | none => simp only [e] at h
  | some ys =>
    simp only [e] at h
    cases e1 : pairsG ys with
    | none => simp only [e1] at h
    | some ps =>
      simp only [e1] at h
      have hz := blt_lt h.l
      have h := h.r
      rw [fputAll_eq, fAdd_eq] at h
      have fin : ∀ {a : Addr} {vs : List V}, (SqL X.K H a vs ∨ Tp X.K H a vs) → RpL X.K cl g H ys vs → RSK.rDictI X.K [.ref a] H Q := fun {a vs} ha rl => by
        obtain ⟨as, es, e3, p1, p2⟩ := pairs_rp (c := cfOf X cl n cm fr fk px) rl e1
        subst e3
        refine ⟨a, as, es, rfl, ha, p1, ?_, fun ds pd p hp => ?_⟩
        · rw [← p2.length, sizeLine_eq]; omega
        · obtain ⟨z1, z2, z3⟩ := merge_rp (c := cfOf X cl n cm fr fk px) (d := []) (xs := []) p2 pd .nil List.nodup_nil
          obtain ⟨n2, r2⟩ := new_dx (c := cfOf X cl n cm fr fk px) ok z2 (by rw [sizeLine_eq]; rw [List.length_nil] at z3; omega) z1 hp
          exact hk _ _ _ _ _ h n2 r2
      cases r <;> try (cases e; done)
      case tup a xs vs t rl => cases e; exact fin (.inr t) rl
      case lst a xs vs f t rl => cases e; exact fin (.inl (.of t)) rl
      case ref m hm =>
        obtain ⟨vs, ev, t, rl⟩ := obj_lst ok (RS.Rp.ref m hm) rfl (listO_some e)
        exact fin (.inl (.of t)) rl
/-! ### *x -/
def aStar (a : Ev) (r : EvA) : EvA := fun l st k ex => a l st (fun x st1 => match seqA st1 x with
  | some xs => r l st1 (fun ys st2 => k (xs ++ ys) st2) ex
  | none => False) ex
theorem x_star {e : Expr} {es : List Expr} {p : Pos} {a : Ev} {r : EvA} (h1 : EE c e a) (h2 : EA c es r) (hs : ∀ env, starEach (.Starred e p :: es) env = (true, eval e env) :: starEach es env := by intro _; rfl) : EA c (.Starred e p :: es) (aStar a r) := by
  intro X hX W tk
  have hA := h1 X hX W tk
  have hB := h2 X hX W tk
  obtain ⟨cl, n, cm, fr, fk, px, rfl⟩ := hX.eq
  refine (StX.pa_star hA hB (hs _)).imp fun σ H Q q => ?_
  obtain ⟨g, l, st, k, ex, b, h, hk, hx⟩ := q
  refine ⟨g, l, st, _, ex, b, h, fun x st1 g1 H1 v h1 n1 r1 => ?_, hx⟩
  cases e : seqA st1 x with
  | none => simp only [e] at h1
  | some xs =>
    simp only [e] at h1
    obtain ⟨p, vs, rfl, hp, rl⟩ := seqA_rp n1.ok r1 e
    refine ⟨p, vs, rfl, hp.symm, g1, l, st1, _, ex, b.nw n1, h1, fun ys st2 g2 H2 us h2 n2 r2 => ?_, hx.fut n1.f⟩
    exact hk _ _ _ _ _ h2 (n1.trans n2) ((rl.fut n2.f).append r2)
/-! ### xs[::-1] -/
def eRev (a : Ev) : Ev := fun l st k ex => a l st (fun x st1 => match seqL st1 x with
  | some xs => fL xs.reverse fun ys => k (.sq true ys) st1
  | none => False) ex
theorem v_rev {e : Expr} {a : Ev} {j : Nat} {p1 p2 p3 pos : Pos} (h : EE c e a) : EE c (.Subscript e (.Slice none none (some (.UnaryOp .USub (.Constant (.int 1) j p1) p2)) p3) pos) (eRev a) := fun X hX W tk => by
  have hA := h X hX W tk
  obtain ⟨cl, n, cm, fr, fk, px, rfl⟩ := hX.eq
  refine (pe_revL hA).imp fun σ H Q q => ?_
  obtain ⟨g, l, st, k, ex, b, h, hk, hx⟩ := q
  refine ⟨g, l, st, _, ex, b, h, fun x st1 g1 H1 v h1 n1 r1 => ?_, hx⟩
  cases e : seqL st1 x with
  | none => simp only [e] at h1
  | some xs =>
    simp only [e] at h1
    rw [fL_eq] at h1
    obtain ⟨p, vs, rfl, hp, rl⟩ := seqL_rp n1.ok r1 e
    refine ⟨p, vs, rfl, .of hp, fun t ht => ?_⟩
    obtain ⟨n2, r2⟩ := new_fix n1.ok rl.reverse ht
    exact hk _ _ _ _ _ h1 (n1.trans n2) r2
/-! ### sum, of a tuple too -/
def rSumA (K : PySem.W.Frag) : List V → Hp → VK → Prop := fun xs H Q => rSum K xs H Q ∨ rSumN K xs H Q
def oSumA : OpC := fun xs st k => match xs with
  | [x] => (match seqA st x with
    | some ys => (match intsG ys with
      | some ns => fI (sumI ns) fun i => k (.int i) st
      | none => False)
    | none => False)
  | _ => False
theorem r_sumA (hc : c.cm = true) : ∀ X, At c X → CallR X (.builtin "sum") (rSumA X.K) ∧ OC c oSumA (rSumA X.K) := fun X hX => by
  have hcm := hX.calm
  obtain ⟨cl, n, cm, fr, fk, px, rfl⟩ := hX.eq
  refine ⟨(cr_sum (by rw [hcm]; exact hc)).or (cr_sumN (by rw [hcm]; exact hc)), oc1 fun x st k g H v Q ok r h hk => ?_⟩
  cases e : seqA st x with
  | none => simp only [e] at h
  | some ys =>
    simp only [e] at h
    cases e1 : intsG ys with
    | none => simp only [e1] at h
    | some ns =>
      simp only [e1] at h
      rw [fI_eq, sumI_eq] at h
      obtain ⟨a, vs, rfl, hp, rl⟩ := seqA_rp ok r e
      rw [intsG_rp rl e1] at hp
      have fin := hk _ _ _ _ _ h ⟨.refl, ok⟩ (.int _)
      rcases hp with hp | hp
      · exact .inl ⟨a, ns, rfl, hp, fin⟩
      · exact .inr ⟨a, ns, rfl, hp, fin⟩
end
end RS

/-! RSA: methods of lists, in, stores of several names. -/
namespace L2
open PySem PySem.Spec PyProof.Rows
section
variable {X : Cx}
def rInN (K : PySem.W.Frag) (f : Bool → Bool) : R2 := fun x y H Q => ∃ d ds, Dp K H x d ∧ (Dp K H y (.list ds) ∨ Dp K H y (.tuple ds)) ∧ d.canLay0 = true ∧ d.depth ≤ 60 ∧ PyData.canLayAll0 ds = true ∧ Q (.bl (f (ds.any fun z => PyData.eqv z d))) H
theorem room_min {d : PyData} {ds : List PyData} {n : Nat} (sd : d.depth ≤ 60) (hu : n + 64 < cLine) : n + 1 + min (PyData.depthAll ds) d.depth < cLine := by
  have : min (PyData.depthAll ds) d.depth ≤ d.depth := Nat.min_le_right _ _
  omega
theorem op_inN (hu : X.A.units + 64 < cLine) : OpR X (compareOp .In) (rInN X.K fun b => b) := by
  intro pins s σ H x y v u Q I rx ry ⟨d, ds, hd, he, sc, sd, se, q⟩
  obtain ⟨as, r1⟩ := Dp.reads I d x v hd rx
  rcases he with he | he
  · obtain ⟨bs, r2⟩ := Dp.reads I (.list ds) y u he ry
    exact SeqAt.in_list_reads r2 r1 se sc (room_min sd hu) ⟨.bl _, H, I, rfl, q⟩
  · obtain ⟨bs, r2⟩ := Dp.reads I (.tuple ds) y u he ry
    exact SeqAt.in_tuple_reads r2 r1 se sc (room_min sd hu) ⟨.bl _, H, I, rfl, q⟩
theorem op_notInN (hu : X.A.units + 64 < cLine) : OpR X (compareOp .NotIn) (rInN X.K not) := by
  intro pins s σ H x y v u Q I rx ry ⟨d, ds, hd, he, sc, sd, se, q⟩
  obtain ⟨as, r1⟩ := Dp.reads I d x v hd rx
  rcases he with he | he
  · obtain ⟨bs, r2⟩ := Dp.reads I (.list ds) y u he ry
    exact SeqAt.notIn_list_reads r2 r1 se sc (room_min sd hu) ⟨.bl _, H, I, rfl, q⟩
  · obtain ⟨bs, r2⟩ := Dp.reads I (.tuple ds) y u he ry
    exact SeqAt.notIn_tuple_reads r2 r1 se sc (room_min sd hu) ⟨.bl _, H, I, rfl, q⟩
end
end L2
namespace RS
open PySem PySem.Spec L2
section
variable {c : Cf} {a b o e : Expr} {ea eb : Ev} {es : List Expr} {ra : EvA} {pos : Pos} {g : Gh} {H : Hp} {st : Sto}
/-! ### in -/
def anyEq (p : G → G → Bool) (x : G) : List G → Bool
  | [] => false
  | y :: r => match p y x with
    | true => true
    | false => anyEq p x r
theorem anyEq_is {n : Nat} {x : G} (hx : okD n x = true) : ∀ {ys : List G}, allG (okD n) ys = true → anyEq (eqG n) x ys = (ys.map (toD n)).any fun z => PyData.eqv z (toD n x)
  | [], _ => rfl
  | y :: r, h => by
    have h1 := allG_mem h y List.mem_cons_self
    have h2 : allG (okD n) r = true := by
      unfold allG at h
      rw [h1] at h
      exact h
    unfold anyEq
    rw [List.map_cons, List.any_cons, eqG_eqv n y x h1 hx, anyEq_is hx h2]
    cases PyData.eqv (toD n y) (toD n x) <;> rfl
def oInW (f : Bool → Bool) : Op2 := fun a b st k => match seqA st b with
  | some ys => ck (okD 60 (deref st a)) (ck (allG (okD 60) ys) (k (.bl (f (anyEq (eqG 60) (deref st a) ys))) st))
  | none => False
theorem o_in {f : Bool → Bool} : O2 c (oInW f) (rInN c.K f) := fun a b st k g H x y Q ok ra rb h hk => by
  have h : (match seqA st b with
    | some ys => ck (okD 60 (deref st a)) (ck (allG (okD 60) ys) (k (.bl (f (anyEq (eqG 60) (deref st a) ys))) st))
    | none => False) := h
  cases e : seqA st b with
  | none => simp only [e] at h
  | some ys =>
    simp only [e] at h
    obtain ⟨p, vs, rfl, hp, rl⟩ := seqA_rp ok rb e
    have hys := h.r.l
    have fin := hk _ _ _ _ _ h.r.r ⟨.refl, ok⟩ (.bl _)
    rw [anyEq_is h.l hys] at fin
    have da := dp_all (fun x v => dp_of 60 x v) hys rl
    refine ⟨_, ys.map (toD 60), dp_ref ok ra h.l, ?_, can_toD 60 _ h.l, depth_toD 60 _, can_all 60 ys hys, fin⟩
    rcases hp with hp | hp
    · exact .inl (.lst hp da)
    · exact .inr (.tup hp da)
theorem r_in : ∀ X, At c X → OpR X (compareOp .In) (rInN X.K fun b => b) ∧ O2 c (oInW fun b => b) (rInN X.K fun b => b) := fun X hX => by
  have hu := hX.units
  obtain ⟨cl, n, cm, fr, fk, px, rfl⟩ := hX.eq
  exact ⟨op_inN (by omega), o_in⟩
theorem r_nin : ∀ X, At c X → OpR X (compareOp .NotIn) (rInN X.K not) ∧ O2 c (oInW not) (rInN X.K not) := fun X hX => by
  have hu := hX.units
  obtain ⟨cl, n, cm, fr, fk, px, rfl⟩ := hX.eq
  exact ⟨op_notInN (by omega), o_in⟩
abbrev oIn : Op2 := oInW fun b => b
abbrev oNin : Op2 := oInW not
theorem v_in (ha : EE c a ea) (hb : EE c b eb) (hm : behindInMarks .In b = false := by rfl) : EE c (.Compare a [.In] [b] pos) (eBin oIn ea eb) := v_cmp r_in hm ha hb
theorem t_in (ha : EE c a ea) (hb : EE c b eb) (hm : behindInMarks .In b = false := by rfl) : ET c (.Compare a [.In] [b] pos) (eTest (eBin oIn ea eb)) := t_cmp r_in hm ha hb
theorem v_nin (ha : EE c a ea) (hb : EE c b eb) (hm : behindInMarks .NotIn b = false := by rfl) : EE c (.Compare a [.NotIn] [b] pos) (eBin oNin ea eb) := v_cmp r_nin hm ha hb
theorem t_nin (ha : EE c a ea) (hb : EE c b eb) (hm : behindInMarks .NotIn b = false := by rfl) : ET c (.Compare a [.NotIn] [b] pos) (eTest (eBin oNin ea eb)) := t_cmp r_nin hm ha hb
/-! ### methods of lists that may change -/
abbrev OpM := Nat → List G → List G → Sto → KG → Prop
/-- o.m(..): o a list of the store -/
def eMet (op : OpM) (a : Ev) (r : EvA) : Ev := fun l st k ex => a l st (fun x st1 => match x with
  | .ref n => (match listO (getO st1.ob n) with
    | some _ => r l st1 (fun ys st2 => match listO (getO st2.ob n) with
      | some xs => op n xs ys st2 k
      | none => False) ex
    | none => False)
  | _ => False) ex
def OM (c : Cf) (op : OpM) (r : V → List V → Hp → VK → Prop) : Prop := ∀ n xs ys st k g H vs us Q, c.Ok g H st → getO st.ob n = some (.lst xs) → H (g.at_ n) = some (.lst vs) → c.RpL g H xs vs → c.RpL g H ys us → op n xs ys st k → KeepG c g H k Q → r (.ref (g.at_ n)) us H Q
theorem v_met {id : String} {name : Str} {apos cpos : Pos} {op : OpM} {r : Cx → V → List V → Hp → VK → Prop} (pa : PlainAttrs "list") (slot : Slot "list" name id) (hty : typeOf (.builtin id) = pure (.type "method_descriptor")) (hr : ∀ X, At c X → MtR X id (r X) ∧ OM c op (r X)) (ho : EE c o ea) (ha : EA c (e :: es) ra)
    (hbase : ∀ env, attributeBase o name env (eval o env) = eval o env := by intro _; rfl)
    (hfew : ∀ env, ((backTo cpos (starEach (e :: es) env)).all (fun x => !x.1) && (backToKw cpos (keywordEach [] env)).all (fun x => x.1.isSome) && decide ((e :: es).length + ([] : List Keyword).length + (if ([] : List Keyword).isEmpty then 0 else 1) < 30)) = true := by intro _; rfl)
    (hline : (apos.endLine == cpos.line) = true := by rfl) (hs : ∀ env, starEach (e :: es) env = (false, eval e env) :: starEach es env := by intro _; rfl) (hplain : ∀ env, (backTo cpos (starEach es env)).any (·.1) = false := by intro _; rfl) :
    EE c (.Call (.Attribute o name apos) (e :: es) [] cpos) (eMet op ea ra) := fun X hX W tk => by
  have hR := hr X hX
  have hO := ho X hX W tk
  have hA := ha X hX W tk
  obtain ⟨cl, n, cm, fr, fk, px, rfl⟩ := hX.eq
  refine (pe_bm pa slot hty hR.1 hO hA (hbase _) (hfew _) hline (hs _) (hplain _)).imp fun σ H Q q => ?_
  obtain ⟨g, l, st, k, ex, bs, h, hk, hx⟩ := q
  refine ⟨g, l, st, _, ex, bs, h, fun x st1 g1 H1 v h1 n1 r1 => ?_, hx⟩
  cases x <;> try exact h1.elim
  rename_i m
  have h1 : (match listO (getO st1.ob m) with
    | some _ => ra l st1 (fun ys st2 => match listO (getO st2.ob m) with
      | some xs => op m xs ys st2 k
      | none => False) ex
    | none => False) := h1
  cases e0 : listO (getO st1.ob m) with
  | none => simp only [e0] at h1
  | some xs0 =>
    simp only [e0] at h1
    obtain ⟨vs0, rfl, hp0, _⟩ := obj_lst n1.ok r1 rfl (listO_some e0)
    refine ⟨.inl ⟨rfl, vs0, .of hp0⟩, ?_⟩
    refine ⟨g1, l, st1, _, ex, bs.nw n1, h1, fun ys st2 g2 H2 us h2 n2 r2 => ?_, hx.fut n1.f⟩
    cases e1 : listO (getO st2.ob m) with
    | none => simp only [e1] at h2
    | some xs =>
      simp only [e1] at h2
      obtain ⟨vs, ev, hp, rl⟩ := obj_lst n2.ok (r1.fut n2.f) rfl (listO_some e1)
      rw [V.ref.inj ev]
      exact hR.2 _ _ _ _ _ _ _ _ _ _ n2.ok (listO_some e1) hp rl r2 h2 (hk.fut (n1.f.trans n2.f))
theorem v_met0 {id : String} {name : Str} {apos cpos : Pos} {op : OpM} {r : Cx → V → List V → Hp → VK → Prop} (pa : PlainAttrs "list") (slot : Slot "list" name id) (hty : typeOf (.builtin id) = pure (.type "method_descriptor")) (hr : ∀ X, At c X → MtR X id (r X) ∧ OM c op (r X)) (ho : EE c o ea)
    (hbase : ∀ env, attributeBase o name env (eval o env) = eval o env := by intro _; rfl) (hline : (apos.endLine == cpos.line) = true := by rfl) : EE c (.Call (.Attribute o name apos) [] [] cpos) (eMet op ea aNil) := fun X hX W tk => by
  have hR := hr X hX
  have hO := ho X hX W tk
  obtain ⟨cl, n, cm, fr, fk, px, rfl⟩ := hX.eq
  refine (pe_bm0 pa slot hty hR.1 hO (hbase _) hline).imp fun σ H Q q => ?_
  obtain ⟨g, l, st, k, ex, bs, h, hk, hx⟩ := q
  refine ⟨g, l, st, _, ex, bs, h, fun x st1 g1 H1 v h1 n1 r1 => ?_, hx⟩
  cases x <;> try exact h1.elim
  rename_i m
  have h1 : (match listO (getO st1.ob m) with
    | some _ => (match listO (getO st1.ob m) with
      | some xs => op m xs [] st1 k
      | none => False)
    | none => False) := h1
  cases e0 : listO (getO st1.ob m) with
  | none => simp only [e0] at h1
  | some xs0 =>
    simp only [e0] at h1
    obtain ⟨vs0, rfl, hp0, rl⟩ := obj_lst n1.ok r1 rfl (listO_some e0)
    exact ⟨.inl ⟨rfl, vs0, .of hp0⟩, hR.2 _ _ _ _ _ _ _ _ _ _ n1.ok (listO_some e0) hp0 rl .nil h1 (hk.fut n1.f)⟩
/-- the list is put back -/
def mPut (n : Nat) (zs : List G) (st : Sto) (k : Sto → Prop) : Prop := fL zs fun zs => fPut st n (.lst zs) k
theorem mPut_eq {n : Nat} {zs : List G} {k : Sto → Prop} (h : mPut n zs st k) : k (st.put n (.lst zs)) := by
  unfold mPut at h
  rw [fL_eq, fPut_eq] at h
  exact h
def mAppend : OpM := fun n xs ys st k => match ys with
  | [y] => ck (Nat.blt xs.length 10000) (mPut n (xs ++ [y]) st fun st1 => k .non st1)
  | _ => False
theorem r_append : ∀ X, At c X → MtR X "list.append" rAppend ∧ OM c mAppend rAppend := fun X hX => ⟨mt_append, fun n xs ys st k g H vs us Q ok e hp rl ry h hk => by
  cases ry with
  | nil => exact h.elim
  | cons r1 r2 =>
    cases r2 with
    | cons _ _ => exact h.elim
    | nil =>
      have hz := blt_lt h.l
      have h := mPut_eq h.r
      refine ⟨_, vs, _, rfl, rfl, hp, by rw [← rl.length, sizeLine_eq]; omega, ?_⟩
      have n2 := put_lst (c := c) ok e hp (rl.append (.cons r1 .nil))
      exact hk _ _ _ _ _ h n2 .non⟩
/-- the last of a list, the rest -/
def lastG : List G → Option G
  | [] => none
  | x :: r => match r with
    | [] => some x
    | _ :: _ => lastG r
theorem lastG_is : ∀ {xs : List G} {y : G}, lastG xs = some y → xs[xs.length - 1]? = some y
  | [], _, e => nomatch e
  | [x], _, e => by cases e; rfl
  | x :: z :: r, y, e => by
    have := lastG_is (xs := z :: r) e
    simpa using this
theorem RpL.dropLast {K : PySem.W.Frag} {cl : Nat → Addr} : ∀ {xs : List G} {vs : List V}, RpL K cl g H xs vs → RpL K cl g H xs.dropLast vs.dropLast
  | _, _, .nil => .nil
  | _, _, .cons _ .nil => .nil
  | _, _, .cons h (.cons h2 r) => .cons h (RpL.dropLast (.cons h2 r))
def mPop : OpM := fun n xs ys st k => match ys with
  | [] => (match lastG xs with
    | some y => mPut n xs.dropLast st fun st1 => k y st1
    | none => False)
  | _ => False
theorem r_pop : ∀ X, At c X → MtR X "list.pop" rPop ∧ OM c mPop rPop := fun X hX => ⟨mt_pop, fun n xs ys st k g H vs us Q ok e hp rl ry h hk => by
  cases ry with
  | cons _ _ => exact h.elim
  | nil =>
    have h : (match lastG xs with
      | some y => mPut n xs.dropLast st fun st1 => k y st1
      | none => False) := h
    cases e1 : lastG xs with
    | none => simp only [e1] at h
    | some y =>
      simp only [e1] at h
      have h := mPut_eq h
      obtain ⟨v, h1, h2⟩ := rl.get (lastG_is e1)
      have n2 := put_lst (c := c) ok e hp rl.dropLast
      exact ⟨_, vs, v, rfl, rfl, hp, by rw [← rl.length]; exact h1, hk _ _ _ _ _ h n2 (h2.fut n2.f)⟩⟩
def RpL.erase {K : PySem.W.Frag} {cl : Nat → Addr} : ∀ {xs : List G} {vs : List V} (i : Nat), RpL K cl g H xs vs → RpL K cl g H (xs.eraseIdx i) (vs.eraseIdx i)
  | _, _, _, .nil => .nil
  | _, _, 0, .cons _ r => r
  | _, _, i + 1, .cons h r => .cons h (RpL.erase i r)
def mPopAt : OpM := fun n xs ys st k => match ys with
  | [x] => (match x with
    | .int i => (match i with
      | .ofNat j => ck (Nat.blt j 10000) (match xs[j]? with
        | some y => mPut n (xs.eraseIdx j) st fun st1 => k y st1
        | none => False)
      | .negSucc _ => False)
    | _ => False)
  | _ => False
theorem r_popAt : ∀ X, At c X → MtR X "list.pop" rPopAt ∧ OM c mPopAt rPopAt := fun X hX => ⟨mt_popAt, fun n xs ys st k g H vs us Q ok e hp rl ry h hk => by
  cases ry with
  | nil => exact h.elim
  | cons r1 r2 =>
    cases r2 with
    | cons _ _ => exact h.elim
    | nil =>
      cases r1 <;> try exact h.elim
      rename_i i
      cases i with
      | negSucc _ => exact h.elim
      | ofNat j =>
        have h : ck (Nat.blt j 10000) (match xs[j]? with
          | some y => mPut n (xs.eraseIdx j) st fun st1 => k y st1
          | none => False) := h
        have hz := blt_lt h.l
        have h := h.r
        cases e1 : xs[j]? with
        | none => simp only [e1] at h
        | some y =>
          simp only [e1] at h
          have h := mPut_eq h
          obtain ⟨v, h1, h2⟩ := rl.get e1
          have n2 := put_lst (c := c) ok e hp (RpL.erase j rl)
          have hlt : j < vs.length := (List.getElem?_eq_some_iff.mp h1).1
          refine ⟨_, vs, (j : Nat), j, v, rfl, rfl, hp, by omega, by omega, ?_, h1, hk _ _ _ _ _ h n2 (h2.fut n2.f)⟩
          rw [seqIndex_of (by omega) (by show ((j : Nat) : Int) < _; omega)]; rfl⟩
def mExtend : OpM := fun n xs ys st k => match ys with
  | [y] => (match seqL st y with
    | some zs => ck (Nat.blt (xs.length + zs.length) 10000) (mPut n (xs ++ zs) st fun st1 => k .non st1)
    | none => False)
  | _ => False
theorem r_extend : ∀ X, At c X → MtR X "list.extend" rExtend ∧ OM c mExtend rExtend := fun X hX => ⟨mt_extend, fun n xs ys st k g H vs us Q ok e hp rl ry h hk => by
  cases ry with
  | nil => exact h.elim
  | cons r1 r2 =>
    cases r2 with
    | cons _ _ => exact h.elim
    | nil =>
      rename_i y v
      have h : (match seqL st y with
        | some zs => ck (Nat.blt (xs.length + zs.length) 10000) (mPut n (xs ++ zs) st fun st1 => k .non st1)
        | none => False) := h
      cases e1 : seqL st y with
      | none => simp only [e1] at h
      | some zs =>
        simp only [e1] at h
        have hz := blt_lt h.l
        have h := mPut_eq h.r
        obtain ⟨b, ws, rfl, hb, rz⟩ := seqL_rp ok r1 e1
        have n2 := put_lst (c := c) ok e hp (rl.append rz)
        exact ⟨_, b, vs, ws, rfl, rfl, hp, hb, by rw [← rl.length, ← rz.length, sizeLine_eq]; omega, hk _ _ _ _ _ h n2 .non⟩⟩
def mInsert : OpM := fun n xs ys st k => match ys with
  | [x, y] => (match x with
    | .int i => (match i with
      | .ofNat j => ck (Nat.blt j 10000) (ck (Nat.blt xs.length 10000) (mPut n (xs.take j ++ [y] ++ xs.drop j) st fun st1 => k .non st1))
      | .negSucc _ => False)
    | _ => False)
  | _ => False
theorem r_insert : ∀ X, At c X → MtR X "list.insert" (fun x vs H Q => ∃ (l : Addr) (xs : List V) (i : Int) (y : V), x = .ref l ∧ vs = [.int i, y] ∧ H l = some (.lst xs) ∧ xs.length < sizeLine ∧ 0 ≤ i ∧ i < 2 ^ 63 ∧ Q .non (upd H l (.lst (xs.take i.toNat ++ [y] ++ xs.drop i.toNat)))) ∧
    OM c mInsert (fun x vs H Q => ∃ (l : Addr) (xs : List V) (i : Int) (y : V), x = .ref l ∧ vs = [.int i, y] ∧ H l = some (.lst xs) ∧ xs.length < sizeLine ∧ 0 ≤ i ∧ i < 2 ^ 63 ∧ Q .non (upd H l (.lst (xs.take i.toNat ++ [y] ++ xs.drop i.toNat)))) := fun X hX => ⟨mt_insert, fun n xs ys st k g H vs us Q ok e hp rl ry h hk => by
  cases ry with
  | nil => exact h.elim
  | cons r1 r2 =>
    cases r2 with
    | nil => cases r1 <;> exact h.elim
    | cons r2 r3 =>
      cases r3 with
      | cons _ _ => cases r1 <;> exact h.elim
      | nil =>
        cases r1 <;> try exact h.elim
        rename_i i
        cases i with
        | negSucc _ => exact h.elim
        | ofNat j =>
          rename_i y v
          have h : ck (Nat.blt j 10000) (ck (Nat.blt xs.length 10000) (mPut n (xs.take j ++ [y] ++ xs.drop j) st fun st1 => k .non st1)) := h
          have hz := blt_lt h.l
          have hz2 := blt_lt h.r.l
          have h := mPut_eq h.r.r
          have n2 := put_lst (c := c) ok e hp (((rl.take j).append (.cons r2 .nil)).append (rl.drop j))
          refine ⟨_, vs, (j : Nat), v, rfl, rfl, hp, by rw [← rl.length, sizeLine_eq]; omega, by omega, by omega, ?_⟩
          exact hk _ _ _ _ _ h n2 .non⟩
end
end RS

/-! RSAm: new lists that may change. -/
namespace RS
open PySem PySem.Spec L2
section
variable {c : Cf} {a b : Expr} {ea eb : Ev} {pos : Pos}
def oMulM : Op2 := fun a b st k => match seqL st a with
  | some xs => (match b with
    | .int j => oRepL xs j fun zs => fAdd st (.lst zs) k
    | _ => False)
  | none => False
theorem o_mulM : O2 c oMulM rRep := fun a b st k g H x y Q ok ra rb h hk => by
  unfold oMulM at h
  cases e : seqL st a with
  | none => simp only [e] at h
  | some xs =>
    simp only [e] at h
    cases b <;> try exact h.elim
    rename_i j
    cases rb
    cases j with
    | negSucc n => exact h.elim
    | ofNat n =>
      have h : ck (lenOk n) (ckL (lenOk (xs.length * n)) (repG n xs) fun zs => fAdd st (.lst zs) k) := h
      obtain ⟨p, vs, rfl, hp, r⟩ := seqL_rp ok ra e
      have h1 := Nat.le_of_ble_eq_true h.l
      have h2 := h.r.r
      rw [fAdd_eq] at h2
      refine ⟨p, _, vs, rfl, rfl, hp, ?_, ?_, by rw [← r.length]; exact le_line h.r.l, fun t ht => ?_⟩
      · show _ ≤ ((n : Nat) : Int)
        omega
      · show ((n : Nat) : Int) < _
        omega
      · obtain ⟨n2, r3⟩ := new_lst ok (r.rep n) ht
        exact hk _ _ _ _ _ h2 n2 r3
theorem v_mulM (ha : EE c a ea) (hb : EE c b eb) : EE c (.BinOp a .Mult b pos) (eBin oMulM ea eb) := v_bin (r := fun _ => rRep) (fun X hX => by
  obtain ⟨cl, n, cm, fr, fk, px, rfl⟩ := hX.eq
  exact ⟨op_rep, o_mulM⟩) ha hb
def oAddM : Op2 := fun a b st k => match seqL st a with
  | some xs => (match seqL st b with
    | some ys => ckL (lenOk (xs.length + ys.length)) (xs ++ ys) fun zs => fAdd st (.lst zs) k
    | none => False)
  | none => False
theorem o_addM : O2 c oAddM rCat := fun a b st k g H x y Q ok ra rb h hk => by
  have h : (match seqL st a with
    | some xs => (match seqL st b with
      | some ys => ckL (lenOk (xs.length + ys.length)) (xs ++ ys) fun zs => fAdd st (.lst zs) k
      | none => False)
    | none => False) := h
  cases e : seqL st a with
  | none => simp only [e] at h
  | some xs =>
    simp only [e] at h
    cases e1 : seqL st b with
    | none => simp only [e1] at h
    | some ys =>
      simp only [e1] at h
      obtain ⟨p, vs, rfl, h1, r1⟩ := seqL_rp ok ra e
      obtain ⟨q, us, rfl, h2, r2⟩ := seqL_rp ok rb e1
      have h3 := h.r
      rw [fAdd_eq] at h3
      refine ⟨p, q, vs, us, rfl, rfl, h1, h2, by rw [← r1.length, ← r2.length]; exact le_line h.l, fun t ht => ?_⟩
      obtain ⟨n2, r3⟩ := new_lst ok (r1.append r2) ht
      exact hk _ _ _ _ _ h3 n2 r3
theorem v_addM (ha : EE c a ea) (hb : EE c b eb) : EE c (.BinOp a .Add b pos) (eBin oAddM ea eb) := v_bin (r := fun _ => rCat) (fun X hX => by
  obtain ⟨cl, n, cm, fr, fk, px, rfl⟩ := hX.eq
  exact ⟨op_cat, o_addM⟩) ha hb
def eSlM (a : Ev) (lo hi : EvO) : Ev := fun l st k ex => a l st (fun x st1 => lo l st1 (fun i st2 => hi l st2 (fun j st3 => match seqL st3 x with
  | some xs => fL (cutG xs i j) fun zs => fAdd st3 (.lst zs) k
  | none => False) ex) ex) ex
theorem v_slM {lo hi : Option Expr} {el eh : EvO} {p2 : Pos} (ha : EE c a ea) (hl : EO c lo el) (hh : EO c hi eh) : EE c (.Subscript a (.Slice lo hi none p2) pos) (eSlM ea el eh) := fun X hX W tk => by
  have h1 := ha X hX W tk
  have h2 := hl X hX W tk
  have h3 := hh X hX W tk
  obtain ⟨cl, n, cm, fr, fk, px, rfl⟩ := hX.eq
  refine (pe_slice sl_list h1 h2 h3).imp fun σ H Q q => ?_
  obtain ⟨g, l, st, k, ex, b, h1, hk, hx⟩ := q
  refine ⟨g, l, st, _, ex, b, h1, fun v st1 g1 H1 x h2 n1 r1 => ?_, hx⟩
  refine ⟨g1, l, st1, _, ex, b.nw n1, h2, fun i st2 g2 H2 h3 n2 => ?_, hx.fut n1.f⟩
  refine ⟨g2, l, st2, _, ex, b.nw (n1.trans n2), h3, fun j st3 g3 H3 h4 n3 => ?_, hx.fut (n1.f.trans n2.f)⟩
  have n13 := n1.trans (n2.trans n3)
  have r3 := r1.fut (n2.f.trans n3.f)
  cases e : seqL st3 v with
  | none => simp only [e] at h4
  | some xs =>
    simp only [e] at h4
    rw [fL_eq, fAdd_eq] at h4
    obtain ⟨p, vs, rfl, hp, r⟩ := seqL_rp n3.ok r3 e
    refine ⟨p, vs, rfl, .of hp, fun t ht => ?_⟩
    obtain ⟨n4, r4⟩ := new_lst n3.ok (cut_rp r i j) ht
    exact hk _ _ _ _ _ h4 (n13.trans n4) r4
end
end RS

/-! RSB: rows of data sorted. -/
namespace RS
open PySem PySem.Spec L2 PySem.W
def alikeGs (p : G → G → Bool) : List G → List G → Bool
  | [], _ => true
  | x :: r, ys => match ys with
    | [] => true
    | y :: s => match p x y with
      | true => alikeGs p r s
      | false => false
def alikeG (n : Nat) (x y : G) : Bool := match x with
  | .non => (match y with
    | .non => true
    | _ => false)
  | .bl _ => (match y with
    | .bl _ => true
    | _ => false)
  | .int _ => (match y with
    | .int _ => true
    | _ => false)
  | .str _ => (match y with
    | .str _ => true
    | _ => false)
  | .sq l xs => (match n with
    | 0 => false
    | m + 1 => (match y with
      | .sq k ys => (match l with
        | true => (match k with
          | true => alikeGs (alikeG m) xs ys
          | false => false)
        | false => (match k with
          | true => false
          | false => alikeGs (alikeG m) xs ys))
      | _ => false))
  | _ => false
def ltNs : List Nat → List Nat → Bool
  | [], [] => false
  | [], _ :: _ => true
  | _ :: _, [] => false
  | a :: r, b :: s => match Nat.beq a b with
    | true => ltNs r s
    | false => Nat.blt a b
def ltGs (e p : G → G → Bool) : List G → List G → Bool
  | [], [] => false
  | [], _ :: _ => true
  | _ :: _, [] => false
  | x :: r, y :: s => match e x y with
    | true => ltGs e p r s
    | false => p x y
def ltG (n : Nat) (x y : G) : Bool := match x with
  | .bl a => (match y with
    | .bl b => (match a with
      | true => false
      | false => b)
    | _ => false)
  | .int i => (match y with
    | .int j => PySem.W.Z.ltB i j
    | _ => false)
  | .str a => (match y with
    | .str b => ltNs a.cps.toList b.cps.toList
    | _ => false)
  | .sq _ xs => (match n with
    | 0 => false
    | m + 1 => (match y with
      | .sq _ ys => ltGs (eqG m) (ltG m) xs ys
      | _ => false))
  | _ => false
theorem ltNs_is : ∀ a b : List Nat, ltNs a b = decide (a < b)
  | [], [] => by simp [ltNs]
  | [], _ :: _ => by simp [ltNs]
  | _ :: _, [] => by simp [ltNs]
  | a :: r, b :: s => by
    unfold ltNs
    rw [beqN, ltNs_is r s]
    by_cases h : a = b
    · subst h; simp
    · rw [decide_eq_false h]
      show Nat.blt a b = _
      by_cases q : a < b
      · rw [decide_eq_true (List.cons_lt_cons_iff.mpr (.inl q))]; exact Nat.ble_eq_true_of_le q
      · rw [decide_eq_false fun z => (List.cons_lt_cons_iff.mp z).elim q fun z => h z.1]
        exact Bool.eq_false_iff.mpr fun z => q (Nat.le_of_ble_eq_true z)
theorem alikeGs_map {m : Nat} : ∀ {xs ys : List G}, (∀ x ∈ xs, ∀ y ∈ ys, alikeG m x y = alike (toD m x) (toD m y)) → alikeGs (alikeG m) xs ys = alikeAll (xs.map (toD m)) (ys.map (toD m))
  | [], ys, _ => by rw [List.map_nil, alikeAll]; rfl
  | _ :: _, [], _ => by rw [List.map_nil, List.map_cons, alikeAll]; rfl
  | x :: r, y :: s, h => by
    have e1 := h x List.mem_cons_self y List.mem_cons_self
    have e2 := alikeGs_map (xs := r) (ys := s) fun a ha b hb => h a (List.mem_cons_of_mem _ ha) b (List.mem_cons_of_mem _ hb)
    rw [List.map_cons, List.map_cons, alikeAll, ← e1, ← e2]
    show (match alikeG m x y with | true => alikeGs (alikeG m) r s | false => false) = _
    cases alikeG m x y <;> rfl
theorem alikeG_is : ∀ (n : Nat) (x y : G), okD n x = true → okD n y = true → alikeG n x y = alike (toD n x) (toD n y) := by
  intro n
  induction n with
  | zero =>
    intro x y hx hy
    cases x <;> cases y <;> first
      | (exact absurd (show false = true from hx) Bool.false_ne_true)
      | (exact absurd (show false = true from hy) Bool.false_ne_true)
      | (simp [alikeG, toD, alike])
  | succ m ih =>
    intro x y hx hy
    cases x <;> cases y <;> first
      | (exact absurd (show false = true from hx) Bool.false_ne_true)
      | (exact absurd (show false = true from hy) Bool.false_ne_true)
      | (simp [alikeG, toD, alike]; done)
      | (rename_i l xs; cases l <;> (simp [alikeG, toD, alike]; done))
      | (rename_i l xs a; cases l <;> (simp [alikeG, toD, alike]; done))
      | (rename_i a l xs; cases l <;> (simp [alikeG, toD, alike]; done))
      | (rename_i l xs k ys
         have h1 : allG (okD m) xs = true := hx
         have h2 : allG (okD m) ys = true := hy
         have e := alikeGs_map (m := m) (xs := xs) (ys := ys) fun a ha b hb => ih a b (allG_mem h1 a ha) (allG_mem h2 b hb)
         cases l <;> cases k <;> simp [alikeG, toD, alike, e])
theorem ltGs_is {m : Nat} (ih : ∀ x y : G, okD m x = true → okD m y = true → alikeG m x y = true → ltG m x y = dataLt (toD m x) (toD m y)) : ∀ {xs ys : List G}, allG (okD m) xs = true → allG (okD m) ys = true → alikeGs (alikeG m) xs ys = true →
    ltGs (eqG m) (ltG m) xs ys = PyProof.Rows.lexLt PyProof.Rows.itemOrd (keyToksAll (xs.map (toD m))) (keyToksAll (ys.map (toD m)))
  | [], [], _, _, _ => by rw [List.map_nil, PyProof.Rows.lex_irrefl]; rfl
  | [], y :: s, _, _, _ => by
    rw [List.map_nil, List.map_cons, keyToksAll, keyToksAll]
    show true = _
    rw [PyProof.Rows.lex_diff (by intro z; exact absurd (Sum.inl.inj z) (by decide))]; rfl
  | x :: r, [], _, _, _ => by
    rw [List.map_nil, List.map_cons, keyToksAll, keyToksAll]
    show false = _
    rw [PyProof.Rows.lex_diff (by intro z; exact absurd (Sum.inl.inj z) (by decide))]; rfl
  | x :: r, y :: s, h1, h2, h3 => by
    have x1 := allG_mem h1 x List.mem_cons_self
    have y1 := allG_mem h2 y List.mem_cons_self
    have r1 : allG (okD m) r = true := by
      unfold allG at h1
      rw [x1] at h1
      exact h1
    have s1 : allG (okD m) s = true := by
      unfold allG at h2
      rw [y1] at h2
      exact h2
    have h3 : (match alikeG m x y with
      | true => alikeGs (alikeG m) r s
      | false => false) = true := h3
    cases ea : alikeG m x y with
    | false => rw [ea] at h3; cases h3
    | true =>
      rw [ea] at h3
      have al : alike (toD m x) (toD m y) = true := by rw [← alikeG_is m x y x1 y1]; exact ea
      rw [List.map_cons, List.map_cons, dataLt_cons al, ← eqG_eqv m x y x1 y1, ← ltGs_is ih r1 s1 h3, ← ih x y x1 y1 ea]
      show (match eqG m x y with | true => ltGs (eqG m) (ltG m) r s | false => ltG m x y) = _
      cases eqG m x y <;> rfl
theorem ltG_is : ∀ (n : Nat) (x y : G), okD n x = true → okD n y = true → alikeG n x y = true → ltG n x y = dataLt (toD n x) (toD n y) := by
  intro n
  have atom : ∀ (n : Nat) (x y : G), alikeG n x y = true → (∀ l xs, x ≠ .sq l xs) → okD n x = true → ltG n x y = dataLt (toD n x) (toD n y) := by
    intro n x y h ns hx
    cases x with
    | non =>
      cases y <;> first | (cases n <;> exact absurd (show false = true from h) Bool.false_ne_true) | skip
      cases n <;> (show false = _; rw [show toD _ G.non = PyData.none by rfl]; exact (PyProof.Rows.lex_irrefl _).symm)
    | bl a =>
      cases y <;> first | (cases n <;> exact absurd (show false = true from h) Bool.false_ne_true) | skip
      rename_i b
      cases n <;> (show _ = dataLt (.bool a) (.bool b); rw [dataLt_bool]; cases a <;> cases b <;> rfl)
    | int i =>
      cases y <;> first | (cases n <;> exact absurd (show false = true from h) Bool.false_ne_true) | skip
      rename_i j
      cases n <;> (show PySem.W.Z.ltB i j = dataLt (.int i) (.int j); rw [dataLt_int, ltB_dec])
    | str a =>
      cases y <;> first | (cases n <;> exact absurd (show false = true from h) Bool.false_ne_true) | skip
      rename_i b
      cases n <;> (show ltNs _ _ = dataLt (.str a) (.str b); rw [dataLt_str, ltNs_is])
    | sq l xs => exact absurd rfl (ns l xs)
    | _ => cases n <;> exact absurd (show false = true from hx) Bool.false_ne_true
  induction n with
  | zero =>
    intro x y hx hy h
    refine atom 0 x y h (fun l xs e => ?_) hx
    subst e
    exact absurd (show false = true from h) Bool.false_ne_true
  | succ m ih =>
    intro x y hx hy h
    by_cases q : ∃ l xs, x = .sq l xs
    · obtain ⟨l, xs, rfl⟩ := q
      cases y with
      | sq k ys =>
        have h1 : allG (okD m) xs = true := hx
        have h2 : allG (okD m) ys = true := hy
        cases l <;> cases k <;> first
          | exact absurd (show false = true from h) Bool.false_ne_true
          | (show ltGs (eqG m) (ltG m) xs ys = dataLt (.list _) (.list _); rw [dataLt_list]; exact ltGs_is ih h1 h2 h)
          | (show ltGs (eqG m) (ltG m) xs ys = dataLt (.tuple _) (.tuple _); rw [dataLt_tuple]; exact ltGs_is ih h1 h2 h)
      | _ => cases l <;> exact absurd (show false = true from h) Bool.false_ne_true
    · exact atom (m + 1) x y h (fun l xs e => q ⟨l, xs, e⟩) hx
/-! ### sorted, of data -/
abbrev GV := G × V
def leD : GV → GV → Bool := dataLe false fun b => toD 60 b.1
theorem leD_lt (a b : GV) : leD a b = !dataLt (toD 60 b.1) (toD 60 a.1) := rfl
theorem leD_tr (a b d : GV) (h1 : leD a b = true) (h2 : leD b d = true) : leD a d = true := by
  rw [leD_lt] at h1 h2 ⊢
  cases h : dataLt (toD 60 d.1) (toD 60 a.1) with
  | false => rfl
  | true =>
    rcases PyProof.Rows.lex_negTrans (O := PyProof.Rows.itemOrd) _ (keyToks (toD 60 b.1)) _ h with q | q
    · have q : dataLt (toD 60 d.1) (toD 60 b.1) = true := q
      rw [q] at h2; cases h2
    · have q : dataLt (toD 60 b.1) (toD 60 a.1) = true := q
      rw [q] at h1; cases h1
theorem leD_tot (a b : GV) : (leD a b || leD b a) = true := by
  rw [leD_lt, leD_lt]
  cases h : dataLt (toD 60 b.1) (toD 60 a.1) with
  | false => rfl
  | true =>
    cases h' : dataLt (toD 60 a.1) (toD 60 b.1) with
    | false => rfl
    | true =>
      have z := PyProof.Rows.lex_trans (O := PyProof.Rows.itemOrd) _ _ _ h h'
      rw [PyProof.Rows.lex_irrefl] at z
      cases z
def rSortedN (K : PySem.W.Frag) : List V → Hp → VK → Prop := fun vs H Q => ∃ (a : Addr) (bs : List GV), vs = [V.ref a] ∧ (SqL K H a (bs.map (·.2)) ∨ SqT K H a (bs.map (·.2))) ∧ DpAll K H (bs.map (·.2)) (bs.map fun b => toD 60 b.1) ∧ AllAlike (bs.map fun b => toD 60 b.1) ∧ Sortable (bs.map fun b => toD 60 b.1) ∧ bs.length ≤ sizeLine ∧
  ∀ p, H p = none → Q (.ref p) (upd H p (.lst ((bs.mergeSort leD).map (·.2))))
theorem each_vals : ∀ {bs : List GV} {us : List Value}, Vals (bs.map (·.2)) us → PySem.W.EachIs (fun v (b : GV) => RelV b.2 v) us bs
  | [], _, .nil => .nil
  | _ :: _, _, .cons h t => .cons h (each_vals t)
theorem vals_each : ∀ {bs : List GV} {us : List Value}, PySem.W.EachIs (fun v (b : GV) => RelV b.2 v) us bs → Vals (bs.map (·.2)) us
  | _, _, .nil => .nil
  | _, _, .cons h t => .cons h (vals_each t)
section
open PySem.Calls PyProof.Rows
variable {prog : Program} {w : World} {A : Around} {E : Value → Shared → Prop} {s : Shared} {β : Type} {vs : List Value} {bs : List β} {enc : β → PyData} {R : Value → β → Prop}
/-- what a list or a tuple holds, as a new list: the heap, too -/
theorem collect_tl {it : Addr} {T : String} {o : Obj} {n : Nat} {Q : List Value → Shared → Prop} (hT : T = "list" ∨ T = "tuple") (ho : s.heap.get? it = some o) (hc : o.cls = .type T) (hd : o.data = .seq vs.toArray n) (hsz : vs.length ≤ sizeLine)
    (h : ∀ h1 : Heap, (∀ b o, s.heap.get? b = some o → h1.get? b = some o) → h1.objs.size = s.heap.objs.size + 1 → Q vs { s with heap := h1 }) : wpAny (model prog w) A (collect (.ref it)) Q E s := by
  unfold collect
  refine wpAny_bind (wpAny_runValue (codeAny_builtin entry_proto_collect' ?_))
  show wpAny _ _ (do again (.builtin "list.__iadd__" ⟨[← newList [], .ref it], []⟩)) _ _ s
  refine wpAny_bind (wpAny_newList (wpAny_pure ⟨Code.quiet_builtin _ (by decide +kernel), codeAny_builtin entry_list_iadd' ?_⟩))
  show wpAny _ _ (Builtin.List.listExtendWith (.ref s.heap.objs.size) (.ref it) (.ref s.heap.objs.size)) _ _ { s with heap := s.heap.push (seqObj "list" #[] 0) }
  unfold Builtin.List.listExtendWith
  have ho' : (s.heap.push (seqObj "list" #[] 0)).get? it = some o := Heap.get?_push_of_some _ ho
  refine wpAny_bind (wpAny_typeOf (T := T) ⟨o, ho', hc⟩ ?_)
  have ht : (Value.type T == Value.type "list" || Value.type T == Value.type "tuple") = true := by rcases hT with rfl | rfl <;> rfl
  rw [if_pos (by rw [Bool.or_assoc, ht]; simp)]
  refine wpAny_bind (listItems_at ho' hd ?_)
  refine wpAny_bind (listItems_at (xs := #[]) (n := 0) (Heap.get?_push_size _ rfl) rfl ?_)
  rw [if_neg (by simp)]
  refine wpAny_bind (listUpdate_at (xs := #[]) (n := 0) (Heap.get?_push_size _ rfl) rfl ?_ (Nat.zero_le _) (by show (#[] ++ vs.toArray).size ≤ sizeLine + 1; simp only [Array.size_append, List.size_toArray, List.length_nil]; omega))
  refine wpAny_pure ?_
  show wpAny (model prog w) A (do
      let o ← load s.heap.objs.size
      match o.data with
      | .seq xs _ => pure xs.toList
      | _ => unsupported "internal:collect") Q E { s with heap := (s.heap.push (seqObj "list" #[] 0)).update s.heap.objs.size (Obj.mapSeq (· ++ vs.toArray)) }
  refine wpAny_bind (wpAny_load (get?_update_seq (Heap.get?_push_size _ rfl) _) ?_)
  show wpAny _ _ (pure ((#[] : Array Value) ++ vs.toArray).toList) Q E _
  rw [show ((#[] : Array Value) ++ vs.toArray).toList = vs by simp]
  refine wpAny_pure (h _ (fun b o hb => ?_) (by rw [Heap.size_update, size_push']))
  exact (Heap.get?_update_other _ _ (Nat.ne_of_gt (Heap.lt_size hb))).trans (Heap.get?_push_of_some _ hb)
/-- sorted of a list or a tuple of data -/
theorem sorted_seq_data {it : Addr} {T : String} {o : Obj} {n : Nat} {Q : Value → Shared → Prop} (hT : T = "list" ∨ T = "tuple") (ho : s.heap.get? it = some o) (hc : o.cls = .type T) (hd : o.data = .seq vs.toArray n) (e : EachIs R vs bs) (er : EachIs (fun v b => ∃ as, Reads s.heap v (enc b) as) vs bs) (hal : AllAlike (bs.map enc)) (hk : Sortable (bs.map enc)) (hL : bs.length ≤ sizeLine)
    (hu : ∀ b, b ∈ bs → A.units + 2 + (enc b).depth < cLine) (h : ∀ (out : List Value) (h' : Heap) (l c' : Nat), out.length = bs.length → EachIs R out (bs.mergeSort (dataLe false enc)) → (∀ b o, s.heap.get? b = some o → h'.get? b = some o) → s.heap.objs.size ≤ l → h'.get? l = some (seqObj "list" out.toArray c') → Q (.ref l) { s with heap := h' }) :
    wpAny (model prog w) A (call (.builtin "sorted") [.ref it]) Q E s := by
  have hv : vs.length ≤ sizeLine := by rw [e.length]; exact hL
  refine call_function_entry_kw kind_sorted plain_sorted entry_sorted (args_sorted1 _) ?_
  unfold Builtin.«sorted»
  refine wpAny_bind (m := checkCount "sorted" 1 1 _) (wpAny_pure ?_)
  refine wpAny_bind (collect_tl hT ho hc hd hv fun h1 k1 z1 => ?_)
  refine wpAny_bind (wpAny_newList ?_ hv)
  have h2 : (h1.push (seqObj "list" vs.toArray 0)).get? h1.objs.size = some (seqObj "list" vs.toArray 0) := Heap.get?_push_size _ rfl
  have k2 : ∀ b o, s.heap.get? b = some o → (h1.push (seqObj "list" vs.toArray 0)).get? b = some o := fun b o q => Heap.get?_push_of_some _ (k1 b o q)
  have le : s.heap.objs.size ≤ h1.objs.size := by omega
  refine wpAny_bind (wpAny_holding (list_sort_data (s := { s with heap := h1.push (seqObj "list" vs.toArray 0) }) (enc := enc) h2 e (er.mono fun v b ⟨as, r⟩ => ⟨as, Reads.keeps k2 r, fun z => ?_⟩) hal hk hL (fun b hb => hu b hb) fun out hlen ho' => ?_))
  · obtain ⟨c', hc'⟩ := sortedHeap_at (out := out.toArray) h2
    refine wpAny_pure ⟨_, rfl, h out _ _ c' hlen ho' (fun b o' q => ?_) le hc'⟩
    have lt := Heap.lt_size q
    have ne : b ≠ h1.objs.size := Nat.ne_of_lt (Nat.lt_of_lt_of_le lt le)
    rw [sortedHeap_old ne (Heap.lt_size (k2 b o' q))]
    exact k2 b o' q
  · obtain ⟨o', ho'⟩ := PyProof.On.reads_mem_get r _ z
    exact absurd (Heap.lt_size ho') (Nat.not_lt.mpr le)
end
theorem cr_sortedN {X : Cx} (hu : X.A.units + 64 < cLine) : CallR X (.builtin "sorted") (rSortedN X.K) := by
  intro pins s σ H vs us Q I r ⟨a, bs, ex, ha, hd, hal, hso, hz, q⟩
  subst ex
  rw [Vals.ref1 r]
  have fin : ∀ (its : List Value) (o : Obj) (n : Nat) (T : String), (T = "list" ∨ T = "tuple") → Vals (bs.map (·.2)) its → s.heap.get? a = some o → o.cls = .type T → o.data = .seq its.toArray n → wpAny (model X.prog X.w) X.A (call (.builtin "sorted") [.ref a]) (EP X pins σ Q) X.xe s := fun its o n T hT rv ho hc hdd => by
    obtain ⟨as, rd⟩ := Dp.readsAll I _ _ its hd rv
    refine sorted_seq_data (enc := fun b : GV => toD 60 b.1) hT ho hc hdd (each_vals rv) (readsAll_each _ rd) hal hso hz (fun b _ => ?_) fun out h' l c' hlen ho kp hl he' => ?_
    · have := depth_toD 60 b.1
      omega
    · have hv := vals_each ho
      have hl2 : ((bs.mergeSort leD).map (·.2)).length ≤ sizeLine := by rw [List.length_map, (List.mergeSort_perm bs leD).length_eq]; exact hz
      exact ⟨.ref _, upd H l (.lst ((bs.mergeSort leD).map (·.2))), I.laid (t' := s.toks) kp hl ⟨hl2, out, c', hv, he'⟩, rfl, q _ (I.hok.fresh hl)⟩
  rcases ha with ha | ha
  · obtain ⟨its, rv, pl, _⟩ := I.list ha
    obtain ⟨o, ho, hc, n, hd'⟩ := pl.isList
    exact fin its o n _ (.inl rfl) rv ho hc hd'
  · obtain ⟨its, rv, pl, _⟩ := I.tuple ha
    obtain ⟨o, ho, hc, n, hd'⟩ := pl
    exact fin its o n _ (.inr rfl) rv ho hc hd'
/-- each is below all behind it -/
def ascB (lt : G → G → Bool) : List G → Bool
  | [] => true
  | x :: r => match allG (fun y => lt x y) r with
    | true => ascB lt r
    | false => false
theorem ascB_is {lt : G → G → Bool} : ∀ {l : List G}, ascB lt l = true → l.Pairwise fun a b => lt a b = true
  | [], _ => .nil
  | x :: r, h => by
    unfold ascB at h
    cases e : allG (fun y => lt x y) r with
    | false => rw [e] at h; cases h
    | true => rw [e] at h; exact List.pairwise_cons.mpr ⟨fun y hy => allG_mem e y hy, ascB_is h⟩
theorem asc_strict {lt : G → G → Bool} : ∀ {a b : List G}, a.Perm b → a.Pairwise (fun x y => lt y x = false) → b.Pairwise (fun x y => lt x y = true) → a = b
  | [], b, p, _, _ => p.nil_eq
  | x :: r, [], p, _, _ => absurd p.length_eq (by simp)
  | x :: r, y :: t, p, ha, hb => by
    have hxy : x = y := by
      rcases List.mem_cons.mp (p.mem_iff.mp List.mem_cons_self) with e | hx
      · exact e
      · rcases List.mem_cons.mp (p.mem_iff.mpr List.mem_cons_self) with e | hy
        · exact e.symm
        · have h1 := (List.pairwise_cons.mp hb).1 x hx
          have h2 := (List.pairwise_cons.mp ha).1 y hy
          rw [h1] at h2; cases h2
    subst hxy
    rw [asc_strict (List.Perm.cons_inv p) (List.pairwise_cons.mp ha).2 (List.pairwise_cons.mp hb).2]
def kindB (x : G) : Bool := match x with
  | .sq l xs => (match l with
    | true => true
    | false => (match xs with
      | [] => false
      | _ :: _ => true))
  | _ => false
def tupB (x : G) : Bool := match x with
  | .sq l xs => (match l with
    | true => false
    | false => (match xs with
      | [] => false
      | _ :: _ => true))
  | _ => false
def othB (x : G) : Bool := match x with
  | .bl _ => true
  | .int _ => true
  | .str _ => true
  | .sq l _ => l
  | _ => false
def sortableB (ys : List G) : Bool := match allG tupB ys with
  | true => true
  | false => allG othB ys
theorem sortable_is {ys : List G} (h : sortableB ys = true) : Sortable (ys.map (toD 60)) := by
  unfold sortableB at h
  cases e : allG tupB ys with
  | true =>
    refine .inl fun d hd => ?_
    obtain ⟨y, hy, rfl⟩ := List.mem_map.mp hd
    have z := allG_mem e y hy
    cases y <;> try (cases z; done)
    rename_i l xs
    cases l <;> try (cases z; done)
    cases xs with
    | nil => cases z
    | cons x r => exact ⟨_, _, rfl⟩
  | false =>
    rw [e] at h
    refine .inr fun d hd => ?_
    obtain ⟨y, hy, rfl⟩ := List.mem_map.mp hd
    have z := allG_mem h y hy
    cases y <;> try (cases z; done)
    case bl b => exact ⟨fun q => (nomatch q), fun _ q => (nomatch q)⟩
    case int b => exact ⟨fun q => (nomatch q), fun _ q => (nomatch q)⟩
    case str b => exact ⟨fun q => (nomatch q), fun _ q => (nomatch q)⟩
    case sq l xs =>
      cases l
      · cases z
      · exact ⟨fun q => (nomatch q), fun _ q => (nomatch q)⟩
def sortG (ys : List G) (k : List G → Prop) : Prop := ck (allG (okD 60) ys) (ck (allG (fun x => allG (fun y => alikeG 60 x y) ys) ys) (ck (sortableB ys) (fL (sortB (ltG 60) ys) fun zs => ck (ascB (ltG 60) zs) (ck (Nat.blt zs.length 10000) (k zs)))))
section
variable {c : Cf} {g : Gh} {H : Hp} {st : Sto}
theorem zip_fst : ∀ {ys : List G} {vs : List V}, c.RpL g H ys vs → (ys.zip vs).map (·.1) = ys ∧ (ys.zip vs).map (·.2) = vs ∧ ∀ b ∈ ys.zip vs, c.Rp g H b.1 b.2
  | _, _, .nil => ⟨rfl, rfl, fun _ h => nomatch h⟩
  | _, _, .cons h t => by
    obtain ⟨e1, e2, e3⟩ := zip_fst t
    refine ⟨by rw [List.zip_cons_cons, List.map_cons, e1], by rw [List.zip_cons_cons, List.map_cons, e2], fun b hb => ?_⟩
    rw [List.zip_cons_cons] at hb
    rcases List.mem_cons.mp hb with rfl | hb
    · exact h
    · exact e3 b hb
theorem rpl_of : ∀ {ms : List GV}, (∀ b ∈ ms, c.Rp g H b.1 b.2) → c.RpL g H (ms.map (·.1)) (ms.map (·.2))
  | [], _ => .nil
  | b :: r, h => .cons (h b List.mem_cons_self) (rpl_of fun x hx => h x (List.mem_cons_of_mem _ hx))
theorem sort_data {x : G} {v : V} {k : KG} {Q : VK} {ys : List G} (ok : c.Ok g H st) (r : c.Rp g H x v) (e : seqZ st x = some ys) (h : sortG ys fun zs => k (.sq true zs) st) (hk : KeepG c g H k Q) : rSortedN c.K [v] H Q := by
  obtain ⟨a, vs, rfl, ha, rl⟩ := seqZ_rp ok r e
  unfold sortG at h
  have h1 := h.l
  have h2 := h.r.l
  have h3 := h.r.r.l
  have h4 := h.r.r.r
  rw [fL_eq] at h4
  obtain ⟨e1, e2, e3⟩ := zip_fst rl
  have ed : (ys.zip vs).map (fun b => toD 60 b.1) = ys.map (toD 60) := by
    have z := congrArg (List.map (toD 60)) e1
    rw [List.map_map] at z
    exact z
  have pm : ((ys.zip vs).mergeSort leD).Perm (ys.zip vs) := List.mergeSort_perm _ _
  have hlen := (sortB_perm (ltG 60) ys).length_eq
  refine ⟨a, ys.zip vs, rfl, by rw [e2]; exact ha, by rw [e2, ed]; exact dp_all (fun x v => dp_of 60 x v) h1 rl, ?_, by rw [ed]; exact sortable_is h3, ?_, fun p hp => ?_⟩
  · rw [ed]
    intro d hd d' hd'
    obtain ⟨y, hy, rfl⟩ := List.mem_map.mp hd
    obtain ⟨y', hy', rfl⟩ := List.mem_map.mp hd'
    rw [← alikeG_is 60 y y' (allG_mem h1 y hy) (allG_mem h1 y' hy')]
    exact allG_mem (allG_mem h2 y hy) y' hy'
  · have := blt_lt h4.r.l
    have hz : (ys.zip vs).length = ys.length := by rw [← List.length_map (f := (·.1)), e1]
    rw [hz, sizeLine_eq]; omega
  · have pw := List.pairwise_mergeSort leD_tr leD_tot (ys.zip vs)
    have pm1 : (((ys.zip vs).mergeSort leD).map (·.1)).Perm ys := by
      have := pm.map (·.1)
      rw [e1] at this
      exact this
    have es : ((ys.zip vs).mergeSort leD).map (·.1) = sortB (ltG 60) ys := by
      refine asc_strict (lt := ltG 60) (pm1.trans (sortB_perm (ltG 60) ys).symm) ?_ (ascB_is h4.l)
      refine List.pairwise_map.mpr (pw.imp_of_mem fun {a b} ma mb z => ?_)
      have ya : a.1 ∈ ys := pm1.mem_iff.mp (List.mem_map.mpr ⟨a, ma, rfl⟩)
      have yb : b.1 ∈ ys := pm1.mem_iff.mp (List.mem_map.mpr ⟨b, mb, rfl⟩)
      rw [ltG_is 60 b.1 a.1 (allG_mem h1 _ yb) (allG_mem h1 _ ya) (allG_mem (allG_mem h2 _ yb) _ ya)]
      rw [leD_lt] at z
      cases q : dataLt (toD 60 b.1) (toD 60 a.1) with
      | false => rfl
      | true => rw [q] at z; cases z
    have rm := rpl_of (c := c) (ms := (ys.zip vs).mergeSort leD) fun b hb => e3 b (pm.mem_iff.mp hb)
    rw [es] at rm
    obtain ⟨n2, r2⟩ := new_fix ok rm hp
    exact hk _ _ _ _ _ h4.r.r n2 r2
end
end RS

/-! RSMc: comprehensions of two clauses, stores of several names. -/
namespace RS
open PySem PySem.Spec L2
/-- the inner walk -/
def loopI (f : AtF) (t : EvG) (tt : EvT) (te : Ev) (l0 : L) (k : List G → Sto → Prop) : Nat → Nat → List G → Sto → Prop
  | 0, _, _, _ => False
  | m + 1, i, acc, st => match f st i with
    | none => False
    | some o => (match o with
      | none => k acc st
      | some y => t y l0 st fun l1 st1 => tt l1 st1 (fun b st2 => match b with
        | true => te l1 st2 (fun z st3 => ck (Nat.blt acc.length 10000) (fN (i + 1) fun j => loopI f t tt te l0 k m j (z :: acc) st3)) fun _ _ => False
        | false => fN (i + 1) fun j => loopI f t tt te l0 k m j acc st2) fun _ _ => False)
def loopO (f : AtF) (t : EvG) (tt : EvT) (it1 : EvI) (t1 : EvG) (tt1 : EvT) (te : Ev) (vs1 : List Nat) (l0 : L) (k : List G → Sto → Prop) : Nat → Nat → List G → Sto → Prop
  | 0, _, _, _ => False
  | m + 1, i, acc, st => match f st i with
    | none => False
    | some o => (match o with
      | none => k acc.reverse st
      | some y => t y l0 st fun l1 st1 => tt l1 st1 (fun b st2 => match b with
        | true => it1 l1 st2 (fun f1 st3 => fL (wipeL l1 vs1) fun l2 => loopI f1 t1 tt1 te l2 (fun acc' st4 => fN (i + 1) fun j => loopO f t tt it1 t1 tt1 te vs1 l0 k m j acc' st4) fuelC 0 acc st3) fun _ _ => False
        | false => fN (i + 1) fun j => loopO f t tt it1 t1 tt1 te vs1 l0 k m j acc st2) fun _ _ => False)
def eLc2K (vs : List Nat) (it : EvI) (t : EvG) (tt : EvT) (it1 : EvI) (t1 : EvG) (tt1 : EvT) (te : Ev) (vs1 : List Nat) (fin : KG → List G → Sto → Prop) : Ev := fun l st k ex => it l st (fun f st1 => fL (wipeL l vs) fun l0 => loopO f t tt it1 t1 tt1 te vs1 l0 (fun r st' => fL r fun r => ck (Nat.blt r.length 10000) (fin k r st')) fuelC 0 [] st1) ex
/-- where the list that is filled stands -/
structure Fill (c : Cf) (D : Addr) (g1 : Gh) (H1 : Hp) (g : Gh) (H : Hp) (st : Sto) (acc : List G) (us : List V) : Prop where
  ok : c.Ok g H st
  P : g.P D
  at_ : H D = some (.lst us)
  r : c.RpL g H acc.reverse us
  f : Fut g1 H1 (g.unpin D) H
section
variable {c : Cf}
theorem Fill.nw {D : Addr} {g1 g2 g3 : Gh} {H1 H2 H3 : Hp} {st st3 : Sto} {acc : List G} {us : List V} (F : Fill c D g1 H1 g2 H2 st acc us) (f : Fut g2 H2 g3 H3) (ok : c.Ok g3 H3 st3) : Fill c D g1 H1 g3 H3 st3 acc us := ⟨ok, f.P D F.P, f.pin D us F.P F.at_, F.r.fut f, F.f.trans f.unpin⟩
theorem Fill.add {D : Addr} {g1 g2 : Gh} {H1 H2 : Hp} {st : Sto} {acc : List G} {us : List V} {z : G} {v : V} (F : Fill c D g1 H1 g2 H2 st acc us) (r : c.Rp g2 H2 z v) : Fill c D g1 H1 g2 (upd H2 D (.lst (us ++ [v]))) st (z :: acc) (us ++ [v]) ∧ FutR g2 H2 g2 (upd H2 D (.lst (us ++ [v]))) := by
  obtain ⟨fw, okw, futw⟩ := pin_write (ws := us ++ [v]) F.ok F.P F.at_
  refine ⟨⟨okw, F.P, upd_same, ?_, F.f.trans futw⟩, fw⟩
  rw [List.reverse_cons]
  exact (F.r.futR fw).append (.cons (RS.Rp.futR fw r) .nil)
theorem lc2_tE {W : WX} {scope : Scope} {vs vs1 ss ss1 : List Nat} {it it1 : EvI} {t t1 : EvG} {tt tt1 : EvT} {te : Ev} {fin : KG → List G → Sto → Prop} (hf : FinOk c fin) (hss : ∀ i ∈ ss, i ∈ vs) (hss1 : ∀ i ∈ ss1, i ∈ vs1) {σ : L2.St} {H : Hp} {Q : VK}
    (q : tE c W (eLc2K vs it t tt it1 t1 tt1 te vs1 fin) σ H Q) : tLc2 (tI c W it) (tG (c.blk scope) ss t) (tT (c.blk scope) W0 tt) (tI (c.blk scope) W0 it1) (tG (c.blk scope) ss1 t1) (tT (c.blk scope) W0 tt1) (tE (c.blk scope) W0 te) vs vs1 σ H Q := by
  obtain ⟨g, l, st, k, ex, b, h, hk, hx⟩ := q
  refine ⟨g, l, st, _, ex, b, h, fun f st1 g1 H1 J h1 n1 ok1 => ?_, hx⟩
  intro D hD
  simp only [fL_eq] at h1
  have hl0 : RelL c g H (wipeL l vs) (wipe σ vs) := b.l.wipe vs
  generalize wipeL l vs = l0 at *
  obtain ⟨fA, okA, futA⟩ := pin_new (vs := []) n1.ok hD
  refine ⟨fun i m H => ∃ g acc st us, Fill c D g1 H1 g H st acc us ∧ loopO f t tt it1 t1 tt1 te vs1 l0 (fun r st' => ck (Nat.blt r.length 10000) (fin k r st')) m i acc st, ⟨fuelC, g1.pin D, [], st1, [], ⟨okA, .inr rfl, upd_same, .nil, futA⟩, h1⟩, ?_⟩
  clear h h1
  rintro i m H2 ⟨g2, acc, st2, us, F2, h2⟩
  have f12 : Fut g1 H1 g2 H2 := F2.f.trans fut_unpin
  cases m with
  | zero => exact h2.elim
  | succ m =>
    unfold loopO at h2
    cases e : f st2 i with
    | none => simp only [e] at h2
    | some o =>
      simp only [e] at h2
      cases o with
      | none =>
        refine .inl ⟨(ok1 g2 H2 st2 i f12.toFutR F2.ok).1 e, ?_⟩
        obtain ⟨x, st3, g3, hk3, f3, ok3, r3⟩ := hf k acc.reverse st2 g2 H2 D us h2.r F2.ok F2.P F2.at_ F2.r
        exact hk x st3 g3 H2 (.ref D) hk3 (n1.trans ⟨F2.f.trans f3, ok3⟩) r3
      | some y =>
        obtain ⟨hgo, hy⟩ := (ok1 g2 H2 st2 i f12.toFutR F2.ok).2 y e
        simp only [fN_eq, fL_eq] at h2
        refine .inr ⟨hgo, fun H => ∃ g acc st us, Fill c D g1 H1 g H st acc us ∧ loopO f t tt it1 t1 tt1 te vs1 l0 (fun r st' => ck (Nat.blt r.length 10000) (fin k r st')) m (i + 1) acc st, fun H' z => ⟨m, Nat.lt_succ_self _, z⟩, fun x H' yy => ?_⟩
        obtain ⟨g3, n3, r3⟩ := hy x H' yy
        have b3 : Bs (c.blk scope) g3 H' st2 l0 (wipe σ vs) := ⟨n3.ok, hl0.futR (n1.f.toFutR.trans (f12.toFutR.trans n3.f.toFutR)), fun p hp => nomatch hp⟩
        refine ⟨g3, l0, st2, y, _, b3, r3, h2, fun l4 st4 g4 H4 σ4 h4 f4 b4 a4 => ⟨wipe_agr a4 hss, g4, l4, st4, _, _, b4, h4, fun d st5 g5 H5 h5 n5 => ?_, fun _ _ _ _ _ _ z => z.elim⟩⟩
        have f25 : Fut g2 H2 g5 H5 := n3.f.trans (f4.trans n5.f)
        cases d with
        | false =>
          show ∃ g acc st us, _
          exact ⟨g5, acc, st5, us, F2.nw f25 n5.ok, h5⟩
        | true =>
          show tI _ _ _ _ _ _
          refine ⟨g5, l4, st5, _, _, b4.nw n5, h5, fun f1 st6 g6 H6 J1 h6 n6 ok6 => ?_, fun _ _ _ _ _ _ z => z.elim⟩
          have F6 := F2.nw (f25.trans n6.f) n6.ok
          have hl2 : RelL (c.blk scope) g4 H4 (wipeL l4 vs1) (wipe σ4 vs1) := b4.l.wipe vs1
          generalize wipeL l4 vs1 = l2 at *
          have hl6 : RelL (c.blk scope) g6 H6 l2 (wipe σ4 vs1) := hl2.futR (n5.f.trans n6.f).toFutR
          refine ⟨fun j n H => ∃ g acc' st us, Fill c D g1 H1 g H st acc' us ∧ FutR g6 H6 g H ∧ loopI f1 t1 tt1 te l2 (fun acc' st4 => loopO f t tt it1 t1 tt1 te vs1 l0 (fun r st' => ck (Nat.blt r.length 10000) (fin k r st')) m (i + 1) acc' st4) n j acc' st, ⟨fuelC, g6, acc, st6, us, F6, .refl, h6⟩, ?_⟩
          clear h6 h5 h4 h2
          rintro j n H7 ⟨g7, acc7, st7, us7, F7, R7, h7⟩
          cases n with
          | zero => exact h7.elim
          | succ n =>
            unfold loopI at h7
            cases e7 : f1 st7 j with
            | none => simp only [e7] at h7
            | some o7 =>
              simp only [e7] at h7
              cases o7 with
              | none => exact .inl ⟨(ok6 g7 H7 st7 j R7 F7.ok).1 e7, g7, acc7, st7, us7, F7, h7⟩
              | some y7 =>
                obtain ⟨hgo7, hy7⟩ := (ok6 g7 H7 st7 j R7 F7.ok).2 y7 e7
                simp only [fN_eq] at h7
                refine .inr ⟨hgo7, fun H => ∃ g acc' st us, Fill c D g1 H1 g H st acc' us ∧ FutR g6 H6 g H ∧ loopI f1 t1 tt1 te l2 (fun acc' st4 => loopO f t tt it1 t1 tt1 te vs1 l0 (fun r st' => ck (Nat.blt r.length 10000) (fin k r st')) m (i + 1) acc' st4) n (j + 1) acc' st, fun H' z => ⟨n, Nat.lt_succ_self _, z⟩, fun x H8 yy => ?_⟩
                obtain ⟨g8, n8, r8⟩ := hy7 x H8 yy
                have b8 : Bs (c.blk scope) g8 H8 st7 l2 (wipe σ4 vs1) := ⟨n8.ok, hl6.futR (R7.trans n8.f.toFutR), fun p hp => nomatch hp⟩
                refine ⟨g8, l2, st7, y7, _, b8, r8, h7, fun l9 st9 g9 H9 σ9 h9 f9 b9 a9 => ⟨wipe_agr a9 hss1, g9, l9, st9, _, _, b9, h9, fun d st10 g10 H10 h10 n10 => ?_, fun _ _ _ _ _ _ z => z.elim⟩⟩
                have f710 : Fut g7 H7 g10 H10 := n8.f.trans (f9.trans n10.f)
                cases d with
                | false =>
                  show ∃ g acc' st us, _
                  exact ⟨g10, acc7, st10, us7, F7.nw f710 n10.ok, R7.trans f710.toFutR, h10⟩
                | true =>
                  show tE _ _ _ _ _ _
                  refine ⟨g10, l9, st10, _, _, b9.nw n10, h10, fun z st11 g11 H11 v h11 n11 r11 => ?_, fun _ _ _ _ _ _ z => z.elim⟩
                  have F11 := F7.nw (f710.trans n11.f) n11.ok
                  obtain ⟨F12, R12⟩ := F11.add r11
                  have hlen : acc7.length = us7.length := by
                    have := F7.r.length
                    rw [List.length_reverse] at this
                    exact this
                  have hz := blt_lt h11.l
                  exact ⟨us7, F11.at_, by rw [sizeLine_eq]; omega, g11, z :: acc7, st11, us7 ++ [v], F12, R7.trans (f710.toFutR.trans (n11.f.toFutR.trans R12)), h11.r⟩
section
variable {elt tg iter tg1 iter1 : Expr} {ifs ifs1 : List Expr} {scope : Scope} {own : List (Str × Nat)} {pos spos py : Pos} {it it1 : EvI} {t t1 : EvG} {tt tt1 : EvT} {te : Ev} {ss ss1 vs1 : List Nat} {fin : KG → List G → Sto → Prop} {y : Str}
def subN2 (a b : List Nat) : Bool := a.all fun i => b.any fun j => Nat.beq i j
theorem subN2_mem {a b : List Nat} (h : subN2 a b = true) : ∀ i ∈ a, i ∈ b := fun i hi => by
  unfold subN2 at h
  rw [List.all_eq_true] at h
  obtain ⟨j, hj, e⟩ := List.any_eq_true.mp (h i hi)
  rw [Nat.eq_of_beq_eq_true e]; exact hj
theorem v_lc2K (vs1 : List Nat) (hf : FinOk c fin) (hc : c.cm = true) (hi : EI c tg iter it) (hb : blkC c.N c.sc scope own = true) (hg : EG (c.blk scope) tg ss t) (ht : ETs (c.blk scope) ifs tt) (hi1 : EI (c.blk scope) tg1 iter1 it1) (hg1 : EG (c.blk scope) tg1 ss1 t1) (ht1 : ETs (c.blk scope) ifs1 tt1) (he : EE (c.blk scope) elt te)
    (hss : subS ss own = true) (hss1 : subN2 ss1 vs1 = true) (hv : subS vs1 own = true) (hs : ∀ env x, foldedSetIterable iter env x = pure x) (hs1 : ∀ env x, foldedSetIterable iter1 env x = pure x) : EE c (.ListComp elt [⟨tg, iter, ifs, 0⟩, ⟨tg1, iter1, ifs1, 0⟩] scope pos) (eLc2K (own.map (·.2)) it t tt it1 t1 tt1 te vs1 fin) := fun X hX W tk => by
  have nd := hX.nd
  have cm := hX.calm
  have hI := hi X hX W tk
  have b1 := fun s H C cl fp => hg _ (hX.blk (s := s) (H := H) (scope := scope) (C := C) (cl := cl) (fp := fp))
  have b2 := fun s H C cl fp => ht _ (hX.blk (s := s) (H := H) (scope := scope) (C := C) (cl := cl) (fp := fp)) W0 takes0
  have b3 := fun s H C cl fp => he _ (hX.blk (s := s) (H := H) (scope := scope) (C := C) (cl := cl) (fp := fp)) W0 takes0
  have b4 := fun s H C cl fp => hi1 _ (hX.blk (s := s) (H := H) (scope := scope) (C := C) (cl := cl) (fp := fp)) W0 takes0
  have b5 := fun s H C cl fp => hg1 _ (hX.blk (s := s) (H := H) (scope := scope) (C := C) (cl := cl) (fp := fp))
  have b6 := fun s H C cl fp => ht1 _ (hX.blk (s := s) (H := H) (scope := scope) (C := C) (cl := cl) (fp := fp)) W0 takes0
  obtain ⟨cl', n, cm', fr, fk, px, rfl⟩ := hX.eq
  exact (pe_lc2 (X := X) (vs1 := vs1) (cm.trans hc) nd hI (blkOk_by hb) (subS_mem hv) b1 b2 b4 b5 b6 b3 (hs _) hs1).imp fun σ H Q q => lc2_tE hf (subS_mem hss) (subN2_mem hss1) q
theorem v_lc2 (vs1 : List Nat) (hc : c.cm = true) (hi : EI c tg iter it) (hb : blkC c.N c.sc scope own = true) (hg : EG (c.blk scope) tg ss t) (ht : ETs (c.blk scope) ifs tt) (hi1 : EI (c.blk scope) tg1 iter1 it1) (hg1 : EG (c.blk scope) tg1 ss1 t1) (ht1 : ETs (c.blk scope) ifs1 tt1) (he : EE (c.blk scope) elt te)
    (hss : subS ss own = true) (hss1 : subN2 ss1 vs1 = true) (hv : subS vs1 own = true) (hs : ∀ env x, foldedSetIterable iter env x = pure x := by intro _ _; rfl) (hs1 : ∀ env x, foldedSetIterable iter1 env x = pure x := by intro _ _; rfl) :
    EE c (.ListComp elt [⟨tg, iter, ifs, 0⟩, ⟨tg1, iter1, ifs1, 0⟩] scope pos) (eLc2K (own.map (·.2)) it t tt it1 t1 tt1 te vs1 finS) := v_lc2K vs1 fin_s hc hi hb hg ht hi1 hg1 ht1 he hss hss1 hv hs hs1
end
/-! ### a, b, .. = x, y, .. where the stores aren't swapped; three swapped ones -/
def locB (sc : Scope) (ts : List Expr) : Bool := ts.all fun e => match e with
  | .Name x _ => sc.names.lookup x == some .local
  | _ => false
def swB (sc : Scope) (ts vs : List Expr) : Bool := !(ts.length == 2 || ts.length == 3) || (vs.length != ts.length || (!locB sc ts || vs.all (foldedForSure 8)))
theorem filterMap_lt {α β : Type} {f : α → Option β} : ∀ {l : List α}, (∃ x ∈ l, f x = none) → (l.filterMap f).length < l.length
  | [], ⟨_, h, _⟩ => nomatch h
  | x :: r, ⟨y, h, e⟩ => by
    cases q : f x with
    | none =>
      rw [List.filterMap_cons_none q]
      exact Nat.lt_succ_of_le (List.length_filterMap_le f r)
    | some z =>
      rw [List.filterMap_cons_some q]
      refine Nat.succ_lt_succ (filterMap_lt ⟨y, ?_, e⟩)
      rcases List.mem_cons.mp h with rfl | h
      · rw [e] at q; cases q
      · exact h
theorem sw_none {env : Env} {ts vs : List Expr} {kt k2 : Nat} {pt p2 : Pos} (h : swB env.scope ts vs = true) : swappedStores [.Tuple ts kt pt] (.Tuple vs k2 p2) env = pure none := by
  unfold swB at h
  unfold swappedStores
  simp only
  by_cases h1 : (!(ts.length == 2 || ts.length == 3) || vs.length != ts.length || env.blockKind != .function) = true
  · rw [if_pos h1]
  · rw [if_neg h1]
    by_cases h2 : (vs.any fun | .Starred .. => true | _ => false) = true
    · exact if_pos h2
    · refine (if_neg h2).trans ?_
      have h1a : (!(ts.length == 2 || ts.length == 3)) = false := by
        cases z : (!(ts.length == 2 || ts.length == 3)) with
        | false => rfl
        | true => rw [z] at h1; exact absurd rfl h1
      have h1b : (vs.length != ts.length) = false := by
        cases z : (vs.length != ts.length) with
        | false => rfl
        | true => rw [z, Bool.or_true] at h1; exact absurd rfl h1
      rw [h1a, h1b, Bool.false_or, Bool.false_or, Bool.or_eq_true] at h
      rcases h with h | h
      · refine (if_pos ?_).trans rfl
        have hl : ∃ x ∈ ts, (match x with
            | Expr.Name id pos => if (env.kindOf id == some NameKind.local && pos.line == (Option.map (fun x => x.pos.line) ts.head?).getD 0) = true then some id else none
            | _ => none) = none := by
          unfold locB at h
          have h := (Bool.not_eq_true' _).mp h
          rw [List.all_eq_false] at h
          obtain ⟨x, hx, e⟩ := h
          refine ⟨x, hx, ?_⟩
          cases x <;> try rfl
          rename_i id pos
          have e : (env.scope.names.lookup id == some NameKind.local) = false := by simpa using e
          have e2 : (env.kindOf id == some NameKind.local) = false := e
          simp only [e2, Bool.false_and, Bool.false_eq_true, if_false]
        have := filterMap_lt hl
        simp only [Bool.or_eq_true]
        exact .inl (bne_iff_ne.mpr (Nat.ne_of_lt this))
      · rw [h]
        split <;> rfl
end
end RS

/-! RSG: sorted(set(..)) of ints. -/
namespace RSG
open PySem PySem.Spec PyProof.Rows L2
def newSetO (wd : World) : Obj := { cls := .type "set", dict := none, data := .set #[] 0 (.fresh 0 0 (!wd.params.followText "set-order")) }
section
variable {pg : Program} {wd : World} {B : Around} {F0 : Value → Shared → Prop} {sh : Shared}
set_option maxHeartbeats 3200000 in
/-- set(l), l a list of ints -/
theorem set_of_list {l : Addr} {vs : Array Value} (ms : List Int) {Q : Value → Shared → Prop} (calm : B.handled = none) (hl : sh.heap.IsList l vs) (hi : IntsAre vs.toList ms) (few : ms.length + 1 < scanBound)
    (fin : ∀ (h2 : Heap) (tk c : Nat), SetR wd h2 sh.heap.objs.size (fun j => decide (j ∈ ms)) c → c ≤ ms.length → (∀ b o, sh.heap.get? b = some o → h2.get? b = some o) → Q (.ref sh.heap.objs.size) { sh with heap := h2, toks := tk }) :
    wpAny (model pg wd) B (call (.type "set") [.ref l]) Q F0 sh := by
  have nv : vs.size = ms.length := by
    have q := IntsAre.length hi
    rw [Array.length_toList] at q
    exact q
  obtain ⟨c, tl, hmro⟩ := F.called_set.mro
  have m1 := F.called_set.made
  have m2 := F.called_set.sub
  refine wpAny_call (codeAny_of_tree (show wpAny _ _ (callAny (.type "set") _) _ _ _ from ?_))
  refine wpAny_pure ⟨Code.quiet_builtin _ (by decide +kernel), codeAny_builtin F.entry_type_call ?_⟩
  rw [Around.under_plain (weight_type_call_type "set" [.ref l] []) rfl]
  have m3 := F.called_set.notType
  have m4 := F.called_set.canCreate
  have m5 := F.typeCall_set_1 (.ref l)
  repeat (any_goals (first | assumption | wp_step))
  refine codeAny_mono (code_set_led1 (.ref l) (E := F0) (Q₁ := fun x s1 => x = .ref sh.heap.objs.size ∧ s1 = { sh with heap := sh.heap.push (newSetO wd) }) ⟨rfl, rfl⟩) fun r s1 hr => ?_
  cases r with
  | error e => exact hr
  | ok fl =>
    cases fl <;> try exact hr.elim
    rename_i x
    obtain ⟨ex, es⟩ := hr
    subst ex es
    have got : (sh.heap.push (newSetO wd)).get? sh.heap.objs.size = some (newSetO wd) := Heap.get?_push_size _ rfl
    have typ : Shared.TypeIs { sh with heap := sh.heap.push (newSetO wd) } (.ref sh.heap.objs.size) "set" := ⟨_, got, rfl⟩
    have m6 := F.called_set.init.lookup
    have m7 := F.called_set.init.bind (.ref sh.heap.objs.size)
    repeat (any_goals (first | assumption | wp_step))
    refine codeAny_mono (codeAny_call_builtin (R := wants (fun r s2 => r = .none ∧ ∃ h2 tk c, s2 = { sh with heap := h2, toks := tk } ∧ SetR wd h2 sh.heap.objs.size (fun j => decide (j ∈ ms)) c ∧ c ≤ ms.length ∧ ∀ b o, sh.heap.get? b = some o → h2.get? b = some o) F0)
      F.called_set.init.plain F.entry_set_init (check_set_init_1 typ ?_)) fun r2 s2 hr2 => ?_
    · obtain ⟨⟨k1, k2, k3, k4⟩, hol, hc, nl, hd⟩ := hl
      simp only at hc hd
      subst hc hd
      have hol2 : (sh.heap.push (newSetO wd)).get? l = some { cls := .type "list", dict := k2, data := .seq vs nl, slots := k4 } := Heap.get?_push_of_some _ hol
      have n1 := F.sub_list_set
      have n2 := F.sub_list_frozenset
      have n3 : (Value.type "list" == Value.type "dict") = false := by decide
      have hl2 : (sh.heap.push (newSetO wd)).IsList l vs := ⟨_, hol2, rfl, nl, rfl⟩
      unfold Builtin.«set.__init__» noKeywords Builtin.Frozenset.updateFrom
      generalize hPI : pyIter = PI
      wp_walk
      subst hPI
      refine wpAny_pyIter_list hl2 ?_
      refine wpAny_bind (wpAny_runValue ?_)
      have lt : l < sh.heap.objs.size := Heap.lt_size hol
      have calm3 : B.in1.in1.in1.handled = none := by simp [calm]
      have neI : l ≠ (sh.heap.push (newSetO wd)).objs.size := by rw [Heap.size_push]; exact Nat.ne_of_lt (Nat.lt_succ_of_lt lt)
      have off : sh.heap.objs.size ∉ [(sh.heap.push (newSetO wd)).objs.size, l] := by
        rw [Heap.size_push]
        intro z
        rcases List.mem_cons.mp z with z | z
        · exact absurd z (Nat.ne_of_lt (Nat.lt_succ_self _))
        · exact absurd (List.mem_singleton.mp z) (Nat.ne_of_gt lt)
      have vals : ∀ (i : Nat) (v : Value), vs[i]? = some v → ∃ k t, ms[i]? = some k ∧ v = .int k t := fun i v hv => by
        have lti : i < ms.length := by rw [← nv]; exact (Array.getElem?_eq_some_iff.mp hv).1
        obtain ⟨t, e⟩ := PyProof.Rows.IntsAre.int_at hi i v (by rw [Array.getElem?_toList]; exact hv)
        refine ⟨ms[i], t, List.getElem?_eq_getElem lti, ?_⟩
        rw [e, List.getD_eq_getElem?_getD, List.getElem?_eq_getElem lti] <;> rfl
      refine set_update_ints ((Walks.list calm3 _ l neI vs).toS) sh.heap.objs.size off ms nv few vals (vs.size - 0) 0 _ (by omega) (Nat.zero_le _) ⟨⟨_, Heap.get?_push_size _ rfl, rfl, rfl⟩, (hl2.push _)⟩ ?start ?stop
      case start => exact ⟨0, Nat.le_refl 0, setR_new_at (Heap.get?_push_of_some _ got)⟩
      case stop =>
        intro s3 c3 hm hc3 hS3
        obtain ⟨h3, g3, d3, tk3, os3⟩ := s3
        obtain rfl : g3 = sh.gens := hm.gens
        obtain rfl : d3 = sh.drawn := hm.drawn
        obtain rfl : os3 = sh.os := hm.os
        refine wpAny_pure (show wpAny _ _ (ret Value.none) _ _ _ from ?_)
        rw [nv] at hc3
        refine wpAny_pure ⟨rfl, h3, tk3, c3, rfl, hS3, hc3, fun b o e => ?_⟩
        have b0 : b < sh.heap.objs.size := Heap.lt_size e
        refine hm.heap b o (fun z => ?_) (Heap.get?_push_of_some _ (Heap.get?_push_of_some _ e))
        rcases List.mem_cons.mp z with z | z
        · exact absurd z (Nat.ne_of_lt b0)
        · have z := List.mem_singleton.mp z
          rw [Heap.size_push] at z
          exact absurd z (Nat.ne_of_lt (Nat.lt_succ_of_lt b0))
    · cases r2 with
      | error e => exact hr2
      | ok fl2 =>
        cases fl2 <;> try exact hr2.elim
        obtain ⟨e1, h3, tk3, c3, e2, hS3, hc3, hk3⟩ := hr2
        subst e1 e2
        repeat (any_goals (first | assumption | wp_step))
        exact fin _ _ _ hS3 hc3 hk3
end
end RSG

/-! RSCt: what a def made for itself is dropped when it ends. -/
namespace RS
open PySem PySem.Spec L2
def noRef (n : Nat) (x : G) : Bool := match x with
  | .ref _ => false
  | .sw _ => false
  | .sq _ xs => (match n with
    | 0 => false
    | m + 1 => allG (noRef m) xs)
  | _ => true
def keepN (n : Nat) : List (Nat × O) → List (Nat × O)
  | [] => []
  | p :: r => match Nat.blt p.1 n with
    | true => p :: keepN n r
    | false => keepN n r
def fkeep (n : Nat) : List (Nat × O) → (List (Nat × O) → Prop) → Prop
  | [], k => k []
  | p :: r, k => match Nat.blt p.1 n with
    | true => fkeep n r fun r' => k (p :: r')
    | false => fkeep n r k
theorem fkeep_eq (n : Nat) : ∀ (l : List (Nat × O)) (k : List (Nat × O) → Prop), fkeep n l k = k (keepN n l)
  | [], _ => rfl
  | p :: r, k => by
    unfold fkeep keepN
    cases Nat.blt p.1 n with
    | true => exact fkeep_eq n r fun r' => k (p :: r')
    | false => exact fkeep_eq n r k
theorem getO_keep (n m : Nat) (o : O) : ∀ l : List (Nat × O), getO (keepN n l) m = some o → getO l m = some o
  | [], h => h
  | p :: r, h => by
    unfold keepN at h
    rw [getO_cons]
    cases e : Nat.blt p.1 n with
    | true =>
      rw [e] at h
      have h : getO (p :: keepN n r) m = some o := h
      rw [getO_cons] at h
      by_cases q : p.1 = m
      · rw [if_pos q] at h ⊢; exact h
      · rw [if_neg q] at h ⊢; exact getO_keep n m o r h
    | false =>
      rw [e] at h
      have h : getO (keepN n r) m = some o := h
      by_cases q : p.1 = m
      · exfalso
        have lt : m < n := getO_keep_lt n m o r h
        rw [← q] at lt
        have z : Nat.blt p.1 n = true := Nat.ble_eq_true_of_le lt
        rw [e] at z; cases z
      · rw [if_neg q]; exact getO_keep n m o r h
where
  getO_keep_lt (n m : Nat) (o : O) : ∀ l : List (Nat × O), getO (keepN n l) m = some o → m < n
  | [], h => nomatch h
  | p :: r, h => by
    unfold keepN at h
    cases e : Nat.blt p.1 n with
    | true =>
      rw [e] at h
      have h : getO (p :: keepN n r) m = some o := h
      rw [getO_cons] at h
      by_cases q : p.1 = m
      · rw [← q]; exact blt_lt e
      · rw [if_neg q] at h; exact getO_keep_lt n m o r h
    | false =>
      rw [e] at h
      exact getO_keep_lt n m o r h
def cutK (n : Nat) (v : G) (st : Sto) (k : KG) : Prop := match Nat.beq st.sz n with
  | true => k v st
  | false => (match noRef 60 v with
    | true => fkeep n st.ob fun ob => fN st.sz fun z => k v ⟨z, ob⟩
    | false => k v st)
def cutX (n : Nat) (x : Nat) (st : Sto) (ex : KX) : Prop := match Nat.beq st.sz n with
  | true => ex x st
  | false => fkeep n st.ob fun ob => fN st.sz fun z => ex x ⟨z, ob⟩
/-- a def's run, cut -/
def runC (m n : Nat) (b : EvS) (xs : List G) (st : Sto) (k : KG) (ex : KX) : Prop := fN st.sz fun z => runB m n b xs st (fun v st' => cutK z v st' k) fun x st' => cutX z x st' ex
theorem StOk.keep {K : PySem.W.Frag} {cl : Nat → Addr} {g : Gh} {H : Hp} {st : Sto} (s : StOk K cl g H st) (n : Nat) : StOk K cl g H ⟨st.sz, keepN n st.ob⟩ :=
  s.weak rfl fun m o e => ⟨o, getO_keep n m o _ e, fun _ _ h => h⟩
theorem cut_imp {K : PySem.W.Frag} {cl : Nat → Addr} {Φ ΦB : Fn} {fid m n : Nat} {b : EvS} (hΦ : ∀ xs st k ex, Φ fid xs st k ex → runC m n b xs st k ex) (hB : ∀ xs st k ex, runB m n b xs st k ex → ΦB fid xs st k ex) (vs : List V) (H : Hp) (Q : VK) (E : XK) (h : spOf K cl Φ fid vs H Q E) : spOf K cl ΦB fid vs H Q E := by
  obtain ⟨g, st, xs, k, ex, ok, r, h, hk, hx⟩ := h
  have h := hΦ _ _ _ _ h
  unfold runC at h
  rw [fN_eq] at h
  refine ⟨g, st, xs, _, _, ok, r, hB _ _ _ _ h, ?_, ?_⟩
  · intro v st' g' H' val z f ok' rp
    unfold cutK at z
    split at z
    · exact hk _ _ g' H' val z f ok' rp
    · split at z
      · rw [fkeep_eq, fN_eq] at z
        exact hk _ _ g' H' val z f (ok'.keep _) rp
      · exact hk _ _ g' H' val z f ok' rp
  · intro x st' g' H' z f ok'
    unfold cutX at z
    split at z
    · exact hx _ _ g' H' z f ok'
    · rw [fkeep_eq, fN_eq] at z
      exact hx _ _ g' H' z f (ok'.keep _)
theorem runC_len {m n : Nat} {b : EvS} {xs : List G} {st : Sto} {k : KG} {ex : KX} (h : runC m n b xs st k ex) : xs.length = m := by
  unfold runC at h
  rw [fN_eq] at h
  exact Nat.eq_of_beq_eq_true h.l
end RS

/-! RSGs: sorted(set(x)) of ints, sorted of data; three names stored at once. -/
namespace L2
open PySem PySem.Spec PyProof.Rows
section
variable {X : Cx}
/-- set(x), x a list of few ints -/
def rSetOfL (K : PySem.W.Frag) (w : World) : List V → Hp → VK → Prop := fun xs H Q => ∃ (l : Addr) (ms : List Int), xs = [V.ref l] ∧ SqL K H l (ms.map V.int) ∧ ms.length < 64 ∧ ∀ p c, c ≤ ms.length → H p = none → Q (.ref p) (upd H p (SetO w p (fun j => decide (j ∈ ms)) c))
theorem cr_setL (hc : X.calm = true) : CallR X (.type "set") (rSetOfL X.K X.w) := by
  intro pins s σ H xs us Q I r ⟨l, ms, ex, hl, h64, q⟩
  subst ex
  rw [Vals.ref1 r]
  obtain ⟨its, rv, pl, _⟩ := I.list hl
  refine RSG.set_of_list ms (I.ok.hd hc) pl.isList rv.ints (by unfold scanBound; omega) fun h2 tk c R hz hk => ?_
  exact ⟨.ref s.heap.objs.size, _, I.laid (t' := tk) hk (Nat.le_refl _) (setO_new R), rfl, q _ c hz (I.hok.fresh (Nat.le_refl _))⟩
end
end L2
namespace RS
open PySem PySem.Spec L2
/-! ### sorted(set(x)) -/
def insU (x : Int) : List Int → List Int
  | [] => [x]
  | y :: r => match PySem.W.Z.ltB y x with
    | true => y :: insU x r
    | false => (match PySem.W.Z.eqB y x with
      | true => y :: r
      | false => x :: y :: r)
def sortU : List Int → List Int
  | [] => []
  | x :: r => insU x (sortU r)
theorem insU_mem (x k : Int) : ∀ l, k ∈ insU x l ↔ k = x ∨ k ∈ l
  | [] => by simp [insU]
  | y :: r => by
    unfold insU
    rw [ltB_dec, eqB_dec]
    by_cases h : y < x
    · rw [decide_eq_true h]
      show k ∈ y :: insU x r ↔ _
      rw [List.mem_cons, insU_mem x k r, List.mem_cons]
      constructor
      · rintro (h | h | h)
        · exact .inr (.inl h)
        · exact .inl h
        · exact .inr (.inr h)
      · rintro (h | h | h)
        · exact .inr (.inl h)
        · exact .inl h
        · exact .inr (.inr h)
    · rw [decide_eq_false h]
      by_cases e : y = x
      · rw [decide_eq_true e]
        subst e
        show k ∈ y :: r ↔ _
        rw [List.mem_cons]
        constructor
        · exact .inr
        · rintro (h | h)
          · exact .inl h
          · exact h
      · rw [decide_eq_false e]
        show k ∈ x :: y :: r ↔ _
        rw [List.mem_cons]
theorem sortU_mem (k : Int) : ∀ l, k ∈ sortU l ↔ k ∈ l
  | [] => Iff.rfl
  | x :: r => by
    show k ∈ insU x (sortU r) ↔ _
    rw [insU_mem, sortU_mem k r, List.mem_cons]
theorem insU_asc (x : Int) : ∀ l : List Int, l.Pairwise (· < ·) → (insU x l).Pairwise (· < ·)
  | [], _ => List.pairwise_singleton _ _
  | y :: r, h => by
    obtain ⟨h1, h2⟩ := List.pairwise_cons.mp h
    unfold insU
    rw [ltB_dec, eqB_dec]
    by_cases q : y < x
    · rw [decide_eq_true q]
      refine List.pairwise_cons.mpr ⟨fun z hz => ?_, insU_asc x r h2⟩
      rcases (insU_mem x z r).mp hz with rfl | hz
      · exact q
      · exact h1 z hz
    · rw [decide_eq_false q]
      by_cases e : y = x
      · rw [decide_eq_true e]; exact h
      · rw [decide_eq_false e]
        refine List.pairwise_cons.mpr ⟨fun z hz => ?_, h⟩
        rcases List.mem_cons.mp hz with rfl | hz
        · omega
        · have := h1 z hz
          omega
theorem sortU_asc : ∀ l, (sortU l).Pairwise (· < ·)
  | [] => .nil
  | x :: r => insU_asc x _ (sortU_asc r)
theorem asc_mem : ∀ {a b : List Int}, a.Pairwise (· < ·) → b.Pairwise (· < ·) → (∀ k, k ∈ a ↔ k ∈ b) → a = b
  | [], [], _, _, _ => rfl
  | [], y :: t, _, _, h => absurd ((h y).mpr List.mem_cons_self) (by simp)
  | x :: r, [], _, _, h => absurd ((h x).mp List.mem_cons_self) (by simp)
  | x :: r, y :: t, ha, hb, h => by
    obtain ⟨a1, a2⟩ := List.pairwise_cons.mp ha
    obtain ⟨b1, b2⟩ := List.pairwise_cons.mp hb
    have e : x = y := by
      rcases List.mem_cons.mp ((h x).mp List.mem_cons_self) with e | hx
      · exact e
      · rcases List.mem_cons.mp ((h y).mpr List.mem_cons_self) with e | hy
        · exact e.symm
        · have := b1 x hx
          have := a1 y hy
          omega
    subst e
    congr 1
    refine asc_mem a2 b2 fun k => ?_
    have hk := h k
    rw [List.mem_cons, List.mem_cons] at hk
    constructor
    · intro z
      have := a1 k z
      rcases hk.mp (.inr z) with q | q
      · omega
      · exact q
    · intro z
      have := b1 k z
      rcases hk.mpr (.inr z) with q | q
      · omega
      · exact q
section
variable {c : Cf} {e : Expr} {ea : Ev} {p p2 q pos : Pos}
def eSortSet (a : Ev) : Ev := fun l st k ex => a l st (fun x st1 => match seqL st1 x with
  | some ys => (match intsG ys with
    | some ns => ck (Nat.blt ns.length 64) (fL (sortU ns) fun zs => fL (zs.map G.int) fun ys => k (.sq true ys) st1)
    | none => False)
  | none => False) ex
theorem v_sortSet (hc : c.cm = true) (ha : EE c e ea) (hg : c.sc.names.lookup ("sorted" : Str) = some .globalImplicit) (hm : c.mg ("sorted" : Str) = none) (hv : bootBuiltins ("sorted" : Str) = some (.builtin "sorted")) (hg2 : c.sc.names.lookup ("set" : Str) = some .globalImplicit) (hm2 : c.mg ("set" : Str) = none) (hv2 : bootBuiltins ("set" : Str) = some (.type "set"))
    (he : ∀ env, starEach [e] env = (false, eval e env) :: starEach [] env := by intro _; rfl) : EE c (.Call (.Name "sorted" p) [.Call (.Name "set" p2) [e] [] q] [] pos) (eSortSet ea) := fun X hX W tk => by
  have hA := x_cons ha x_nil he X hX W tk
  have hcm := hX.calm
  obtain ⟨cl, n, cm, fr, fk, px, rfl⟩ := hX.eq
  have hcal : X.calm = true := by rw [hcm]; exact hc
  have inner := pe_callTy (X := X) (x := "set") (p := p2) (pos := q) (cr_setL hcal) hg2 hm2 hv2 hA (by decide +kernel) (by decide +kernel) (he _) rfl
  refine (pe_callB (X := X) (x := "sorted") (p := p) (pos := pos) (cr_sortedSet hcal) hg hm hv (pa_cons inner pa_nil rfl) (by decide +kernel) (by decide +kernel) rfl rfl).imp fun σ H Q q => ?_
  obtain ⟨g, l, st, k, ex, b, h, hk, hx⟩ := q
  refine ⟨g, l, st, (fun xs st1 => match xs with
    | [x] => (match seqL st1 x with
      | some ys => (match intsG ys with
        | some ns => ck (Nat.blt ns.length 64) (fL (sortU ns) fun zs => fL (zs.map G.int) fun ys => k (.sq true ys) st1)
        | none => False)
      | none => False)
    | _ => False), ex, b, h, fun xs st1 g1 H1 vs h1 n1 r1 => ?_, hx⟩
  cases r1 with
  | nil => exact h1.elim
  | cons r1 r2 =>
    cases r2 with
    | cons _ _ => exact h1.elim
    | nil =>
      rename_i x v
      have h1 : (match seqL st1 x with
        | some ys => (match intsG ys with
          | some ns => ck (Nat.blt ns.length 64) (fL (sortU ns) fun zs => fL (zs.map G.int) fun ys => k (.sq true ys) st1)
          | none => False)
        | none => False) := h1
      cases e1 : seqL st1 x with
      | none => simp only [e1] at h1
      | some ys =>
        simp only [e1] at h1
        cases e2 : intsG ys with
        | none => simp only [e2] at h1
        | some ns =>
          simp only [e2] at h1
          have h64 := blt_lt h1.l
          have h2 := h1.r
          rw [fL_eq, fL_eq] at h2
          obtain ⟨a, us, rfl, hl, rl⟩ := seqL_rp n1.ok r1 e1
          rw [intsG_rp rl e2] at hl
          refine ⟨a, ns, rfl, .of hl, h64, fun pp cc hcc hp => ?_⟩
          refine ⟨pp, _, cc, rfl, upd_same, by omega, fun zs p3 asc mem hlen hp3 => ?_⟩
          have ez : zs = sortU ns := asc_mem asc (sortU_asc ns) fun j => by
            rw [mem j, sortU_mem]; simp
          rw [ez]
          have ok2 := n1.ok.new (o := SetO X.w pp (fun j => decide (j ∈ ns)) cc) hp
          obtain ⟨n3, r3⟩ := new_fix ok2 (rpl_ints (sortU ns)) hp3
          exact hk _ _ _ _ _ h2 (n1.trans (Nw.trans ⟨Fut.new hp, ok2⟩ n3)) r3
/-- sorted(x), of dicts, of ints, of data -/
def oSortedL (x : G) (st : Sto) (k : KG) : Prop := match seqZ st x with
  | some ys => (match intsG ys with
    | some _ => (match seqL st x with
      | some _ => oSorted [x] st k
      | none => sortG ys fun zs => k (.sq true zs) st)
    | none => sortG ys fun zs => k (.sq true zs) st)
  | none => False
def oSortedD : OpC := fun xs st k => match xs with
  | [x] => (match x with
    | .ref n => (match dictO (getO st.ob n) with
      | some d => oSorted [.ref n] st k
      | none => oSortedL (.ref n) st k)
    | x => oSortedL x st k)
  | _ => False
def rSortB (K : PySem.W.Frag) : List V → Hp → VK → Prop := fun xs H Q => rSortA K xs H Q ∨ rSortedN K xs H Q
theorem r_sortedD (hc : c.cm = true) : ∀ X, At c X → CallR X (.builtin "sorted") (rSortB X.K) ∧ OC c oSortedD (rSortB X.K) := fun X hX => by
  have hu := hX.units
  obtain ⟨c1, o1⟩ := r_sorted hc X hX
  obtain ⟨cl, n, cm, fr, fk, px, rfl⟩ := hX.eq
  refine ⟨c1.or (cr_sortedN hu), fun xs st k g H vs Q ok r h hk => ?_⟩
  have old : oSorted xs st k → rSortB X.K vs H Q := fun h => .inl (o1 xs st k g H vs Q ok r h hk)
  cases r with
  | nil => exact h.elim
  | cons r1 r2 =>
    cases r2 with
    | cons _ _ => exact h.elim
    | nil =>
      rename_i x v
      have gen : oSortedL x st k → rSortB X.K [v] H Q := fun h => by
        unfold oSortedL at h
        cases e : seqZ st x with
        | none => simp only [e] at h
        | some ys =>
          simp only [e] at h
          cases e2 : intsG ys with
          | some _ =>
            simp only [e2] at h
            cases e3 : seqL st x with
            | some _ => simp only [e3] at h; exact old h
            | none => simp only [e3] at h; exact .inr (sort_data ok r1 e h hk)
          | none => simp only [e2] at h; exact .inr (sort_data ok r1 e h hk)
      cases x with
      | ref m =>
        have h : (match dictO (getO st.ob m) with
          | some d => oSorted [.ref m] st k
          | none => oSortedL (.ref m) st k) := h
        cases e : dictO (getO st.ob m) with
        | some d => simp only [e] at h; exact old h
        | none => simp only [e] at h; exact gen h
      | _ => exact gen h
end
/-! ### a, b, c = x, y, z -/
section
variable {c : Cf}
def sPar3 (i j m : Nat) (a b d : Ev) : EvS := fun l st K => a l st (fun x st1 => b l st1 (fun y st2 => d l st2 (fun z st3 => fset l i (some x) fun l1 => fset l1 j (some y) fun l2 => fset l2 m (some z) fun l3 => K.nx l3 st3) fun u st3 => K.ex u l st3) fun u st2 => K.ex u l st2) fun u st1 => K.ex u l st1
theorem sw3 {env : Env} {x y z : Str} {px py pz pt p2 : Pos} {kt k2 : Nat} {a b d : Expr} (hk : env.scope.kind = .function) (hx : env.scope.names.lookup x = some .local) (hy : env.scope.names.lookup y = some .local) (hz : env.scope.names.lookup z = some .local) (hd3 : ([x, y, z] : List Str).eraseDups = [x, y, z]) (hl : (py.line == px.line) = true) (hl2 : (pz.line == px.line) = true)
    (hs : ([a, b, d].any fun | Expr.Starred .. => true | _ => false) = false) (h2 : [a, b, d].all (foldedForSure 8) = false) (h3 : [a, b, d].all (constantsAlone 8) = false) : swappedStores [.Tuple [.Name x px, .Name y py, .Name z pz] kt pt] (.Tuple [a, b, d] k2 p2) env = pure (some [x, y, z]) := by
  have kx : env.kindOf x = some .local := hx
  have ky : env.kindOf y = some .local := hy
  have kz : env.kindOf z = some .local := hz
  have hb : env.blockKind = .function := by unfold Env.blockKind; rw [hk]; rfl
  unfold swappedStores
  simp only [List.length_cons, List.length_nil, hb, h2, h3, hs, List.head?_cons, Option.map_some, Option.getD_some, Expr.pos, List.filterMap_cons, List.filterMap_nil, kx, ky, kz, hl, hl2, hd3, beq_self_eq_true, Bool.and_self, if_true, Bool.not_true, Bool.or_false, Bool.false_or, Bool.or_self, bne_self_eq_false, Bool.false_eq_true, if_false]
  exact (if_neg (by decide)).trans ((if_neg (Bool.eq_false_iff.mp hs)).trans rfl)
def par3B (N : List Str) (i j m : Nat) (x y z : Str) : Bool := decide (N[i]? = some x) && (decide (N[j]? = some y) && (decide (N[m]? = some z) && (!Nat.beq i j && (!Nat.beq i m && (!Nat.beq j m && decide (([x, y, z] : List Str).eraseDups = [x, y, z]))))))
theorem s_par3 (i j m : Nat) {x y z : Str} {a b d : Expr} {ea eb ed : Ev} {px py pz pt p2 pos : Pos} {kt k2 : Nat} (ha : EE c a ea) (hb : EE c b eb) (hd : EE c d ed) (h : par3B c.N i j m x y z = true) (hc : c.cm = true) (hp : pxB c i = true) (hp2 : pxB c j = true) (hp3 : pxB c m = true) (hk : c.sc.kind = .function)
    (hx : c.sc.names.lookup x = some .local) (hy : c.sc.names.lookup y = some .local) (hz : c.sc.names.lookup z = some .local) (hl : (py.line == px.line) = true) (hl2 : (pz.line == px.line) = true) (hs : ([a, b, d].any fun | Expr.Starred .. => true | _ => false) = false) (h2 : [a, b, d].all (foldedForSure 8) = false) (h3 : [a, b, d].all (constantsAlone 8) = false)
    (he : ∀ env, starEach [a, b, d] env = (false, eval a env) :: starEach [b, d] env := by intro _; rfl) (he2 : ∀ env, starEach [b, d] env = (false, eval b env) :: starEach [d] env := by intro _; rfl) (he3 : ∀ env, starEach [d] env = (false, eval d env) :: starEach [] env := by intro _; rfl) :
    ES c (.Assign [.Tuple [.Name x px, .Name y py, .Name z pz] kt pt] (.Tuple [a, b, d] k2 p2) pos) (sPar3 i j m ea eb ed) := fun X hX W tk hpo => by
  have nd := hX.nd
  have cmq := hX.calm
  have hA := x_cons ha (x_cons hb (x_cons hd x_nil he3) he2) he X hX W tk
  unfold par3B at h
  simp only [Bool.and_eq_true, decide_eq_true_eq, Bool.not_eq_true'] at h
  obtain ⟨e1, e2, e3, i1, i2, i3, e4⟩ := h
  obtain ⟨cl, n, cm, fr, fk, px', rfl⟩ := hX.eq
  refine (ps_par3 (X := X) (by rw [cmq]; exact hc) nd e1 e2 e3 (Nat.ne_of_beq_eq_false i1) (Nat.ne_of_beq_eq_false i2) (Nat.ne_of_beq_eq_false i3) hx hy hz hA (sw3 hk hx hy hz e4 hl hl2 hs h2 h3) rfl).imp fun D σ H q => ?_
  obtain ⟨g, l, st, K, bs, h, k⟩ := q
  refine ⟨g, l, st, (fun xs st' => match xs with
    | [u, v, w] => fset l i (some u) fun l1 => fset l1 j (some v) fun l2 => fset l2 m (some w) fun l3 => K.nx l3 st'
    | _ => False), _, bs, h, fun xs st1 g1 H1 vs h1 n1 r1 => ?_, k.ex.at bs⟩
  cases r1 with
  | nil => exact h1.elim
  | cons r1 r2 =>
    cases r2 with
    | nil => exact h1.elim
    | cons r2 r3 =>
      cases r3 with
      | nil => exact h1.elim
      | cons r3 r4 =>
        cases r4 with
        | cons _ _ => exact h1.elim
        | nil =>
          have h1 : fset l i (some _) (fun l1 => fset l1 j (some _) fun l2 => fset l2 m (some _) fun l3 => K.nx l3 st1) := h1
          rw [fset_eq, fset_eq, fset_eq] at h1
          exact ⟨_, _, _, rfl, k.nx _ _ _ _ _ h1 n1.f ((((bs.nw n1).set hp r1).set hp2 r2).set hp3 r3)⟩
end
end RS

namespace KX
open PySem PySem.Spec L2 RS
def top (i : Nat) : Stmt := PySem.Challenge.pw_rootsaid_k06_polynomials_of_one_unknown.main.body.getD i (.Pass ⟨0, 0, 0, 0⟩)
abbrev s_is_number : Stmt := top 5
abbrev s_is_tuple_of : Stmt := top 6
abbrev s_tuple_of : Stmt := top 7
abbrev s_sure : Stmt := top 8
abbrev s_common_divisor : Stmt := top 9
abbrev s_are_powers : Stmt := top 12
abbrev s_is_poly : Stmt := top 13
abbrev s_sure_poly : Stmt := top 14
abbrev s_told : Stmt := top 15
abbrev s_trimmed_powers : Stmt := top 16
abbrev s_power_in : Stmt := top 17
abbrev s_unknowns_of : Stmt := top 18
abbrev s_degree_of : Stmt := top 19
abbrev s_without : Stmt := top 20
abbrev s_parts_of : Stmt := top 21
abbrev s_by_prime : Stmt := top 24
abbrev s_inverse_of : Stmt := top 25
abbrev s_are_surely_apart : Stmt := top 26
abbrev s_numbers_of : Stmt := top 29
abbrev s_least_row : Stmt := top 30
abbrev s_derived_row : Stmt := top 31
abbrev s_rest_row : Stmt := top 32
abbrev s_common_row : Stmt := top 33
abbrev s_divided_row : Stmt := top 34
abbrev s_single_row : Stmt := top 35
abbrev s_parted_rows : Stmt := top 36
abbrev s_shared_unknown : Stmt := top 38
abbrev s_poly_of_row : Stmt := top 39
abbrev s_risen_row : Stmt := top 40
abbrev s_two_rows : Stmt := top 41
abbrev s_one_row : Stmt := top 42
abbrev s_rows_divided : Stmt := top 43
abbrev s_trimmed_row : Stmt := top 44
abbrev s_uni_divided : Stmt := top 45
abbrev s_uni_divides : Stmt := top 46
abbrev s_uni_common : Stmt := top 47
abbrev s_uni_single : Stmt := top 48
abbrev s_uni_layers : Stmt := top 49
abbrev s_uni_parted : Stmt := top 50
abbrev s_is_uni_parting : Stmt := top 51
abbrev s_are_rows_apart : Stmt := top 52
abbrev s_is_covered : Stmt := top 53
abbrev s_have_same_roots : Stmt := top 54
abbrev s__law_box : Stmt := top 56
abbrev s__law_take : Stmt := top 57
abbrev s__law_cells : Stmt := top 58
abbrev s__law_same : Stmt := top 59
abbrev s__law_mixed : Stmt := top 60
abbrev s__law_uni : Stmt := top 61
abbrev s__law_times : Stmt := top 62
abbrev s__law_try : Stmt := top 63
abbrev s__law_told_right : Stmt := top 64
abbrev s_law : Stmt := top 65
def cns : List Str := ["CanNot", "TooMuch", "Unfit"]
abbrev sub : Nat → Nat → Option Bool := subN 3 3
abbrev tq : Nat → Ty → Option Bool := tqN 3
theorem bt_ValueError : bootBuiltins ("ValueError" : Str) = some (.type "ValueError") := by decide +kernel
theorem bt_abs : bootBuiltins ("abs" : Str) = some (.builtin "abs") := by decide +kernel
theorem bt_all : bootBuiltins ("all" : Str) = some (.builtin "all") := by decide +kernel
theorem bt_any : bootBuiltins ("any" : Str) = some (.builtin "any") := by decide +kernel
theorem bt_bool : bootBuiltins ("bool" : Str) = some (.type "bool") := by decide +kernel
theorem bt_int : bootBuiltins ("int" : Str) = some (.type "int") := by decide +kernel
theorem bt_isinstance : bootBuiltins ("isinstance" : Str) = some (.builtin "isinstance") := by decide +kernel
theorem bt_len : bootBuiltins ("len" : Str) = some (.builtin "len") := by decide +kernel
theorem bt_list : bootBuiltins ("list" : Str) = some (.type "list") := by decide +kernel
theorem bt_max : bootBuiltins ("max" : Str) = some (.builtin "max") := by decide +kernel
theorem bt_set : bootBuiltins ("set" : Str) = some (.type "set") := by decide +kernel
theorem bt_sorted : bootBuiltins ("sorted" : Str) = some (.builtin "sorted") := by decide +kernel
theorem bt_str : bootBuiltins ("str" : Str) = some (.type "str") := by decide +kernel
theorem bt_tuple : bootBuiltins ("tuple" : Str) = some (.type "tuple") := by decide +kernel
theorem mt_ty_append : typeOf (.builtin "list.append") = pure (.type "method_descriptor") := PySem.F.type_list_append
theorem mt_ty_extend : typeOf (.builtin "list.extend") = pure (.type "method_descriptor") := PySem.F.type_list_extend
theorem mt_ty_pop : typeOf (.builtin "list.pop") = pure (.type "method_descriptor") := PySem.F.type_list_pop
theorem pl_list : PlainAttrs "list" := PySem.F.plainAttrs_list
structure Fx (K : PySem.W.Frag) (mg : Str → Option Value) (cl : Nat → Addr) : Prop where
  b_ValueError : mg ("ValueError" : Str) = none
  b_abs : mg ("abs" : Str) = none
  b_all : mg ("all" : Str) = none
  b_any : mg ("any" : Str) = none
  b_bool : mg ("bool" : Str) = none
  b_enumerate : mg ("enumerate" : Str) = none
  b_int : mg ("int" : Str) = none
  b_isinstance : mg ("isinstance" : Str) = none
  b_len : mg ("len" : Str) = none
  b_list : mg ("list" : Str) = none
  b_max : mg ("max" : Str) = none
  b_range : mg ("range" : Str) = none
  b_set : mg ("set" : Str) = none
  b_sorted : mg ("sorted" : Str) = none
  b_str : mg ("str" : Str) = none
  b_tuple : mg ("tuple" : Str) = none
  b_zip : mg ("zip" : Str) = none
  c_CanNot : mg ("CanNot" : Str) = some (.ref (cl 0))
  c_TooMuch : mg ("TooMuch" : Str) = some (.ref (cl 1))
  c_Unfit : mg ("Unfit" : Str) = some (.ref (cl 2))
  x_CanNot : ExK K mg cl 0 "CanNot"
  x_TooMuch : ExK K mg cl 1 "TooMuch"
  x_Unfit : ExK K mg cl 2 "Unfit"
  g_MOST_DEGREE : ∃ t, mg ("MOST_DEGREE" : Str) = some (.int 80 t)
  g_PRIME : ∃ t, mg ("PRIME" : Str) = some (.int 2147483647 t)
  g_UNKNOWNS : ∃ t, mg ("UNKNOWNS" : Str) = some (.int 6 t)
  T : ExT K cl sub tq
structure Ow (P : Program) (w : World) (K : PySem.W.Frag) (mg : Str → Option Value) (base : Heap) (cl : Nat → Addr) (Φ : Fn) (k : Nat) : Prop where
  f_is_number : Own P w K mg base cl Φ k 0 "is_number"
  f_is_tuple_of : Own P w K mg base cl Φ k 1 "is_tuple_of"
  f_tuple_of : Own P w K mg base cl Φ k 2 "tuple_of"
  f_sure : Own P w K mg base cl Φ k 3 "sure"
  f_common_divisor : Own P w K mg base cl Φ k 4 "common_divisor"
  f_are_powers : Own P w K mg base cl Φ k 5 "are_powers"
  f_is_poly : Own P w K mg base cl Φ k 6 "is_poly"
  f_sure_poly : Own P w K mg base cl Φ k 7 "sure_poly"
  f_told : Own P w K mg base cl Φ k 8 "told"
  f_trimmed_powers : Own P w K mg base cl Φ k 9 "trimmed_powers"
  f_power_in : Own P w K mg base cl Φ k 10 "power_in"
  f_unknowns_of : Own P w K mg base cl Φ k 11 "unknowns_of"
  f_degree_of : Own P w K mg base cl Φ k 12 "degree_of"
  f_without : Own P w K mg base cl Φ k 13 "without"
  f_parts_of : Own P w K mg base cl Φ k 14 "parts_of"
  f_by_prime : Own P w K mg base cl Φ k 15 "by_prime"
  f_inverse_of : Own P w K mg base cl Φ k 16 "inverse_of"
  f_are_surely_apart : Own P w K mg base cl Φ k 17 "are_surely_apart"
  f_numbers_of : Own P w K mg base cl Φ k 18 "numbers_of"
  f_least_row : Own P w K mg base cl Φ k 19 "least_row"
  f_derived_row : Own P w K mg base cl Φ k 20 "derived_row"
  f_rest_row : Own P w K mg base cl Φ k 21 "rest_row"
  f_common_row : Own P w K mg base cl Φ k 22 "common_row"
  f_divided_row : Own P w K mg base cl Φ k 23 "divided_row"
  f_single_row : Own P w K mg base cl Φ k 24 "single_row"
  f_parted_rows : Own P w K mg base cl Φ k 25 "parted_rows"
  f_shared_unknown : Own P w K mg base cl Φ k 26 "shared_unknown"
  f_poly_of_row : Own P w K mg base cl Φ k 27 "poly_of_row"
  f_risen_row : Own P w K mg base cl Φ k 28 "risen_row"
  f_two_rows : Own P w K mg base cl Φ k 29 "two_rows"
  f_one_row : Own P w K mg base cl Φ k 30 "one_row"
  f_rows_divided : Own P w K mg base cl Φ k 31 "rows_divided"
  f_trimmed_row : Own P w K mg base cl Φ k 32 "trimmed_row"
  f_uni_divided : Own P w K mg base cl Φ k 33 "uni_divided"
  f_uni_divides : Own P w K mg base cl Φ k 34 "uni_divides"
  f_uni_common : Own P w K mg base cl Φ k 35 "uni_common"
  f_uni_single : Own P w K mg base cl Φ k 36 "uni_single"
  f_uni_layers : Own P w K mg base cl Φ k 37 "uni_layers"
  f_uni_parted : Own P w K mg base cl Φ k 38 "uni_parted"
  f_is_uni_parting : Own P w K mg base cl Φ k 39 "is_uni_parting"
  f_are_rows_apart : Own P w K mg base cl Φ k 40 "are_rows_apart"
  f_is_covered : Own P w K mg base cl Φ k 41 "is_covered"
  f_have_same_roots : Own P w K mg base cl Φ k 42 "have_same_roots"
  f__law_box : Own P w K mg base cl Φ k 43 "_law_box"
  f__law_take : Own P w K mg base cl Φ k 44 "_law_take"
  f__law_cells : Own P w K mg base cl Φ k 45 "_law_cells"
  f__law_same : Own P w K mg base cl Φ k 46 "_law_same"
  f__law_mixed : Own P w K mg base cl Φ k 47 "_law_mixed"
  f__law_uni : Own P w K mg base cl Φ k 48 "_law_uni"
  f__law_times : Own P w K mg base cl Φ k 49 "_law_times"
  f__law_try : Own P w K mg base cl Φ k 50 "_law_try"
  f__law_told_right : Own P w K mg base cl Φ k 51 "_law_told_right"
  f_law : Own P w K mg base cl Φ k 52 "law"
  k_uni_divided_0_other_one : OwnK P w K mg base cl Φ k 33 "uni_divided" 0 ["other", "one"] [1, 0]
  k_uni_divides_0_other_one : OwnK P w K mg base cl Φ k 34 "uni_divides" 0 ["other", "one"] [1, 0]
  k_uni_common_0_other_one : OwnK P w K mg base cl Φ k 35 "uni_common" 0 ["other", "one"] [1, 0]
  k_uni_single_0_poly : OwnK P w K mg base cl Φ k 36 "uni_single" 0 ["poly"] [0]
  k_uni_layers_0_poly : OwnK P w K mg base cl Φ k 37 "uni_layers" 0 ["poly"] [0]
  k_uni_parted_0_polys : OwnK P w K mg base cl Φ k 38 "uni_parted" 0 ["polys"] [0]
  k_is_uni_parting_0_thing_polys : OwnK P w K mg base cl Φ k 39 "is_uni_parting" 0 ["thing", "polys"] [1, 0]
abbrev N_is_number : List Str := ["thing"]
abbrev P_is_number : List Str := ["thing"]
def b_is_number (Φ : Fn) : EvS := (sRet (eAndT (eApp oIsi (aCons (eVar 0) (aCons (eC (.ty .int)) aNil))) (eNot (eApp oIsi (aCons (eVar 0) (aCons (eC (.ty .bool)) aNil))))))
theorem n_is_number_0 : nB N_is_number 0 "thing" = true := by decide +kernel
theorem sc_is_number : FnScope N_is_number P_is_number (defScope s_is_number) := ⟨rfl, rfl, rfl, by decide +kernel, rfl, by decide +kernel, by decide +kernel⟩
theorem e_is_number {P : Program} {w : World} {K : PySem.W.Frag} {mg : Str → Option Value} {base : Heap} {cl : Nat → Addr} {Φ : Fn} {k : Nat} (F : Fx K mg cl) (O : Ow P w K mg base cl Φ k) : ESs (bodyCf P w K mg base cl k (defScope s_is_number) N_is_number) (defBody s_is_number) (b_is_number Φ) :=
  (ss_one (s_ret (v_andT (v_blt r_isi (x_cons (v_varN 0 n_is_number_0 (.inl rfl)) (x_cons (v_ty .int F.b_int bt_int rfl) x_nil)) rfl F.b_isinstance bt_isinstance) (v_one (v_not (v_blt r_isi (x_cons (v_varN 0 n_is_number_0 (.inl rfl)) (x_cons (v_ty .bool F.b_bool bt_bool rfl) x_nil)) rfl F.b_isinstance bt_isinstance))))))
abbrev N_is_tuple_of : List Str := ["thing", "many"]
abbrev P_is_tuple_of : List Str := ["thing", "many"]
def b_is_tuple_of (Φ : Fn) : EvS := (sRet (eAndT (eApp oIsi (aCons (eVar 0) (aCons (eC (.ty .tuple)) aNil))) (eBin oEq (eApp oLen (aCons (eVar 0) aNil)) (eVar 1))))
theorem n_is_tuple_of_0 : nB N_is_tuple_of 0 "thing" = true := by decide +kernel
theorem n_is_tuple_of_1 : nB N_is_tuple_of 1 "many" = true := by decide +kernel
theorem sc_is_tuple_of : FnScope N_is_tuple_of P_is_tuple_of (defScope s_is_tuple_of) := ⟨rfl, rfl, rfl, by decide +kernel, rfl, by decide +kernel, by decide +kernel⟩
theorem e_is_tuple_of {P : Program} {w : World} {K : PySem.W.Frag} {mg : Str → Option Value} {base : Heap} {cl : Nat → Addr} {Φ : Fn} {k : Nat} (F : Fx K mg cl) (O : Ow P w K mg base cl Φ k) : ESs (bodyCf P w K mg base cl k (defScope s_is_tuple_of) N_is_tuple_of) (defBody s_is_tuple_of) (b_is_tuple_of Φ) :=
  (ss_one (s_ret (v_andT (v_blt r_isi (x_cons (v_varN 0 n_is_tuple_of_0 (.inl rfl)) (x_cons (v_ty .tuple F.b_tuple bt_tuple rfl) x_nil)) rfl F.b_isinstance bt_isinstance) (v_one (v_eq (v_blt r_len (x_cons (v_varN 0 n_is_tuple_of_0 (.inl rfl)) x_nil) rfl F.b_len bt_len) (v_varN 1 n_is_tuple_of_1 (.inl rfl)))))))
abbrev N_tuple_of : List Str := ["thing", "part"]
abbrev P_tuple_of : List Str := ["thing"]
def b_tuple_of (Φ : Fn) : EvS := (sSeq (sIf (eTru (eApp oIsi (aCons (eVar 0) (aCons (eTup (aCons (eC (.ty .list)) (aCons (eC (.ty .tuple)) aNil))) aNil)))) (sRet (eApp oTup (aCons (eLc [1] (iSeq (eVar 0)) (gN 1) tYes' (eCall Φ 2 (aCons (eVar 1) aNil))) aNil))) sNil) (sRet (eVar 0)))
theorem n_tuple_of_0 : nB N_tuple_of 0 "thing" = true := by decide +kernel
theorem n_tuple_of_1 : nB N_tuple_of 1 "part" = true := by decide +kernel
theorem sc_tuple_of : FnScope N_tuple_of P_tuple_of (defScope s_tuple_of) := ⟨rfl, rfl, rfl, by decide +kernel, rfl, by decide +kernel, by decide +kernel⟩
theorem e_tuple_of {P : Program} {w : World} {K : PySem.W.Frag} {mg : Str → Option Value} {base : Heap} {cl : Nat → Addr} {Φ : Fn} {k : Nat} (F : Fx K mg cl) (O : Ow P w K mg base cl Φ k) : ESs (bodyCf P w K mg base cl k (defScope s_tuple_of) N_tuple_of) (defBody s_tuple_of) (b_tuple_of Φ) :=
  (ss_cons (s_if (t_tru (v_blt r_isi (x_cons (v_varN 0 n_tuple_of_0 (.inl rfl)) (x_cons (v_tup (x_cons (v_ty .list F.b_list bt_list rfl) (x_cons (v_ty .tuple F.b_tuple bt_tuple rfl) x_nil))) x_nil)) rfl F.b_isinstance bt_isinstance)) (ss_one (s_ret (v_bty r_tup (x_cons (v_lc (own := [("part", 1)]) rfl (i_seq (v_varN 0 n_tuple_of_0 (.inl rfl))) (by show blkC N_tuple_of (defScope s_tuple_of) _ _ = true; decide +kernel) (g_name 1 ⟨rfl, (.inl rfl), (.inr rfl)⟩ rfl) ts_nil (v_call O.f_tuple_of rfl (x_cons (v_varN 1 n_tuple_of_1 (.inl rfl)) x_nil) rfl) (by decide +kernel)) x_nil) rfl F.b_tuple bt_tuple))) ss_nil) (ss_one (s_ret (v_varN 0 n_tuple_of_0 (.inl rfl)))))
abbrev N_sure : List Str := ["good"]
abbrev P_sure : List Str := ["good"]
def b_sure (Φ : Fn) : EvS := (sIf (tNot' (eTru (eVar 0))) (sRaise 2) sNil)
theorem n_sure_0 : nB N_sure 0 "good" = true := by decide +kernel
theorem sc_sure : FnScope N_sure P_sure (defScope s_sure) := ⟨rfl, rfl, rfl, by decide +kernel, rfl, by decide +kernel, by decide +kernel⟩
theorem e_sure {P : Program} {w : World} {K : PySem.W.Frag} {mg : Str → Option Value} {base : Heap} {cl : Nat → Addr} {Φ : Fn} {k : Nat} (F : Fx K mg cl) (O : Ow P w K mg base cl Φ k) : ESs (bodyCf P w K mg base cl k (defScope s_sure) N_sure) (defBody s_sure) (b_sure Φ) :=
  (ss_one (s_if (t_not (t_tru (v_varN 0 n_sure_0 (.inl rfl)))) (ss_one (s_raise F.x_Unfit rfl rfl)) ss_nil))
abbrev N_common_divisor : List Str := ["one", "other", "near", "far"]
abbrev P_common_divisor : List Str := ["one", "other"]
def b_common_divisor (Φ : Fn) : EvS := (sSeq (sPar 2 3 (eApp oAbs (aCons (eVar 0) aNil)) (eApp oAbs (aCons (eVar 1) aNil))) (sSeq (sWhile (eTest (eBin oNe (eVar 3) (eC (.int 0)))) (sPar 2 3 (eVar 3) (eBin oMod (eVar 2) (eVar 3)))) (sRet (eVar 2))))
theorem n_common_divisor_0 : nB N_common_divisor 0 "one" = true := by decide +kernel
theorem n_common_divisor_1 : nB N_common_divisor 1 "other" = true := by decide +kernel
theorem p_common_divisor_2_3 : parB N_common_divisor 2 3 "near" "far" = true := by decide +kernel
theorem n_common_divisor_3 : nB N_common_divisor 3 "far" = true := by decide +kernel
theorem n_common_divisor_2 : nB N_common_divisor 2 "near" = true := by decide +kernel
theorem sc_common_divisor : FnScope N_common_divisor P_common_divisor (defScope s_common_divisor) := ⟨rfl, rfl, rfl, by decide +kernel, rfl, by decide +kernel, by decide +kernel⟩
theorem e_common_divisor {P : Program} {w : World} {K : PySem.W.Frag} {mg : Str → Option Value} {base : Heap} {cl : Nat → Addr} {Φ : Fn} {k : Nat} (F : Fx K mg cl) (O : Ow P w K mg base cl Φ k) : ESs (bodyCf P w K mg base cl k (defScope s_common_divisor) N_common_divisor) (defBody s_common_divisor) (b_common_divisor Φ) :=
  (ss_cons (s_parN 2 3 (v_blt r_abs (x_cons (v_varN 0 n_common_divisor_0 (.inl rfl)) x_nil) rfl F.b_abs bt_abs) (v_blt r_abs (x_cons (v_varN 1 n_common_divisor_1 (.inl rfl)) x_nil) rfl F.b_abs bt_abs) p_common_divisor_2_3 rfl rfl rfl rfl rfl rfl rfl rfl rfl rfl rfl) (ss_cons (s_while (t_ne (v_varN 3 n_common_divisor_3 (.inl rfl)) v_int) (ss_one (s_parN 2 3 (v_varN 3 n_common_divisor_3 (.inl rfl)) (v_mod (v_varN 2 n_common_divisor_2 (.inl rfl)) (v_varN 3 n_common_divisor_3 (.inl rfl))) p_common_divisor_2_3 rfl rfl rfl rfl rfl rfl rfl rfl rfl rfl rfl))) (ss_one (s_ret (v_varN 2 n_common_divisor_2 (.inl rfl))))))
abbrev N_are_powers : List Str := ["thing", "own"]
abbrev P_are_powers : List Str := ["thing"]
def b_are_powers (Φ : Fn) : EvS := (sSeq (sIf (tOr' (tNot' (eTru (eApp oIsi (aCons (eVar 0) (aCons (eC (.ty .tuple)) aNil))))) (tOr' (eTest (eBin oGt (eApp oLen (aCons (eVar 0) aNil)) (eC (.int 6)))) (tNot' (eTru (eApp oAll (aCons (eLc [1] (iSeq (eVar 0)) (gN 1) tYes' (eAndT (eCall Φ 0 (aCons (eVar 1) aNil)) (eBin oGe (eVar 1) (eC (.int 0))))) aNil)))))) (sRet (eC (.bl false))) sNil) (sRet (eOrT (eBin oEq (eVar 0) (eTup aNil)) (eBin oGt (eBin oIxD (eVar 0) (eNeg (eC (.int 1)))) (eC (.int 0))))))
theorem n_are_powers_0 : nB N_are_powers 0 "thing" = true := by decide +kernel
theorem n_are_powers_1 : nB N_are_powers 1 "own" = true := by decide +kernel
theorem sc_are_powers : FnScope N_are_powers P_are_powers (defScope s_are_powers) := ⟨rfl, rfl, rfl, by decide +kernel, rfl, by decide +kernel, by decide +kernel⟩
theorem e_are_powers {P : Program} {w : World} {K : PySem.W.Frag} {mg : Str → Option Value} {base : Heap} {cl : Nat → Addr} {Φ : Fn} {k : Nat} (F : Fx K mg cl) (O : Ow P w K mg base cl Φ k) : ESs (bodyCf P w K mg base cl k (defScope s_are_powers) N_are_powers) (defBody s_are_powers) (b_are_powers Φ) :=
  (ss_cons (s_if (EW.et (w_or (t_not (t_tru (v_blt r_isi (x_cons (v_varN 0 n_are_powers_0 (.inl rfl)) (x_cons (v_ty .tuple F.b_tuple bt_tuple rfl) x_nil)) rfl F.b_isinstance bt_isinstance))) (w_or (t_gt (v_blt r_len (x_cons (v_varN 0 n_are_powers_0 (.inl rfl)) x_nil) rfl F.b_len bt_len) (v_globI F.g_UNKNOWNS.choose_spec rfl)) (w_or1 (t_not (t_tru (v_blt (r_all rfl) (x_cons (v_lc (own := [("own", 1)]) rfl (i_seq (v_varN 0 n_are_powers_0 (.inl rfl))) (by show blkC N_are_powers (defScope s_are_powers) _ _ = true; decide +kernel) (g_name 1 ⟨rfl, (.inl rfl), (.inr rfl)⟩ rfl) ts_nil (v_andT (v_call O.f_is_number rfl (x_cons (v_varN 1 n_are_powers_1 (.inl rfl)) x_nil) rfl) (v_one (v_ge (v_varN 1 n_are_powers_1 (.inl rfl)) v_int))) (by decide +kernel)) x_nil) rfl F.b_all bt_all))))))) (ss_one (s_ret v_bl)) ss_nil) (ss_one (s_ret (v_orT (v_eq (v_varN 0 n_are_powers_0 (.inl rfl)) (v_tup x_nil)) (v_one (v_gt (v_ixD (v_varN 0 n_are_powers_0 (.inl rfl)) (v_neg v_int)) v_int))))))
abbrev N_is_poly : List Str := ["thing", "own", "near", "far"]
abbrev P_is_poly : List Str := ["thing"]
def b_is_poly (Φ : Fn) : EvS := (sSeq (sIf (tOr' (tNot' (eTru (eApp oIsi (aCons (eVar 0) (aCons (eC (.ty .tuple)) aNil))))) (tNot' (eTru (eApp oAll (aCons (eLc [1] (iSeq (eVar 0)) (gN 1) tYes' (eCall Φ 1 (aCons (eVar 1) (aCons (eC (.int 2)) aNil)))) aNil))))) (sRet (eC (.bl false))) sNil) (sSeq (sIf (tNot' (eTru (eApp oAll (aCons (eLc [1] (iSeq (eVar 0)) (gN 1) tYes' (eAndT (eCall Φ 5 (aCons (eBin oIxD (eVar 1) (eC (.int 0))) aNil)) (eAndT (eCall Φ 0 (aCons (eBin oIxD (eVar 1) (eC (.int 1))) aNil)) (eBin oNe (eBin oIxD (eVar 1) (eC (.int 1))) (eC (.int 0)))))) aNil)))) (sRet (eC (.bl false))) sNil) (sRet (eApp oAll (aCons (eLc [2, 3] (iZip (aCons (eVar 0) (aCons (eSl (eVar 0) (oSome (eC (.int 1))) oNo) aNil))) (gT (gsCons (gN 2) (gsCons (gN 3) gsNil))) tYes' (eBin oLt (eBin oIxD (eVar 2) (eC (.int 0))) (eBin oIxD (eVar 3) (eC (.int 0))))) aNil)))))
theorem n_is_poly_0 : nB N_is_poly 0 "thing" = true := by decide +kernel
theorem n_is_poly_1 : nB N_is_poly 1 "own" = true := by decide +kernel
theorem n_is_poly_2 : nB N_is_poly 2 "near" = true := by decide +kernel
theorem n_is_poly_3 : nB N_is_poly 3 "far" = true := by decide +kernel
theorem sc_is_poly : FnScope N_is_poly P_is_poly (defScope s_is_poly) := ⟨rfl, rfl, rfl, by decide +kernel, rfl, by decide +kernel, by decide +kernel⟩
theorem e_is_poly {P : Program} {w : World} {K : PySem.W.Frag} {mg : Str → Option Value} {base : Heap} {cl : Nat → Addr} {Φ : Fn} {k : Nat} (F : Fx K mg cl) (O : Ow P w K mg base cl Φ k) : ESs (bodyCf P w K mg base cl k (defScope s_is_poly) N_is_poly) (defBody s_is_poly) (b_is_poly Φ) :=
  (ss_cons (s_if (EW.et (w_or (t_not (t_tru (v_blt r_isi (x_cons (v_varN 0 n_is_poly_0 (.inl rfl)) (x_cons (v_ty .tuple F.b_tuple bt_tuple rfl) x_nil)) rfl F.b_isinstance bt_isinstance))) (w_or1 (t_not (t_tru (v_blt (r_all rfl) (x_cons (v_lc (own := [("own", 1)]) rfl (i_seq (v_varN 0 n_is_poly_0 (.inl rfl))) (by show blkC N_is_poly (defScope s_is_poly) _ _ = true; decide +kernel) (g_name 1 ⟨rfl, (.inl rfl), (.inr rfl)⟩ rfl) ts_nil (v_call O.f_is_tuple_of rfl (x_cons (v_varN 1 n_is_poly_1 (.inl rfl)) (x_cons v_int x_nil)) rfl) (by decide +kernel)) x_nil) rfl F.b_all bt_all)))))) (ss_one (s_ret v_bl)) ss_nil) (ss_cons (s_if (t_not (t_tru (v_blt (r_all rfl) (x_cons (v_lc (own := [("own", 1)]) rfl (i_seq (v_varN 0 n_is_poly_0 (.inl rfl))) (by show blkC N_is_poly (defScope s_is_poly) _ _ = true; decide +kernel) (g_name 1 ⟨rfl, (.inl rfl), (.inr rfl)⟩ rfl) ts_nil (v_andT (v_call O.f_are_powers rfl (x_cons (v_ixD (v_varN 1 n_is_poly_1 (.inl rfl)) v_int) x_nil) rfl) (v_andT (v_call O.f_is_number rfl (x_cons (v_ixD (v_varN 1 n_is_poly_1 (.inl rfl)) v_int) x_nil) rfl) (v_one (v_ne (v_ixD (v_varN 1 n_is_poly_1 (.inl rfl)) v_int) v_int)))) (by decide +kernel)) x_nil) rfl F.b_all bt_all))) (ss_one (s_ret v_bl)) ss_nil) (ss_one (s_ret (v_blt (r_all rfl) (x_cons (v_lc (own := [("near", 2), ("far", 3)]) rfl (i_zip (x_cons (v_varN 0 n_is_poly_0 (.inl rfl)) (x_cons (v_sl (v_varN 0 n_is_poly_0 (.inl rfl)) (o_some v_int) o_no) x_nil)) rfl F.b_zip) (by show blkC N_is_poly (defScope s_is_poly) _ _ = true; decide +kernel) (g_tup (n := 2) rfl (gs_cons (g_name 2 ⟨rfl, (.inl rfl), (.inr rfl)⟩ rfl) (gs_cons (g_name 3 ⟨rfl, (.inl rfl), (.inr rfl)⟩ rfl) gs_nil)) (hl := (li_cons (pu_name 2) (li_cons (pu_name 3) li_nil)))) ts_nil (v_lt (v_ixD (v_varN 2 n_is_poly_2 (.inl rfl)) v_int) (v_ixD (v_varN 3 n_is_poly_3 (.inl rfl)) v_int)) (by decide +kernel)) x_nil) rfl F.b_all bt_all)))))
abbrev N_sure_poly : List Str := ["thing", "own"]
abbrev P_sure_poly : List Str := ["thing"]
def b_sure_poly (Φ : Fn) : EvS := (sSeq (sSet 1 (eCall Φ 2 (aCons (eVar 0) aNil))) (sSeq (sDrop (eCall Φ 3 (aCons (eCall Φ 6 (aCons (eVar 1) aNil)) aNil))) (sRet (eVar 1))))
theorem n_sure_poly_0 : nB N_sure_poly 0 "thing" = true := by decide +kernel
theorem n_sure_poly_1 : nB N_sure_poly 1 "own" = true := by decide +kernel
theorem sc_sure_poly : FnScope N_sure_poly P_sure_poly (defScope s_sure_poly) := ⟨rfl, rfl, rfl, by decide +kernel, rfl, by decide +kernel, by decide +kernel⟩
theorem e_sure_poly {P : Program} {w : World} {K : PySem.W.Frag} {mg : Str → Option Value} {base : Heap} {cl : Nat → Addr} {Φ : Fn} {k : Nat} (F : Fx K mg cl) (O : Ow P w K mg base cl Φ k) : ESs (bodyCf P w K mg base cl k (defScope s_sure_poly) N_sure_poly) (defBody s_sure_poly) (b_sure_poly Φ) :=
  (ss_cons (s_set 1 (v_call O.f_tuple_of rfl (x_cons (v_varN 0 n_sure_poly_0 (.inl rfl)) x_nil) rfl) ⟨rfl, (.inl rfl), .inl rfl⟩ rfl) (ss_cons (s_expr (v_call O.f_sure rfl (x_cons (v_call O.f_is_poly rfl (x_cons (v_varN 1 n_sure_poly_1 (.inl rfl)) x_nil) rfl) x_nil) rfl)) (ss_one (s_ret (v_varN 1 n_sure_poly_1 (.inl rfl))))))
abbrev N_told : List Str := ["found", "powers"]
abbrev P_told : List Str := ["found"]
def b_told (Φ : Fn) : EvS := (sRet (eApp oTup (aCons (eLc [1] (iSeq (eApp oSortedD (aCons (eVar 0) aNil))) (gN 1) (eTest (eBin oNe (eBin oIxD (eVar 0) (eVar 1)) (eC (.int 0)))) (eTup (aCons (eVar 1) (aCons (eBin oIxD (eVar 0) (eVar 1)) aNil)))) aNil)))
theorem n_told_0 : nB N_told 0 "found" = true := by decide +kernel
theorem n_told_1 : nB N_told 1 "powers" = true := by decide +kernel
theorem sc_told : FnScope N_told P_told (defScope s_told) := ⟨rfl, rfl, rfl, by decide +kernel, rfl, by decide +kernel, by decide +kernel⟩
theorem e_told {P : Program} {w : World} {K : PySem.W.Frag} {mg : Str → Option Value} {base : Heap} {cl : Nat → Addr} {Φ : Fn} {k : Nat} (F : Fx K mg cl) (O : Ow P w K mg base cl Φ k) : ESs (bodyCf P w K mg base cl k (defScope s_told) N_told) (defBody s_told) (b_told Φ) :=
  (ss_one (s_ret (v_bty r_tup (x_cons (v_lc (own := [("powers", 1)]) rfl (i_seq (v_blt (r_sortedD rfl) (x_cons (v_varN 0 n_told_0 (.inr (.inl rfl))) x_nil) rfl F.b_sorted bt_sorted)) (by show blkC N_told (defScope s_told) _ _ = true; decide +kernel) (g_name 1 ⟨rfl, (.inl rfl), (.inr rfl)⟩ rfl) (ts_one (t_ne (v_ixD (v_varN 0 n_told_0 (.inr (.inl rfl))) (v_varN 1 n_told_1 (.inl rfl))) v_int)) (v_tup (x_cons (v_varN 1 n_told_1 (.inl rfl)) (x_cons (v_ixD (v_varN 0 n_told_0 (.inr (.inl rfl))) (v_varN 1 n_told_1 (.inl rfl))) x_nil))) (by decide +kernel)) x_nil) rfl F.b_tuple bt_tuple)))
abbrev N_trimmed_powers : List Str := ["powers", "many"]
abbrev P_trimmed_powers : List Str := ["powers"]
def b_trimmed_powers (Φ : Fn) : EvS := (sSeq (sSet 1 (eApp oLen (aCons (eVar 0) aNil))) (sSeq (sWhile (tAnd' (eTest (eBin oGt (eVar 1) (eC (.int 0)))) (eTest (eBin oEq (eBin oIxD (eVar 0) (eBin oSub (eVar 1) (eC (.int 1)))) (eC (.int 0))))) (sSet 1 (eBin oSub (eVar 1) (eC (.int 1))))) (sRet (eApp oTup (aCons (eSl (eVar 0) oNo (oSome (eVar 1))) aNil)))))
theorem n_trimmed_powers_0 : nB N_trimmed_powers 0 "powers" = true := by decide +kernel
theorem n_trimmed_powers_1 : nB N_trimmed_powers 1 "many" = true := by decide +kernel
theorem sc_trimmed_powers : FnScope N_trimmed_powers P_trimmed_powers (defScope s_trimmed_powers) := ⟨rfl, rfl, rfl, by decide +kernel, rfl, by decide +kernel, by decide +kernel⟩
theorem e_trimmed_powers {P : Program} {w : World} {K : PySem.W.Frag} {mg : Str → Option Value} {base : Heap} {cl : Nat → Addr} {Φ : Fn} {k : Nat} (F : Fx K mg cl) (O : Ow P w K mg base cl Φ k) : ESs (bodyCf P w K mg base cl k (defScope s_trimmed_powers) N_trimmed_powers) (defBody s_trimmed_powers) (b_trimmed_powers Φ) :=
  (ss_cons (s_set 1 (v_blt r_len (x_cons (v_varN 0 n_trimmed_powers_0 (.inl rfl)) x_nil) rfl F.b_len bt_len) ⟨rfl, (.inl rfl), .inl rfl⟩ rfl) (ss_cons (s_while (EW.et (w_and (t_gt (v_varN 1 n_trimmed_powers_1 (.inl rfl)) v_int) (w_and1 (t_eq (v_ixD (v_varN 0 n_trimmed_powers_0 (.inl rfl)) (v_sub (v_varN 1 n_trimmed_powers_1 (.inl rfl)) v_int)) v_int)))) (ss_one (s_set 1 (v_sub (v_varN 1 n_trimmed_powers_1 (.inl rfl)) v_int) ⟨rfl, (.inl rfl), .inl rfl⟩ rfl))) (ss_one (s_ret (v_bty r_tup (x_cons (v_sl (v_varN 0 n_trimmed_powers_0 (.inl rfl)) o_no (o_some (v_varN 1 n_trimmed_powers_1 (.inl rfl)))) x_nil) rfl F.b_tuple bt_tuple)))))
abbrev N_power_in : List Str := ["powers", "unknown"]
abbrev P_power_in : List Str := ["powers", "unknown"]
def b_power_in (Φ : Fn) : EvS := (sRet (eIf (eTest (eBin oLt (eVar 1) (eApp oLen (aCons (eVar 0) aNil)))) (eBin oIxD (eVar 0) (eVar 1)) (eC (.int 0))))
theorem n_power_in_1 : nB N_power_in 1 "unknown" = true := by decide +kernel
theorem n_power_in_0 : nB N_power_in 0 "powers" = true := by decide +kernel
theorem sc_power_in : FnScope N_power_in P_power_in (defScope s_power_in) := ⟨rfl, rfl, rfl, by decide +kernel, rfl, by decide +kernel, by decide +kernel⟩
theorem e_power_in {P : Program} {w : World} {K : PySem.W.Frag} {mg : Str → Option Value} {base : Heap} {cl : Nat → Addr} {Φ : Fn} {k : Nat} (F : Fx K mg cl) (O : Ow P w K mg base cl Φ k) : ESs (bodyCf P w K mg base cl k (defScope s_power_in) N_power_in) (defBody s_power_in) (b_power_in Φ) :=
  (ss_one (s_ret (v_if (t_lt (v_varN 1 n_power_in_1 (.inl rfl)) (v_blt r_len (x_cons (v_varN 0 n_power_in_0 (.inl rfl)) x_nil) rfl F.b_len bt_len)) (v_ixD (v_varN 0 n_power_in_0 (.inl rfl)) (v_varN 1 n_power_in_1 (.inl rfl))) v_int)))
abbrev N_unknowns_of : List Str := ["poly", "own", "powers", "_"]
abbrev P_unknowns_of : List Str := ["poly"]
def b_unknowns_of (Φ : Fn) : EvS := (sRet (eApp oTup (aCons (eLc [1] (iRange1 (aCons (eC (.int 6)) aNil)) (gN 1) (eTru (eApp oAny (aCons (eLc [2, 3] (iSeq (eVar 0)) (gT (gsCons (gN 2) (gsCons (gN 3) gsNil))) tYes' (eBin oGt (eCall Φ 10 (aCons (eVar 2) (aCons (eVar 1) aNil))) (eC (.int 0)))) aNil))) (eVar 1)) aNil)))
theorem n_unknowns_of_0 : nB N_unknowns_of 0 "poly" = true := by decide +kernel
theorem n_unknowns_of_1 : nB N_unknowns_of 1 "own" = true := by decide +kernel
theorem n_unknowns_of_2 : nB N_unknowns_of 2 "powers" = true := by decide +kernel
theorem sc_unknowns_of : FnScope N_unknowns_of P_unknowns_of (defScope s_unknowns_of) := ⟨rfl, rfl, rfl, by decide +kernel, rfl, by decide +kernel, by decide +kernel⟩
theorem e_unknowns_of {P : Program} {w : World} {K : PySem.W.Frag} {mg : Str → Option Value} {base : Heap} {cl : Nat → Addr} {Φ : Fn} {k : Nat} (F : Fx K mg cl) (O : Ow P w K mg base cl Φ k) : ESs (bodyCf P w K mg base cl k (defScope s_unknowns_of) N_unknowns_of) (defBody s_unknowns_of) (b_unknowns_of Φ) :=
  (ss_one (s_ret (v_bty r_tup (x_cons (v_lc (own := [("own", 1)]) rfl (i_range1 (x_cons (v_globI F.g_UNKNOWNS.choose_spec rfl) x_nil) rfl F.b_range) (by show blkC N_unknowns_of (defScope s_unknowns_of) _ _ = true; decide +kernel) (g_name 1 ⟨rfl, (.inr rfl), (.inl rfl)⟩ rfl) (ts_one (t_tru (v_blt (r_any rfl) (x_cons (v_lc (own := [("powers", 2), ("_", 3)]) rfl (i_seq (v_varN 0 n_unknowns_of_0 (.inr (.inl rfl)))) (by show blkC N_unknowns_of (relS ({ kind := .function, names := [(".0", .local), ("own", .cell), ("any", .globalImplicit), ("poly", .free)], isGenerator := false, isCoroutine := false } : PySem.Scope) (defScope s_unknowns_of)) _ _ = true; decide +kernel) (g_tup (n := 2) rfl (gs_cons (g_name 2 ⟨rfl, (.inl rfl), (.inr rfl)⟩ rfl) (gs_cons (g_name 3 ⟨rfl, (.inl rfl), (.inr rfl)⟩ rfl) gs_nil)) (hl := (li_cons (pu_name 2) (li_cons (pu_name 3) li_nil)))) ts_nil (v_gt (v_call O.f_power_in rfl (x_cons (v_varN 2 n_unknowns_of_2 (.inl rfl)) (x_cons (v_varN 1 n_unknowns_of_1 (.inr (.inl rfl))) x_nil)) rfl) v_int) (by decide +kernel)) x_nil) rfl F.b_any bt_any))) (v_varN 1 n_unknowns_of_1 (.inr (.inl rfl))) (by decide +kernel)) x_nil) rfl F.b_tuple bt_tuple)))
abbrev N_degree_of : List Str := ["poly", "unknown", "powers", "_"]
abbrev P_degree_of : List Str := ["poly", "unknown"]
def b_degree_of (Φ : Fn) : EvS := (sRet (eIf (eTest (eBin oNe (eVar 0) (eTup aNil))) (eApp oMax (aCons (eLc [2, 3] (iSeq (eVar 0)) (gT (gsCons (gN 2) (gsCons (gN 3) gsNil))) tYes' (eCall Φ 10 (aCons (eVar 2) (aCons (eVar 1) aNil)))) aNil)) (eNeg (eC (.int 1)))))
theorem n_degree_of_0 : nB N_degree_of 0 "poly" = true := by decide +kernel
theorem n_degree_of_1 : nB N_degree_of 1 "unknown" = true := by decide +kernel
theorem n_degree_of_2 : nB N_degree_of 2 "powers" = true := by decide +kernel
theorem sc_degree_of : FnScope N_degree_of P_degree_of (defScope s_degree_of) := ⟨rfl, rfl, rfl, by decide +kernel, rfl, by decide +kernel, by decide +kernel⟩
theorem e_degree_of {P : Program} {w : World} {K : PySem.W.Frag} {mg : Str → Option Value} {base : Heap} {cl : Nat → Addr} {Φ : Fn} {k : Nat} (F : Fx K mg cl) (O : Ow P w K mg base cl Φ k) : ESs (bodyCf P w K mg base cl k (defScope s_degree_of) N_degree_of) (defBody s_degree_of) (b_degree_of Φ) :=
  (ss_one (s_ret (v_if (t_ne (v_varN 0 n_degree_of_0 (.inl rfl)) (v_tup x_nil)) (v_blt (r_max rfl) (x_cons (v_lc (own := [("powers", 2), ("_", 3)]) rfl (i_seq (v_varN 0 n_degree_of_0 (.inl rfl))) (by show blkC N_degree_of (defScope s_degree_of) _ _ = true; decide +kernel) (g_tup (n := 2) rfl (gs_cons (g_name 2 ⟨rfl, (.inl rfl), (.inr rfl)⟩ rfl) (gs_cons (g_name 3 ⟨rfl, (.inl rfl), (.inr rfl)⟩ rfl) gs_nil)) (hl := (li_cons (pu_name 2) (li_cons (pu_name 3) li_nil)))) ts_nil (v_call O.f_power_in rfl (x_cons (v_varN 2 n_degree_of_2 (.inl rfl)) (x_cons (v_varN 1 n_degree_of_1 (.inr (.inl rfl))) x_nil)) rfl) (by decide +kernel)) x_nil) rfl F.b_max bt_max) (v_neg v_int))))
abbrev N_without : List Str := ["powers", "unknown"]
abbrev P_without : List Str := ["powers", "unknown"]
def b_without (Φ : Fn) : EvS := (sSeq (sIf (eTest (eBin oGe (eVar 1) (eApp oLen (aCons (eVar 0) aNil)))) (sRet (eVar 0)) sNil) (sRet (eCall Φ 9 (aCons (eTup (aStar (eSl (eVar 0) oNo (oSome (eVar 1))) (aCons (eC (.int 0)) (aStar (eSl (eVar 0) (oSome (eBin oAdd (eVar 1) (eC (.int 1)))) oNo) aNil)))) aNil))))
theorem n_without_1 : nB N_without 1 "unknown" = true := by decide +kernel
theorem n_without_0 : nB N_without 0 "powers" = true := by decide +kernel
theorem sc_without : FnScope N_without P_without (defScope s_without) := ⟨rfl, rfl, rfl, by decide +kernel, rfl, by decide +kernel, by decide +kernel⟩
theorem e_without {P : Program} {w : World} {K : PySem.W.Frag} {mg : Str → Option Value} {base : Heap} {cl : Nat → Addr} {Φ : Fn} {k : Nat} (F : Fx K mg cl) (O : Ow P w K mg base cl Φ k) : ESs (bodyCf P w K mg base cl k (defScope s_without) N_without) (defBody s_without) (b_without Φ) :=
  (ss_cons (s_if (t_ge (v_varN 1 n_without_1 (.inl rfl)) (v_blt r_len (x_cons (v_varN 0 n_without_0 (.inl rfl)) x_nil) rfl F.b_len bt_len)) (ss_one (s_ret (v_varN 0 n_without_0 (.inl rfl)))) ss_nil) (ss_one (s_ret (v_call O.f_trimmed_powers rfl (x_cons (v_tup (x_star (v_sl (v_varN 0 n_without_0 (.inl rfl)) o_no (o_some (v_varN 1 n_without_1 (.inl rfl)))) (x_cons v_int (x_star (v_sl (v_varN 0 n_without_0 (.inl rfl)) (o_some (v_add (v_varN 1 n_without_1 (.inl rfl)) v_int)) o_no) x_nil)))) x_nil) rfl))))
abbrev N_parts_of : List Str := ["poly", "unknown", "found", "powers", "coefficient", "_", "own"]
abbrev P_parts_of : List Str := ["poly", "unknown"]
def b_parts_of (Φ : Fn) : EvS := (sSeq (sSet 2 (eLc [5] (iRange1 (aCons (eBin oAdd (eCall Φ 12 (aCons (eVar 0) (aCons (eVar 1) aNil))) (eC (.int 1))) aNil)) (gN 5) tYes' eDNew)) (sSeq (sFor (iSeq (eVar 0)) (gT (gsCons (gN 3) (gsCons (gN 4) gsNil))) (sAsg (eVar 4) (gSetD (eBin oIxD (eVar 2) (eCall Φ 10 (aCons (eVar 3) (aCons (eVar 1) aNil)))) (eCall Φ 13 (aCons (eVar 3) (aCons (eVar 1) aNil)))))) (sRet (eLc [6] (iSeq (eVar 2)) (gN 6) tYes' (eCall Φ 8 (aCons (eVar 6) aNil))))))
theorem n_parts_of_1 : nB N_parts_of 1 "unknown" = true := by decide +kernel
theorem n_parts_of_0 : nB N_parts_of 0 "poly" = true := by decide +kernel
theorem n_parts_of_4 : nB N_parts_of 4 "coefficient" = true := by decide +kernel
theorem n_parts_of_2 : nB N_parts_of 2 "found" = true := by decide +kernel
theorem n_parts_of_3 : nB N_parts_of 3 "powers" = true := by decide +kernel
theorem n_parts_of_6 : nB N_parts_of 6 "own" = true := by decide +kernel
theorem sc_parts_of : FnScope N_parts_of P_parts_of (defScope s_parts_of) := ⟨rfl, rfl, rfl, by decide +kernel, rfl, by decide +kernel, by decide +kernel⟩
theorem e_parts_of {P : Program} {w : World} {K : PySem.W.Frag} {mg : Str → Option Value} {base : Heap} {cl : Nat → Addr} {Φ : Fn} {k : Nat} (F : Fx K mg cl) (O : Ow P w K mg base cl Φ k) : ESs (bodyCf P w K mg base cl k (defScope s_parts_of) N_parts_of) (defBody s_parts_of) (b_parts_of Φ) :=
  (ss_cons (s_setLc 2 (own := [("_", 5)]) ⟨rfl, (.inl rfl), .inl rfl⟩ rfl rfl rfl rfl (by decide +kernel) rfl (i_range1 (x_cons (v_add (v_call O.f_degree_of rfl (x_cons (v_varN 0 n_parts_of_0 (.inl rfl)) (x_cons (v_varN 1 n_parts_of_1 (.inl rfl)) x_nil)) rfl) v_int) x_nil) rfl F.b_range) (by show blkC N_parts_of (defScope s_parts_of) _ _ = true; decide +kernel) (g_name 5 ⟨rfl, (.inl rfl), (.inr rfl)⟩ rfl) ts_nil v_dnew (by decide +kernel)) (ss_cons (s_for rfl (i_seq (v_varN 0 n_parts_of_0 (.inl rfl))) (g_tup (n := 2) rfl (gs_cons (g_name 3 ⟨rfl, (.inl rfl), (.inl rfl)⟩ rfl) (gs_cons (g_name 4 ⟨rfl, (.inl rfl), (.inl rfl)⟩ rfl) gs_nil)) (hl := (li_cons (pu_name 3) (li_cons (pu_name 4) li_nil)))) (ss_one (s_asg (v_varN 4 n_parts_of_4 (.inl rfl)) (g_setD (v_ixD (v_varN 2 n_parts_of_2 (.inl rfl)) (v_call O.f_power_in rfl (x_cons (v_varN 3 n_parts_of_3 (.inl rfl)) (x_cons (v_varN 1 n_parts_of_1 (.inl rfl)) x_nil)) rfl)) (v_call O.f_without rfl (x_cons (v_varN 3 n_parts_of_3 (.inl rfl)) (x_cons (v_varN 1 n_parts_of_1 (.inl rfl)) x_nil)) rfl))))) (ss_one (s_ret (v_lc (own := [("own", 6)]) rfl (i_seq (v_varN 2 n_parts_of_2 (.inl rfl))) (by show blkC N_parts_of (defScope s_parts_of) _ _ = true; decide +kernel) (g_name 6 ⟨rfl, (.inl rfl), (.inr rfl)⟩ rfl) ts_nil (v_call O.f_told rfl (x_cons (v_varN 6 n_parts_of_6 (.inl rfl)) x_nil) rfl) (by decide +kernel))))))
abbrev N_by_prime : List Str := ["row", "found", "number"]
abbrev P_by_prime : List Str := ["row"]
def b_by_prime (Φ : Fn) : EvS := (sSeq (sSet 1 (eLcM [2] (iSeq (eVar 0)) (gN 2) tYes' (eBin oMod (eVar 2) (eC (.int 2147483647))))) (sSeq (sWhile (tAnd' (eTest (eBin oNe (eVar 1) (eLst aNil))) (eTest (eBin oEq (eBin oIxD (eVar 1) (eNeg (eC (.int 1)))) (eC (.int 0))))) (sDrop (eMet mPop (eVar 1) aNil))) (sRet (eVar 1))))
theorem n_by_prime_0 : nB N_by_prime 0 "row" = true := by decide +kernel
theorem n_by_prime_2 : nB N_by_prime 2 "number" = true := by decide +kernel
theorem n_by_prime_1 : nB N_by_prime 1 "found" = true := by decide +kernel
theorem sc_by_prime : FnScope N_by_prime P_by_prime (defScope s_by_prime) := ⟨rfl, rfl, rfl, by decide +kernel, rfl, by decide +kernel, by decide +kernel⟩
theorem e_by_prime {P : Program} {w : World} {K : PySem.W.Frag} {mg : Str → Option Value} {base : Heap} {cl : Nat → Addr} {Φ : Fn} {k : Nat} (F : Fx K mg cl) (O : Ow P w K mg base cl Φ k) : ESs (bodyCf P w K mg base cl k (defScope s_by_prime) N_by_prime) (defBody s_by_prime) (b_by_prime Φ) :=
  (ss_cons (s_setLcM 1 (own := [("number", 2)]) ⟨rfl, (.inl rfl), .inl rfl⟩ rfl rfl rfl rfl (by decide +kernel) rfl (i_seq (v_varN 0 n_by_prime_0 (.inl rfl))) (by show blkC N_by_prime (defScope s_by_prime) _ _ = true; decide +kernel) (g_name 2 ⟨rfl, (.inl rfl), (.inr rfl)⟩ rfl) ts_nil (v_mod (v_varN 2 n_by_prime_2 (.inl rfl)) (v_globI F.g_PRIME.choose_spec rfl)) (by decide +kernel)) (ss_cons (s_while (EW.et (w_and (t_ne (v_varN 1 n_by_prime_1 (.inl rfl)) (v_lst x_nil)) (w_and1 (t_eq (v_ixD (v_varN 1 n_by_prime_1 (.inl rfl)) (v_neg v_int)) v_int)))) (ss_one (s_expr (v_met0 pl_list PySem.F.slot_list_pop mt_ty_pop r_pop (v_varN 1 n_by_prime_1 (.inl rfl)))))) (ss_one (s_ret (v_varN 1 n_by_prime_1 (.inl rfl))))))
abbrev N_inverse_of : List Str := ["number", "near", "far", "left", "right", "times"]
abbrev P_inverse_of : List Str := ["number"]
def b_inverse_of (Φ : Fn) : EvS := (sSeq (sAsg (eTup (aCons (eVar 0) (aCons (eC (.int 2147483647)) (aCons (eC (.int 1)) (aCons (eC (.int 0)) aNil))))) (gT (gsCons (gN 1) (gsCons (gN 2) (gsCons (gN 3) (gsCons (gN 4) gsNil)))))) (sSeq (sWhile (eTest (eBin oNe (eVar 1) (eC (.int 1)))) (sSeq (sSet 5 (eBin oDiv (eVar 2) (eVar 1))) (sSeq (sAsg (eTup (aCons (eBin oSub (eVar 2) (eBin oMul (eVar 5) (eVar 1))) (aCons (eVar 1) (aCons (eBin oSub (eVar 4) (eBin oMul (eVar 5) (eVar 3))) (aCons (eVar 3) aNil))))) (gT (gsCons (gN 1) (gsCons (gN 2) (gsCons (gN 3) (gsCons (gN 4) gsNil)))))) (sIf (eTest (eBin oEq (eVar 1) (eC (.int 0)))) sBk sNil)))) (sRet (eBin oMod (eVar 3) (eC (.int 2147483647))))))
theorem n_inverse_of_0 : nB N_inverse_of 0 "number" = true := by decide +kernel
theorem n_inverse_of_1 : nB N_inverse_of 1 "near" = true := by decide +kernel
theorem n_inverse_of_2 : nB N_inverse_of 2 "far" = true := by decide +kernel
theorem n_inverse_of_3 : nB N_inverse_of 3 "left" = true := by decide +kernel
theorem n_inverse_of_4 : nB N_inverse_of 4 "right" = true := by decide +kernel
theorem n_inverse_of_5 : nB N_inverse_of 5 "times" = true := by decide +kernel
theorem sc_inverse_of : FnScope N_inverse_of P_inverse_of (defScope s_inverse_of) := ⟨rfl, rfl, rfl, by decide +kernel, rfl, by decide +kernel, by decide +kernel⟩
theorem e_inverse_of {P : Program} {w : World} {K : PySem.W.Frag} {mg : Str → Option Value} {base : Heap} {cl : Nat → Addr} {Φ : Fn} {k : Nat} (F : Fx K mg cl) (O : Ow P w K mg base cl Φ k) : ESs (bodyCf P w K mg base cl k (defScope s_inverse_of) N_inverse_of) (defBody s_inverse_of) (b_inverse_of Φ) :=
  (ss_cons (s_asg (v_tup (x_cons (v_varN 0 n_inverse_of_0 (.inl rfl)) (x_cons (v_globI F.g_PRIME.choose_spec rfl) (x_cons v_int (x_cons v_int x_nil))))) (g_tup (n := 4) rfl (gs_cons (g_name 1 ⟨rfl, (.inl rfl), (.inl rfl)⟩ rfl) (gs_cons (g_name 2 ⟨rfl, (.inl rfl), (.inl rfl)⟩ rfl) (gs_cons (g_name 3 ⟨rfl, (.inl rfl), (.inl rfl)⟩ rfl) (gs_cons (g_name 4 ⟨rfl, (.inl rfl), (.inl rfl)⟩ rfl) gs_nil)))) (hl := (li_cons (pu_name 1) (li_cons (pu_name 2) (li_cons (pu_name 3) (li_cons (pu_name 4) li_nil)))))) (hw := fun env he => sw_none (by rw [he]; rfl))) (ss_cons (s_while (t_ne (v_varN 1 n_inverse_of_1 (.inl rfl)) v_int) (ss_cons (s_set 5 (v_div (v_varN 2 n_inverse_of_2 (.inl rfl)) (v_varN 1 n_inverse_of_1 (.inl rfl))) ⟨rfl, (.inl rfl), .inl rfl⟩ rfl) (ss_cons (s_asg (v_tup (x_cons (v_sub (v_varN 2 n_inverse_of_2 (.inl rfl)) (v_mul (v_varN 5 n_inverse_of_5 (.inl rfl)) (v_varN 1 n_inverse_of_1 (.inl rfl)))) (x_cons (v_varN 1 n_inverse_of_1 (.inl rfl)) (x_cons (v_sub (v_varN 4 n_inverse_of_4 (.inl rfl)) (v_mul (v_varN 5 n_inverse_of_5 (.inl rfl)) (v_varN 3 n_inverse_of_3 (.inl rfl)))) (x_cons (v_varN 3 n_inverse_of_3 (.inl rfl)) x_nil))))) (g_tup (n := 4) rfl (gs_cons (g_name 1 ⟨rfl, (.inl rfl), (.inl rfl)⟩ rfl) (gs_cons (g_name 2 ⟨rfl, (.inl rfl), (.inl rfl)⟩ rfl) (gs_cons (g_name 3 ⟨rfl, (.inl rfl), (.inl rfl)⟩ rfl) (gs_cons (g_name 4 ⟨rfl, (.inl rfl), (.inl rfl)⟩ rfl) gs_nil)))) (hl := (li_cons (pu_name 1) (li_cons (pu_name 2) (li_cons (pu_name 3) (li_cons (pu_name 4) li_nil)))))) (hw := fun env he => sw_none (by rw [he]; rfl))) (ss_one (s_if (t_eq (v_varN 1 n_inverse_of_1 (.inl rfl)) v_int) (ss_one s_break) ss_nil))))) (ss_one (s_ret (v_mod (v_varN 3 n_inverse_of_3 (.inl rfl)) (v_globI F.g_PRIME.choose_spec rfl))))))
abbrev N_are_surely_apart : List Str := ["one", "other", "near", "far", "factor", "rest", "times", "gap", "place", "number"]
abbrev P_are_surely_apart : List Str := ["one", "other"]
def b_are_surely_apart (Φ : Fn) : EvS := (sSeq (sPar 2 3 (eCall Φ 15 (aCons (eVar 0) aNil)) (eCall Φ 15 (aCons (eVar 1) aNil))) (sSeq (sIf (tOr' (eTest (eBin oNe (eApp oLen (aCons (eVar 2) aNil)) (eApp oLen (aCons (eVar 0) aNil)))) (tOr' (eTest (eBin oNe (eApp oLen (aCons (eVar 3) aNil)) (eApp oLen (aCons (eVar 1) aNil)))) (eTest (eBin oLt (eApp oLen (aCons (eVar 2) aNil)) (eApp oLen (aCons (eVar 3) aNil)))))) (sRet (eAndT (eBin oEq (eApp oLen (aCons (eVar 2) aNil)) (eApp oLen (aCons (eVar 0) aNil))) (eAndT (eBin oEq (eApp oLen (aCons (eVar 3) aNil)) (eApp oLen (aCons (eVar 1) aNil))) (eAndT (eBin oGt (eApp oLen (aCons (eVar 3) aNil)) (eC (.int 0))) (eCall Φ 17 (aCons (eVar 1) (aCons (eVar 0) aNil))))))) sNil) (sSeq (sWhile (eTest (eBin oGt (eApp oLen (aCons (eVar 3) aNil)) (eC (.int 1)))) (sSeq (sSet 4 (eCall Φ 16 (aCons (eBin oIxD (eVar 3) (eNeg (eC (.int 1)))) aNil))) (sSeq (sSet 5 (eApp oListM (aCons (eVar 2) aNil))) (sSeq (sWhile (eTest (eBin oGe (eApp oLen (aCons (eVar 5) aNil)) (eApp oLen (aCons (eVar 3) aNil)))) (sSeq (sPar 6 7 (eBin oMod (eBin oMul (eBin oIxD (eVar 5) (eNeg (eC (.int 1)))) (eVar 4)) (eC (.int 2147483647))) (eBin oSub (eApp oLen (aCons (eVar 5) aNil)) (eApp oLen (aCons (eVar 3) aNil)))) (sSeq (sFor (iEnum (aCons (eVar 3) aNil)) (gT (gsCons (gN 8) (gsCons (gN 9) gsNil))) (sAsg (eBin oMod (eBin oSub (eBin oIxD (eVar 5) (eBin oAdd (eVar 8) (eVar 7))) (eBin oMul (eVar 6) (eVar 9))) (eC (.int 2147483647))) (gSetD (eVar 5) (eBin oAdd (eVar 8) (eVar 7))))) (sWhile (tAnd' (eTest (eBin oNe (eVar 5) (eLst aNil))) (eTest (eBin oEq (eBin oIxD (eVar 5) (eNeg (eC (.int 1)))) (eC (.int 0))))) (sDrop (eMet mPop (eVar 5) aNil)))))) (sPar 2 3 (eVar 3) (eVar 5)))))) (sRet (eBin oEq (eApp oLen (aCons (eVar 3) aNil)) (eC (.int 1)))))))
theorem n_are_surely_apart_0 : nB N_are_surely_apart 0 "one" = true := by decide +kernel
theorem n_are_surely_apart_1 : nB N_are_surely_apart 1 "other" = true := by decide +kernel
theorem p_are_surely_apart_2_3 : parB N_are_surely_apart 2 3 "near" "far" = true := by decide +kernel
theorem n_are_surely_apart_2 : nB N_are_surely_apart 2 "near" = true := by decide +kernel
theorem n_are_surely_apart_3 : nB N_are_surely_apart 3 "far" = true := by decide +kernel
theorem n_are_surely_apart_5 : nB N_are_surely_apart 5 "rest" = true := by decide +kernel
theorem n_are_surely_apart_4 : nB N_are_surely_apart 4 "factor" = true := by decide +kernel
theorem p_are_surely_apart_6_7 : parB N_are_surely_apart 6 7 "times" "gap" = true := by decide +kernel
theorem n_are_surely_apart_8 : nB N_are_surely_apart 8 "place" = true := by decide +kernel
theorem n_are_surely_apart_7 : nB N_are_surely_apart 7 "gap" = true := by decide +kernel
theorem n_are_surely_apart_6 : nB N_are_surely_apart 6 "times" = true := by decide +kernel
theorem n_are_surely_apart_9 : nB N_are_surely_apart 9 "number" = true := by decide +kernel
theorem sc_are_surely_apart : FnScope N_are_surely_apart P_are_surely_apart (defScope s_are_surely_apart) := ⟨rfl, rfl, rfl, by decide +kernel, rfl, by decide +kernel, by decide +kernel⟩
theorem e_are_surely_apart {P : Program} {w : World} {K : PySem.W.Frag} {mg : Str → Option Value} {base : Heap} {cl : Nat → Addr} {Φ : Fn} {k : Nat} (F : Fx K mg cl) (O : Ow P w K mg base cl Φ k) : ESs (bodyCf P w K mg base cl k (defScope s_are_surely_apart) N_are_surely_apart) (defBody s_are_surely_apart) (b_are_surely_apart Φ) :=
  (ss_cons (s_parN 2 3 (v_call O.f_by_prime rfl (x_cons (v_varN 0 n_are_surely_apart_0 (.inl rfl)) x_nil) rfl) (v_call O.f_by_prime rfl (x_cons (v_varN 1 n_are_surely_apart_1 (.inl rfl)) x_nil) rfl) p_are_surely_apart_2_3 rfl rfl rfl rfl rfl rfl rfl rfl rfl rfl rfl) (ss_cons (s_if (EW.et (w_or (t_ne (v_blt r_len (x_cons (v_varN 2 n_are_surely_apart_2 (.inl rfl)) x_nil) rfl F.b_len bt_len) (v_blt r_len (x_cons (v_varN 0 n_are_surely_apart_0 (.inl rfl)) x_nil) rfl F.b_len bt_len)) (w_or (t_ne (v_blt r_len (x_cons (v_varN 3 n_are_surely_apart_3 (.inl rfl)) x_nil) rfl F.b_len bt_len) (v_blt r_len (x_cons (v_varN 1 n_are_surely_apart_1 (.inl rfl)) x_nil) rfl F.b_len bt_len)) (w_or1 (t_lt (v_blt r_len (x_cons (v_varN 2 n_are_surely_apart_2 (.inl rfl)) x_nil) rfl F.b_len bt_len) (v_blt r_len (x_cons (v_varN 3 n_are_surely_apart_3 (.inl rfl)) x_nil) rfl F.b_len bt_len)))))) (ss_one (s_ret (v_andT (v_eq (v_blt r_len (x_cons (v_varN 2 n_are_surely_apart_2 (.inl rfl)) x_nil) rfl F.b_len bt_len) (v_blt r_len (x_cons (v_varN 0 n_are_surely_apart_0 (.inl rfl)) x_nil) rfl F.b_len bt_len)) (v_andT (v_eq (v_blt r_len (x_cons (v_varN 3 n_are_surely_apart_3 (.inl rfl)) x_nil) rfl F.b_len bt_len) (v_blt r_len (x_cons (v_varN 1 n_are_surely_apart_1 (.inl rfl)) x_nil) rfl F.b_len bt_len)) (v_andT (v_gt (v_blt r_len (x_cons (v_varN 3 n_are_surely_apart_3 (.inl rfl)) x_nil) rfl F.b_len bt_len) v_int) (v_one (v_call O.f_are_surely_apart rfl (x_cons (v_varN 1 n_are_surely_apart_1 (.inl rfl)) (x_cons (v_varN 0 n_are_surely_apart_0 (.inl rfl)) x_nil)) rfl))))))) ss_nil) (ss_cons (s_while (t_gt (v_blt r_len (x_cons (v_varN 3 n_are_surely_apart_3 (.inl rfl)) x_nil) rfl F.b_len bt_len) v_int) (ss_cons (s_set 4 (v_call O.f_inverse_of rfl (x_cons (v_ixD (v_varN 3 n_are_surely_apart_3 (.inl rfl)) (v_neg v_int)) x_nil) rfl) ⟨rfl, (.inl rfl), .inl rfl⟩ rfl) (ss_cons (s_set 5 (v_bty r_listM (x_cons (v_varN 2 n_are_surely_apart_2 (.inl rfl)) x_nil) rfl F.b_list bt_list) ⟨rfl, (.inl rfl), .inl rfl⟩ rfl) (ss_cons (s_while (t_ge (v_blt r_len (x_cons (v_varN 5 n_are_surely_apart_5 (.inl rfl)) x_nil) rfl F.b_len bt_len) (v_blt r_len (x_cons (v_varN 3 n_are_surely_apart_3 (.inl rfl)) x_nil) rfl F.b_len bt_len)) (ss_cons (s_parN 6 7 (v_mod (v_mul (v_ixD (v_varN 5 n_are_surely_apart_5 (.inl rfl)) (v_neg v_int)) (v_varN 4 n_are_surely_apart_4 (.inl rfl))) (v_globI F.g_PRIME.choose_spec rfl)) (v_sub (v_blt r_len (x_cons (v_varN 5 n_are_surely_apart_5 (.inl rfl)) x_nil) rfl F.b_len bt_len) (v_blt r_len (x_cons (v_varN 3 n_are_surely_apart_3 (.inl rfl)) x_nil) rfl F.b_len bt_len)) p_are_surely_apart_6_7 rfl rfl rfl rfl rfl rfl rfl rfl rfl rfl rfl) (ss_cons (s_for rfl (i_enum (x_cons (v_varN 3 n_are_surely_apart_3 (.inl rfl)) x_nil) rfl F.b_enumerate) (g_tup (n := 2) rfl (gs_cons (g_name 8 ⟨rfl, (.inl rfl), (.inl rfl)⟩ rfl) (gs_cons (g_name 9 ⟨rfl, (.inl rfl), (.inl rfl)⟩ rfl) gs_nil)) (hl := (li_cons (pu_name 8) (li_cons (pu_name 9) li_nil)))) (ss_one (s_asg (v_mod (v_sub (v_ixD (v_varN 5 n_are_surely_apart_5 (.inl rfl)) (v_add (v_varN 8 n_are_surely_apart_8 (.inl rfl)) (v_varN 7 n_are_surely_apart_7 (.inl rfl)))) (v_mul (v_varN 6 n_are_surely_apart_6 (.inl rfl)) (v_varN 9 n_are_surely_apart_9 (.inl rfl)))) (v_globI F.g_PRIME.choose_spec rfl)) (g_setD (v_varN 5 n_are_surely_apart_5 (.inl rfl)) (v_add (v_varN 8 n_are_surely_apart_8 (.inl rfl)) (v_varN 7 n_are_surely_apart_7 (.inl rfl))))))) (ss_one (s_while (EW.et (w_and (t_ne (v_varN 5 n_are_surely_apart_5 (.inl rfl)) (v_lst x_nil)) (w_and1 (t_eq (v_ixD (v_varN 5 n_are_surely_apart_5 (.inl rfl)) (v_neg v_int)) v_int)))) (ss_one (s_expr (v_met0 pl_list PySem.F.slot_list_pop mt_ty_pop r_pop (v_varN 5 n_are_surely_apart_5 (.inl rfl)))))))))) (ss_one (s_parN 2 3 (v_varN 3 n_are_surely_apart_3 (.inl rfl)) (v_varN 5 n_are_surely_apart_5 (.inl rfl)) p_are_surely_apart_2_3 rfl rfl rfl rfl rfl rfl rfl rfl rfl rfl rfl)))))) (ss_one (s_ret (v_eq (v_blt r_len (x_cons (v_varN 3 n_are_surely_apart_3 (.inl rfl)) x_nil) rfl F.b_len bt_len) v_int))))))
abbrev N_numbers_of : List Str := ["poly", "unknown", "found", "part"]
abbrev P_numbers_of : List Str := ["poly", "unknown"]
def b_numbers_of (Φ : Fn) : EvS := (sSeq (sSet 2 (eLc [3] (iSeq (eCall Φ 14 (aCons (eVar 0) (aCons (eVar 1) aNil)))) (gN 3) tYes' (eIf (eTest (eBin oNe (eVar 3) (eTup aNil))) (eBin oIxD (eBin oIxD (eVar 3) (eC (.int 0))) (eC (.int 1))) (eC (.int 0))))) (sSeq (sIf (eTest (eBin oGt (eApp oLen (aCons (eVar 2) aNil)) (eBin oAdd (eC (.int 80)) (eC (.int 1))))) (sRaise 1) sNil) (sRet (eVar 2))))
theorem n_numbers_of_1 : nB N_numbers_of 1 "unknown" = true := by decide +kernel
theorem n_numbers_of_0 : nB N_numbers_of 0 "poly" = true := by decide +kernel
theorem n_numbers_of_3 : nB N_numbers_of 3 "part" = true := by decide +kernel
theorem n_numbers_of_2 : nB N_numbers_of 2 "found" = true := by decide +kernel
theorem sc_numbers_of : FnScope N_numbers_of P_numbers_of (defScope s_numbers_of) := ⟨rfl, rfl, rfl, by decide +kernel, rfl, by decide +kernel, by decide +kernel⟩
theorem e_numbers_of {P : Program} {w : World} {K : PySem.W.Frag} {mg : Str → Option Value} {base : Heap} {cl : Nat → Addr} {Φ : Fn} {k : Nat} (F : Fx K mg cl) (O : Ow P w K mg base cl Φ k) : ESs (bodyCf P w K mg base cl k (defScope s_numbers_of) N_numbers_of) (defBody s_numbers_of) (b_numbers_of Φ) :=
  (ss_cons (s_setLc 2 (own := [("part", 3)]) ⟨rfl, (.inl rfl), .inl rfl⟩ rfl rfl rfl rfl (by decide +kernel) rfl (i_seq (v_call O.f_parts_of rfl (x_cons (v_varN 0 n_numbers_of_0 (.inl rfl)) (x_cons (v_varN 1 n_numbers_of_1 (.inl rfl)) x_nil)) rfl)) (by show blkC N_numbers_of (defScope s_numbers_of) _ _ = true; decide +kernel) (g_name 3 ⟨rfl, (.inl rfl), (.inr rfl)⟩ rfl) ts_nil (v_if (t_ne (v_varN 3 n_numbers_of_3 (.inl rfl)) (v_tup x_nil)) (v_ixD (v_ixD (v_varN 3 n_numbers_of_3 (.inl rfl)) v_int) v_int) v_int) (by decide +kernel)) (ss_cons (s_if (t_gt (v_blt r_len (x_cons (v_varN 2 n_numbers_of_2 (.inl rfl)) x_nil) rfl F.b_len bt_len) (v_add (v_globI F.g_MOST_DEGREE.choose_spec rfl) v_int)) (ss_one (s_raise F.x_TooMuch rfl rfl)) ss_nil) (ss_one (s_ret (v_varN 2 n_numbers_of_2 (.inl rfl))))))
abbrev N_least_row : List Str := ["row", "found", "common", "number"]
abbrev P_least_row : List Str := ["row"]
def b_least_row (Φ : Fn) : EvS := (sSeq (sSet 1 (eApp oListM (aCons (eVar 0) aNil))) (sSeq (sWhile (tAnd' (eTest (eBin oNe (eVar 1) (eLst aNil))) (eTest (eBin oEq (eBin oIxD (eVar 1) (eNeg (eC (.int 1)))) (eC (.int 0))))) (sDrop (eMet mPop (eVar 1) aNil))) (sSeq (sSet 2 (eC (.int 0))) (sSeq (sFor (iSeq (eVar 1)) (gN 3) (sSet 2 (eCall Φ 4 (aCons (eVar 2) (aCons (eVar 3) aNil))))) (sRet (eIf (eTest (eBin oGt (eVar 2) (eC (.int 1)))) (eLc [3] (iSeq (eVar 1)) (gN 3) tYes' (eBin oDiv (eVar 3) (eVar 2))) (eVar 1)))))))
theorem n_least_row_0 : nB N_least_row 0 "row" = true := by decide +kernel
theorem n_least_row_1 : nB N_least_row 1 "found" = true := by decide +kernel
theorem n_least_row_3 : nB N_least_row 3 "number" = true := by decide +kernel
theorem n_least_row_2 : nB N_least_row 2 "common" = true := by decide +kernel
theorem sc_least_row : FnScope N_least_row P_least_row (defScope s_least_row) := ⟨rfl, rfl, rfl, by decide +kernel, rfl, by decide +kernel, by decide +kernel⟩
theorem e_least_row {P : Program} {w : World} {K : PySem.W.Frag} {mg : Str → Option Value} {base : Heap} {cl : Nat → Addr} {Φ : Fn} {k : Nat} (F : Fx K mg cl) (O : Ow P w K mg base cl Φ k) : ESs (bodyCf P w K mg base cl k (defScope s_least_row) N_least_row) (defBody s_least_row) (b_least_row Φ) :=
  (ss_cons (s_set 1 (v_bty r_listM (x_cons (v_varN 0 n_least_row_0 (.inl rfl)) x_nil) rfl F.b_list bt_list) ⟨rfl, (.inl rfl), .inl rfl⟩ rfl) (ss_cons (s_while (EW.et (w_and (t_ne (v_varN 1 n_least_row_1 (.inl rfl)) (v_lst x_nil)) (w_and1 (t_eq (v_ixD (v_varN 1 n_least_row_1 (.inl rfl)) (v_neg v_int)) v_int)))) (ss_one (s_expr (v_met0 pl_list PySem.F.slot_list_pop mt_ty_pop r_pop (v_varN 1 n_least_row_1 (.inl rfl)))))) (ss_cons (s_set 2 v_int ⟨rfl, (.inr rfl), .inl rfl⟩ rfl) (ss_cons (s_for rfl (i_seq (v_varN 1 n_least_row_1 (.inl rfl))) (g_name 3 ⟨rfl, (.inl rfl), (.inl rfl)⟩ rfl) (ss_one (s_set 2 (v_call O.f_common_divisor rfl (x_cons (v_varN 2 n_least_row_2 (.inr (.inl rfl))) (x_cons (v_varN 3 n_least_row_3 (.inl rfl)) x_nil)) rfl) ⟨rfl, (.inr rfl), .inl rfl⟩ rfl))) (ss_one (s_ret (v_if (t_gt (v_varN 2 n_least_row_2 (.inr (.inl rfl))) v_int) (v_lc (own := [("number", 3)]) rfl (i_seq (v_varN 1 n_least_row_1 (.inl rfl))) (by show blkC N_least_row (defScope s_least_row) _ _ = true; decide +kernel) (g_name 3 ⟨rfl, (.inl rfl), (.inr rfl)⟩ rfl) ts_nil (v_div (v_varN 3 n_least_row_3 (.inl rfl)) (v_varN 2 n_least_row_2 (.inr (.inl rfl)))) (by decide +kernel)) (v_varN 1 n_least_row_1 (.inl rfl)))))))))
abbrev N_derived_row : List Str := ["row", "power", "number"]
abbrev P_derived_row : List Str := ["row"]
def b_derived_row (Φ : Fn) : EvS := (sRet (eLc [1, 2] (iEnum (aCons (eSl (eVar 0) (oSome (eC (.int 1))) oNo) aNil)) (gT (gsCons (gN 1) (gsCons (gN 2) gsNil))) tYes' (eBin oMul (eVar 2) (eBin oAdd (eVar 1) (eC (.int 1))))))
theorem n_derived_row_0 : nB N_derived_row 0 "row" = true := by decide +kernel
theorem n_derived_row_2 : nB N_derived_row 2 "number" = true := by decide +kernel
theorem n_derived_row_1 : nB N_derived_row 1 "power" = true := by decide +kernel
theorem sc_derived_row : FnScope N_derived_row P_derived_row (defScope s_derived_row) := ⟨rfl, rfl, rfl, by decide +kernel, rfl, by decide +kernel, by decide +kernel⟩
theorem e_derived_row {P : Program} {w : World} {K : PySem.W.Frag} {mg : Str → Option Value} {base : Heap} {cl : Nat → Addr} {Φ : Fn} {k : Nat} (F : Fx K mg cl) (O : Ow P w K mg base cl Φ k) : ESs (bodyCf P w K mg base cl k (defScope s_derived_row) N_derived_row) (defBody s_derived_row) (b_derived_row Φ) :=
  (ss_one (s_ret (v_lc (own := [("power", 1), ("number", 2)]) rfl (i_enum (x_cons (v_sl (v_varN 0 n_derived_row_0 (.inl rfl)) (o_some v_int) o_no) x_nil) rfl F.b_enumerate) (by show blkC N_derived_row (defScope s_derived_row) _ _ = true; decide +kernel) (g_tup (n := 2) rfl (gs_cons (g_name 1 ⟨rfl, (.inl rfl), (.inr rfl)⟩ rfl) (gs_cons (g_name 2 ⟨rfl, (.inl rfl), (.inr rfl)⟩ rfl) gs_nil)) (hl := (li_cons (pu_name 1) (li_cons (pu_name 2) li_nil)))) ts_nil (v_mul (v_varN 2 n_derived_row_2 (.inl rfl)) (v_add (v_varN 1 n_derived_row_1 (.inl rfl)) v_int)) (by decide +kernel))))
abbrev N_rest_row : List Str := ["row", "divisor", "found", "lead", "top", "gap", "number", "factor", "place"]
abbrev P_rest_row : List Str := ["row", "divisor"]
def b_rest_row (Φ : Fn) : EvS := (sSeq (sAsg (eTup (aCons (eApp oListM (aCons (eVar 0) aNil)) (aCons (eBin oIxD (eVar 1) (eNeg (eC (.int 1)))) aNil))) (gT (gsCons (gN 2) (gsCons (gN 3) gsNil)))) (sSeq (sWhile (eTest (eBin oGe (eApp oLen (aCons (eVar 2) aNil)) (eApp oLen (aCons (eVar 1) aNil)))) (sSeq (sPar 4 5 (eBin oIxD (eVar 2) (eNeg (eC (.int 1)))) (eBin oSub (eApp oLen (aCons (eVar 2) aNil)) (eApp oLen (aCons (eVar 1) aNil)))) (sSeq (sSet 2 (eLcM [6] (iSeq (eSl (eVar 2) oNo (oSome (eNeg (eC (.int 1)))))) (gN 6) tYes' (eBin oMul (eVar 6) (eApp oAbs (aCons (eVar 3) aNil))))) (sSeq (sSet 7 (eIf (eTest (eBin oGt (eVar 3) (eC (.int 0)))) (eVar 4) (eNeg (eVar 4)))) (sSeq (sFor (iEnum (aCons (eSl (eVar 1) oNo (oSome (eNeg (eC (.int 1))))) aNil)) (gT (gsCons (gN 8) (gsCons (gN 6) gsNil))) (sAsg (eBin oSub (eBin oIxD (eVar 2) (eBin oAdd (eVar 8) (eVar 5))) (eBin oMul (eVar 7) (eVar 6))) (gSetD (eVar 2) (eBin oAdd (eVar 8) (eVar 5))))) (sWhile (tAnd' (eTest (eBin oNe (eVar 2) (eLst aNil))) (eTest (eBin oEq (eBin oIxD (eVar 2) (eNeg (eC (.int 1)))) (eC (.int 0))))) (sDrop (eMet mPop (eVar 2) aNil)))))))) (sRet (eCall Φ 19 (aCons (eVar 2) aNil)))))
theorem n_rest_row_1 : nB N_rest_row 1 "divisor" = true := by decide +kernel
theorem n_rest_row_0 : nB N_rest_row 0 "row" = true := by decide +kernel
theorem n_rest_row_2 : nB N_rest_row 2 "found" = true := by decide +kernel
theorem p_rest_row_4_5 : parB N_rest_row 4 5 "top" "gap" = true := by decide +kernel
theorem n_rest_row_6 : nB N_rest_row 6 "number" = true := by decide +kernel
theorem n_rest_row_3 : nB N_rest_row 3 "lead" = true := by decide +kernel
theorem n_rest_row_4 : nB N_rest_row 4 "top" = true := by decide +kernel
theorem n_rest_row_8 : nB N_rest_row 8 "place" = true := by decide +kernel
theorem n_rest_row_5 : nB N_rest_row 5 "gap" = true := by decide +kernel
theorem n_rest_row_7 : nB N_rest_row 7 "factor" = true := by decide +kernel
theorem sc_rest_row : FnScope N_rest_row P_rest_row (defScope s_rest_row) := ⟨rfl, rfl, rfl, by decide +kernel, rfl, by decide +kernel, by decide +kernel⟩
theorem e_rest_row {P : Program} {w : World} {K : PySem.W.Frag} {mg : Str → Option Value} {base : Heap} {cl : Nat → Addr} {Φ : Fn} {k : Nat} (F : Fx K mg cl) (O : Ow P w K mg base cl Φ k) : ESs (bodyCf P w K mg base cl k (defScope s_rest_row) N_rest_row) (defBody s_rest_row) (b_rest_row Φ) :=
  (ss_cons (s_asg (v_tup (x_cons (v_bty r_listM (x_cons (v_varN 0 n_rest_row_0 (.inl rfl)) x_nil) rfl F.b_list bt_list) (x_cons (v_ixD (v_varN 1 n_rest_row_1 (.inl rfl)) (v_neg v_int)) x_nil))) (g_tup (n := 2) rfl (gs_cons (g_name 2 ⟨rfl, (.inl rfl), (.inl rfl)⟩ rfl) (gs_cons (g_name 3 ⟨rfl, (.inr rfl), (.inl rfl)⟩ rfl) gs_nil)) (hl := (li_cons (pu_name 2) (li_cons (pu_name 3) li_nil)))) (hw := fun env he => sw_none (by rw [he]; rfl))) (ss_cons (s_while (t_ge (v_blt r_len (x_cons (v_varN 2 n_rest_row_2 (.inl rfl)) x_nil) rfl F.b_len bt_len) (v_blt r_len (x_cons (v_varN 1 n_rest_row_1 (.inl rfl)) x_nil) rfl F.b_len bt_len)) (ss_cons (s_parN 4 5 (v_ixD (v_varN 2 n_rest_row_2 (.inl rfl)) (v_neg v_int)) (v_sub (v_blt r_len (x_cons (v_varN 2 n_rest_row_2 (.inl rfl)) x_nil) rfl F.b_len bt_len) (v_blt r_len (x_cons (v_varN 1 n_rest_row_1 (.inl rfl)) x_nil) rfl F.b_len bt_len)) p_rest_row_4_5 rfl rfl rfl rfl rfl rfl rfl rfl rfl rfl rfl) (ss_cons (s_setLcM 2 (own := [("number", 6)]) ⟨rfl, (.inl rfl), .inl rfl⟩ rfl rfl rfl rfl (by decide +kernel) rfl (i_seq (v_sl (v_varN 2 n_rest_row_2 (.inl rfl)) o_no (o_some (v_neg v_int)))) (by show blkC N_rest_row (defScope s_rest_row) _ _ = true; decide +kernel) (g_name 6 ⟨rfl, (.inl rfl), (.inr rfl)⟩ rfl) ts_nil (v_mul (v_varN 6 n_rest_row_6 (.inl rfl)) (v_blt r_abs (x_cons (v_varN 3 n_rest_row_3 (.inr (.inl rfl))) x_nil) rfl F.b_abs bt_abs)) (by decide +kernel)) (ss_cons (s_set 7 (v_if (t_gt (v_varN 3 n_rest_row_3 (.inr (.inl rfl))) v_int) (v_varN 4 n_rest_row_4 (.inl rfl)) (v_neg (v_varN 4 n_rest_row_4 (.inl rfl)))) ⟨rfl, (.inl rfl), .inl rfl⟩ rfl) (ss_cons (s_for rfl (i_enum (x_cons (v_sl (v_varN 1 n_rest_row_1 (.inl rfl)) o_no (o_some (v_neg v_int))) x_nil) rfl F.b_enumerate) (g_tup (n := 2) rfl (gs_cons (g_name 8 ⟨rfl, (.inl rfl), (.inl rfl)⟩ rfl) (gs_cons (g_name 6 ⟨rfl, (.inl rfl), (.inl rfl)⟩ rfl) gs_nil)) (hl := (li_cons (pu_name 8) (li_cons (pu_name 6) li_nil)))) (ss_one (s_asg (v_sub (v_ixD (v_varN 2 n_rest_row_2 (.inl rfl)) (v_add (v_varN 8 n_rest_row_8 (.inl rfl)) (v_varN 5 n_rest_row_5 (.inl rfl)))) (v_mul (v_varN 7 n_rest_row_7 (.inl rfl)) (v_varN 6 n_rest_row_6 (.inl rfl)))) (g_setD (v_varN 2 n_rest_row_2 (.inl rfl)) (v_add (v_varN 8 n_rest_row_8 (.inl rfl)) (v_varN 5 n_rest_row_5 (.inl rfl))))))) (ss_one (s_while (EW.et (w_and (t_ne (v_varN 2 n_rest_row_2 (.inl rfl)) (v_lst x_nil)) (w_and1 (t_eq (v_ixD (v_varN 2 n_rest_row_2 (.inl rfl)) (v_neg v_int)) v_int)))) (ss_one (s_expr (v_met0 pl_list PySem.F.slot_list_pop mt_ty_pop r_pop (v_varN 2 n_rest_row_2 (.inl rfl)))))))))))) (ss_one (s_ret (v_call O.f_least_row rfl (x_cons (v_varN 2 n_rest_row_2 (.inl rfl)) x_nil) rfl)))))
abbrev N_common_row : List Str := ["one", "other", "near", "far", "number"]
abbrev P_common_row : List Str := ["one", "other"]
def b_common_row (Φ : Fn) : EvS := (sSeq (sPar 2 3 (eCall Φ 19 (aCons (eVar 0) aNil)) (eCall Φ 19 (aCons (eVar 1) aNil))) (sSeq (sWhile (eTest (eBin oNe (eVar 3) (eLst aNil))) (sPar 2 3 (eVar 3) (eCall Φ 21 (aCons (eVar 2) (aCons (eVar 3) aNil))))) (sRet (eIf (eTest (eBin oLt (eBin oIxD (eVar 2) (eNeg (eC (.int 1)))) (eC (.int 0)))) (eLc [4] (iSeq (eVar 2)) (gN 4) tYes' (eNeg (eVar 4))) (eVar 2)))))
theorem n_common_row_0 : nB N_common_row 0 "one" = true := by decide +kernel
theorem n_common_row_1 : nB N_common_row 1 "other" = true := by decide +kernel
theorem p_common_row_2_3 : parB N_common_row 2 3 "near" "far" = true := by decide +kernel
theorem n_common_row_3 : nB N_common_row 3 "far" = true := by decide +kernel
theorem n_common_row_2 : nB N_common_row 2 "near" = true := by decide +kernel
theorem n_common_row_4 : nB N_common_row 4 "number" = true := by decide +kernel
theorem sc_common_row : FnScope N_common_row P_common_row (defScope s_common_row) := ⟨rfl, rfl, rfl, by decide +kernel, rfl, by decide +kernel, by decide +kernel⟩
theorem e_common_row {P : Program} {w : World} {K : PySem.W.Frag} {mg : Str → Option Value} {base : Heap} {cl : Nat → Addr} {Φ : Fn} {k : Nat} (F : Fx K mg cl) (O : Ow P w K mg base cl Φ k) : ESs (bodyCf P w K mg base cl k (defScope s_common_row) N_common_row) (defBody s_common_row) (b_common_row Φ) :=
  (ss_cons (s_parN 2 3 (v_call O.f_least_row rfl (x_cons (v_varN 0 n_common_row_0 (.inl rfl)) x_nil) rfl) (v_call O.f_least_row rfl (x_cons (v_varN 1 n_common_row_1 (.inl rfl)) x_nil) rfl) p_common_row_2_3 rfl rfl rfl rfl rfl rfl rfl rfl rfl rfl rfl) (ss_cons (s_while (t_ne (v_varN 3 n_common_row_3 (.inl rfl)) (v_lst x_nil)) (ss_one (s_parN 2 3 (v_varN 3 n_common_row_3 (.inl rfl)) (v_call O.f_rest_row rfl (x_cons (v_varN 2 n_common_row_2 (.inl rfl)) (x_cons (v_varN 3 n_common_row_3 (.inl rfl)) x_nil)) rfl) p_common_row_2_3 rfl rfl rfl rfl rfl rfl rfl rfl rfl rfl rfl))) (ss_one (s_ret (v_if (t_lt (v_ixD (v_varN 2 n_common_row_2 (.inl rfl)) (v_neg v_int)) v_int) (v_lc (own := [("number", 4)]) rfl (i_seq (v_varN 2 n_common_row_2 (.inl rfl))) (by show blkC N_common_row (defScope s_common_row) _ _ = true; decide +kernel) (g_name 4 ⟨rfl, (.inl rfl), (.inr rfl)⟩ rfl) ts_nil (v_neg (v_varN 4 n_common_row_4 (.inl rfl))) (by decide +kernel)) (v_varN 2 n_common_row_2 (.inl rfl)))))))
abbrev N_divided_row : List Str := ["row", "divisor", "left", "found", "top", "factor", "number", "times", "gap", "place"]
abbrev P_divided_row : List Str := ["row", "divisor"]
def b_divided_row (Φ : Fn) : EvS := (sSeq (sPar 2 3 (eApp oListM (aCons (eVar 0) aNil)) (eLst aNil)) (sSeq (sWhile (eTest (eBin oGe (eApp oLen (aCons (eVar 2) aNil)) (eApp oLen (aCons (eVar 1) aNil)))) (sSeq (sSet 4 (eBin oIxD (eVar 2) (eNeg (eC (.int 1))))) (sSeq (sSet 5 (eBin oDiv (eApp oAbs (aCons (eBin oIxD (eVar 1) (eNeg (eC (.int 1)))) aNil)) (eCall Φ 4 (aCons (eVar 4) (aCons (eBin oIxD (eVar 1) (eNeg (eC (.int 1)))) aNil))))) (sSeq (sSet 2 (eLcM [6] (iSeq (eVar 2)) (gN 6) tYes' (eBin oMul (eVar 6) (eVar 5)))) (sSeq (sSet 3 (eLc [6] (iSeq (eVar 3)) (gN 6) tYes' (eBin oMul (eVar 6) (eVar 5)))) (sSeq (sSet 7 (eBin oDiv (eBin oIxD (eVar 2) (eNeg (eC (.int 1)))) (eBin oIxD (eVar 1) (eNeg (eC (.int 1)))))) (sSeq (sSet 3 (eLst (aCons (eVar 7) (aStar (eVar 3) aNil)))) (sSeq (sSet 8 (eBin oSub (eApp oLen (aCons (eVar 2) aNil)) (eApp oLen (aCons (eVar 1) aNil)))) (sSeq (sFor (iEnum (aCons (eVar 1) aNil)) (gT (gsCons (gN 9) (gsCons (gN 6) gsNil))) (sAsg (eBin oSub (eBin oIxD (eVar 2) (eBin oAdd (eVar 9) (eVar 8))) (eBin oMul (eVar 7) (eVar 6))) (gSetD (eVar 2) (eBin oAdd (eVar 9) (eVar 8))))) (sDrop (eMet mPop (eVar 2) aNil))))))))))) (sRet (eCall Φ 19 (aCons (eVar 3) aNil)))))
theorem n_divided_row_0 : nB N_divided_row 0 "row" = true := by decide +kernel
theorem p_divided_row_2_3 : parB N_divided_row 2 3 "left" "found" = true := by decide +kernel
theorem n_divided_row_2 : nB N_divided_row 2 "left" = true := by decide +kernel
theorem n_divided_row_1 : nB N_divided_row 1 "divisor" = true := by decide +kernel
theorem n_divided_row_4 : nB N_divided_row 4 "top" = true := by decide +kernel
theorem n_divided_row_6 : nB N_divided_row 6 "number" = true := by decide +kernel
theorem n_divided_row_5 : nB N_divided_row 5 "factor" = true := by decide +kernel
theorem n_divided_row_3 : nB N_divided_row 3 "found" = true := by decide +kernel
theorem n_divided_row_7 : nB N_divided_row 7 "times" = true := by decide +kernel
theorem n_divided_row_9 : nB N_divided_row 9 "place" = true := by decide +kernel
theorem n_divided_row_8 : nB N_divided_row 8 "gap" = true := by decide +kernel
theorem sc_divided_row : FnScope N_divided_row P_divided_row (defScope s_divided_row) := ⟨rfl, rfl, rfl, by decide +kernel, rfl, by decide +kernel, by decide +kernel⟩
theorem e_divided_row {P : Program} {w : World} {K : PySem.W.Frag} {mg : Str → Option Value} {base : Heap} {cl : Nat → Addr} {Φ : Fn} {k : Nat} (F : Fx K mg cl) (O : Ow P w K mg base cl Φ k) : ESs (bodyCf P w K mg base cl k (defScope s_divided_row) N_divided_row) (defBody s_divided_row) (b_divided_row Φ) :=
  (ss_cons (s_parN 2 3 (v_bty r_listM (x_cons (v_varN 0 n_divided_row_0 (.inl rfl)) x_nil) rfl F.b_list bt_list) (v_lst x_nil) p_divided_row_2_3 rfl rfl rfl rfl rfl rfl rfl rfl rfl rfl rfl) (ss_cons (s_while (t_ge (v_blt r_len (x_cons (v_varN 2 n_divided_row_2 (.inl rfl)) x_nil) rfl F.b_len bt_len) (v_blt r_len (x_cons (v_varN 1 n_divided_row_1 (.inl rfl)) x_nil) rfl F.b_len bt_len)) (ss_cons (s_set 4 (v_ixD (v_varN 2 n_divided_row_2 (.inl rfl)) (v_neg v_int)) ⟨rfl, (.inl rfl), .inl rfl⟩ rfl) (ss_cons (s_set 5 (v_div (v_blt r_abs (x_cons (v_ixD (v_varN 1 n_divided_row_1 (.inl rfl)) (v_neg v_int)) x_nil) rfl F.b_abs bt_abs) (v_call O.f_common_divisor rfl (x_cons (v_varN 4 n_divided_row_4 (.inl rfl)) (x_cons (v_ixD (v_varN 1 n_divided_row_1 (.inl rfl)) (v_neg v_int)) x_nil)) rfl)) ⟨rfl, (.inr rfl), .inl rfl⟩ rfl) (ss_cons (s_setLcM 2 (own := [("number", 6)]) ⟨rfl, (.inl rfl), .inl rfl⟩ rfl rfl rfl rfl (by decide +kernel) rfl (i_seq (v_varN 2 n_divided_row_2 (.inl rfl))) (by show blkC N_divided_row (defScope s_divided_row) _ _ = true; decide +kernel) (g_name 6 ⟨rfl, (.inl rfl), (.inr rfl)⟩ rfl) ts_nil (v_mul (v_varN 6 n_divided_row_6 (.inl rfl)) (v_varN 5 n_divided_row_5 (.inr (.inl rfl)))) (by decide +kernel)) (ss_cons (s_setLc 3 (own := [("number", 6)]) ⟨rfl, (.inl rfl), .inl rfl⟩ rfl rfl rfl rfl (by decide +kernel) rfl (i_seq (v_varN 3 n_divided_row_3 (.inl rfl))) (by show blkC N_divided_row (defScope s_divided_row) _ _ = true; decide +kernel) (g_name 6 ⟨rfl, (.inl rfl), (.inr rfl)⟩ rfl) ts_nil (v_mul (v_varN 6 n_divided_row_6 (.inl rfl)) (v_varN 5 n_divided_row_5 (.inr (.inl rfl)))) (by decide +kernel)) (ss_cons (s_set 7 (v_div (v_ixD (v_varN 2 n_divided_row_2 (.inl rfl)) (v_neg v_int)) (v_ixD (v_varN 1 n_divided_row_1 (.inl rfl)) (v_neg v_int))) ⟨rfl, (.inl rfl), .inl rfl⟩ rfl) (ss_cons (s_set 3 (v_lst (x_cons (v_varN 7 n_divided_row_7 (.inl rfl)) (x_star (v_varN 3 n_divided_row_3 (.inl rfl)) x_nil))) ⟨rfl, (.inl rfl), .inl rfl⟩ rfl) (ss_cons (s_set 8 (v_sub (v_blt r_len (x_cons (v_varN 2 n_divided_row_2 (.inl rfl)) x_nil) rfl F.b_len bt_len) (v_blt r_len (x_cons (v_varN 1 n_divided_row_1 (.inl rfl)) x_nil) rfl F.b_len bt_len)) ⟨rfl, (.inl rfl), .inl rfl⟩ rfl) (ss_cons (s_for rfl (i_enum (x_cons (v_varN 1 n_divided_row_1 (.inl rfl)) x_nil) rfl F.b_enumerate) (g_tup (n := 2) rfl (gs_cons (g_name 9 ⟨rfl, (.inl rfl), (.inl rfl)⟩ rfl) (gs_cons (g_name 6 ⟨rfl, (.inl rfl), (.inl rfl)⟩ rfl) gs_nil)) (hl := (li_cons (pu_name 9) (li_cons (pu_name 6) li_nil)))) (ss_one (s_asg (v_sub (v_ixD (v_varN 2 n_divided_row_2 (.inl rfl)) (v_add (v_varN 9 n_divided_row_9 (.inl rfl)) (v_varN 8 n_divided_row_8 (.inl rfl)))) (v_mul (v_varN 7 n_divided_row_7 (.inl rfl)) (v_varN 6 n_divided_row_6 (.inl rfl)))) (g_setD (v_varN 2 n_divided_row_2 (.inl rfl)) (v_add (v_varN 9 n_divided_row_9 (.inl rfl)) (v_varN 8 n_divided_row_8 (.inl rfl))))))) (ss_one (s_expr (v_met0 pl_list PySem.F.slot_list_pop mt_ty_pop r_pop (v_varN 2 n_divided_row_2 (.inl rfl)))))))))))))) (ss_one (s_ret (v_call O.f_least_row rfl (x_cons (v_varN 3 n_divided_row_3 (.inl rfl)) x_nil) rfl)))))
abbrev N_single_row : List Str := ["row", "common"]
abbrev P_single_row : List Str := ["row"]
def b_single_row (Φ : Fn) : EvS := (sSeq (sSet 1 (eCall Φ 22 (aCons (eVar 0) (aCons (eCall Φ 20 (aCons (eVar 0) aNil)) aNil)))) (sRet (eIf (eTest (eBin oLt (eApp oLen (aCons (eVar 1) aNil)) (eC (.int 2)))) (eCall Φ 19 (aCons (eVar 0) aNil)) (eCall Φ 23 (aCons (eVar 0) (aCons (eVar 1) aNil))))))
theorem n_single_row_0 : nB N_single_row 0 "row" = true := by decide +kernel
theorem n_single_row_1 : nB N_single_row 1 "common" = true := by decide +kernel
theorem sc_single_row : FnScope N_single_row P_single_row (defScope s_single_row) := ⟨rfl, rfl, rfl, by decide +kernel, rfl, by decide +kernel, by decide +kernel⟩
theorem e_single_row {P : Program} {w : World} {K : PySem.W.Frag} {mg : Str → Option Value} {base : Heap} {cl : Nat → Addr} {Φ : Fn} {k : Nat} (F : Fx K mg cl) (O : Ow P w K mg base cl Φ k) : ESs (bodyCf P w K mg base cl k (defScope s_single_row) N_single_row) (defBody s_single_row) (b_single_row Φ) :=
  (ss_cons (s_set 1 (v_call O.f_common_row rfl (x_cons (v_varN 0 n_single_row_0 (.inl rfl)) (x_cons (v_call O.f_derived_row rfl (x_cons (v_varN 0 n_single_row_0 (.inl rfl)) x_nil) rfl) x_nil)) rfl) ⟨rfl, (.inl rfl), .inl rfl⟩ rfl) (ss_one (s_ret (v_if (t_lt (v_blt r_len (x_cons (v_varN 1 n_single_row_1 (.inl rfl)) x_nil) rfl F.b_len bt_len) v_int) (v_call O.f_least_row rfl (x_cons (v_varN 0 n_single_row_0 (.inl rfl)) x_nil) rfl) (v_call O.f_divided_row rfl (x_cons (v_varN 0 n_single_row_0 (.inl rfl)) (x_cons (v_varN 1 n_single_row_1 (.inl rfl)) x_nil)) rfl)))))
abbrev N_parted_rows : List Str := ["rows", "found", "row", "left", "later", "own", "common", "rest", "part"]
abbrev P_parted_rows : List Str := ["rows"]
def b_parted_rows (Φ : Fn) : EvS := (sSeq (sSet 1 (eLst aNil)) (sSeq (sFor (iSeq (eVar 0)) (gN 2) (sSeq (sPar 3 4 (eCall Φ 24 (aCons (eVar 2) aNil)) (eLstM aNil)) (sSeq (sFor (iSeq (eVar 1)) (gN 5) (sSeq (sSet 6 (eIf (tOr' (eTest (eBin oLt (eApp oLen (aCons (eVar 3) aNil)) (eC (.int 2)))) (eTru (eCall Φ 17 (aCons (eVar 5) (aCons (eVar 3) aNil))))) (eLst (aCons (eC (.int 1)) aNil)) (eCall Φ 22 (aCons (eVar 5) (aCons (eVar 3) aNil))))) (sIf (eTest (eBin oLt (eApp oLen (aCons (eVar 6) aNil)) (eC (.int 2)))) (sDrop (eMet mAppend (eVar 4) (aCons (eVar 5) aNil))) (sSeq (sSet 7 (eCall Φ 23 (aCons (eVar 5) (aCons (eVar 6) aNil)))) (sSeq (sDrop (eMet mExtend (eVar 4) (aCons (eLc [8] (iSeq (eTup (aCons (eVar 6) (aCons (eVar 7) aNil)))) (gN 8) (eTest (eBin oGt (eApp oLen (aCons (eVar 8) aNil)) (eC (.int 1)))) (eVar 8)) aNil))) (sSet 3 (eCall Φ 23 (aCons (eVar 3) (aCons (eVar 6) aNil))))))))) (sSet 1 (eBin oAdd (eVar 4) (eIf (eTest (eBin oGt (eApp oLen (aCons (eVar 3) aNil)) (eC (.int 1)))) (eLst (aCons (eVar 3) aNil)) (eLst aNil))))))) (sRet (eVar 1))))
theorem n_parted_rows_0 : nB N_parted_rows 0 "rows" = true := by decide +kernel
theorem n_parted_rows_2 : nB N_parted_rows 2 "row" = true := by decide +kernel
theorem p_parted_rows_3_4 : parB N_parted_rows 3 4 "left" "later" = true := by decide +kernel
theorem n_parted_rows_1 : nB N_parted_rows 1 "found" = true := by decide +kernel
theorem n_parted_rows_3 : nB N_parted_rows 3 "left" = true := by decide +kernel
theorem n_parted_rows_5 : nB N_parted_rows 5 "own" = true := by decide +kernel
theorem n_parted_rows_6 : nB N_parted_rows 6 "common" = true := by decide +kernel
theorem n_parted_rows_4 : nB N_parted_rows 4 "later" = true := by decide +kernel
theorem n_parted_rows_7 : nB N_parted_rows 7 "rest" = true := by decide +kernel
theorem n_parted_rows_8 : nB N_parted_rows 8 "part" = true := by decide +kernel
theorem sc_parted_rows : FnScope N_parted_rows P_parted_rows (defScope s_parted_rows) := ⟨rfl, rfl, rfl, by decide +kernel, rfl, by decide +kernel, by decide +kernel⟩
theorem e_parted_rows {P : Program} {w : World} {K : PySem.W.Frag} {mg : Str → Option Value} {base : Heap} {cl : Nat → Addr} {Φ : Fn} {k : Nat} (F : Fx K mg cl) (O : Ow P w K mg base cl Φ k) : ESs (bodyCf P w K mg base cl k (defScope s_parted_rows) N_parted_rows) (defBody s_parted_rows) (b_parted_rows Φ) :=
  (ss_cons (s_set 1 (v_lst x_nil) ⟨rfl, (.inl rfl), .inl rfl⟩ rfl) (ss_cons (s_for rfl (i_seq (v_varN 0 n_parted_rows_0 (.inl rfl))) (g_name 2 ⟨rfl, (.inl rfl), (.inl rfl)⟩ rfl) (ss_cons (s_parN 3 4 (v_call O.f_single_row rfl (x_cons (v_varN 2 n_parted_rows_2 (.inl rfl)) x_nil) rfl) (v_lstM x_nil) p_parted_rows_3_4 rfl rfl rfl rfl rfl rfl rfl rfl rfl rfl rfl) (ss_cons (s_for rfl (i_seq (v_varN 1 n_parted_rows_1 (.inl rfl))) (g_name 5 ⟨rfl, (.inl rfl), (.inl rfl)⟩ rfl) (ss_cons (s_set 6 (v_if (EW.et (w_or (t_lt (v_blt r_len (x_cons (v_varN 3 n_parted_rows_3 (.inl rfl)) x_nil) rfl F.b_len bt_len) v_int) (w_or1 (t_tru (v_call O.f_are_surely_apart rfl (x_cons (v_varN 5 n_parted_rows_5 (.inl rfl)) (x_cons (v_varN 3 n_parted_rows_3 (.inl rfl)) x_nil)) rfl))))) (v_lst (x_cons v_int x_nil)) (v_call O.f_common_row rfl (x_cons (v_varN 5 n_parted_rows_5 (.inl rfl)) (x_cons (v_varN 3 n_parted_rows_3 (.inl rfl)) x_nil)) rfl)) ⟨rfl, (.inl rfl), .inl rfl⟩ rfl) (ss_one (s_if (t_lt (v_blt r_len (x_cons (v_varN 6 n_parted_rows_6 (.inl rfl)) x_nil) rfl F.b_len bt_len) v_int) (ss_one (s_expr (v_met pl_list PySem.F.slot_list_append mt_ty_append r_append (v_varN 4 n_parted_rows_4 (.inl rfl)) (x_cons (v_varN 5 n_parted_rows_5 (.inl rfl)) x_nil)))) (ss_cons (s_set 7 (v_call O.f_divided_row rfl (x_cons (v_varN 5 n_parted_rows_5 (.inl rfl)) (x_cons (v_varN 6 n_parted_rows_6 (.inl rfl)) x_nil)) rfl) ⟨rfl, (.inl rfl), .inl rfl⟩ rfl) (ss_cons (s_expr (v_met pl_list PySem.F.slot_list_extend mt_ty_extend r_extend (v_varN 4 n_parted_rows_4 (.inl rfl)) (x_cons (v_lc (own := [("part", 8)]) rfl (i_seq (v_tup (x_cons (v_varN 6 n_parted_rows_6 (.inl rfl)) (x_cons (v_varN 7 n_parted_rows_7 (.inl rfl)) x_nil)))) (by show blkC N_parted_rows (defScope s_parted_rows) _ _ = true; decide +kernel) (g_name 8 ⟨rfl, (.inl rfl), (.inr rfl)⟩ rfl) (ts_one (t_gt (v_blt r_len (x_cons (v_varN 8 n_parted_rows_8 (.inl rfl)) x_nil) rfl F.b_len bt_len) v_int)) (v_varN 8 n_parted_rows_8 (.inl rfl)) (by decide +kernel)) x_nil))) (ss_one (s_set 3 (v_call O.f_divided_row rfl (x_cons (v_varN 3 n_parted_rows_3 (.inl rfl)) (x_cons (v_varN 6 n_parted_rows_6 (.inl rfl)) x_nil)) rfl) ⟨rfl, (.inl rfl), .inl rfl⟩ rfl)))))))) (ss_one (s_set 1 (v_add (v_varN 4 n_parted_rows_4 (.inl rfl)) (v_if (t_gt (v_blt r_len (x_cons (v_varN 3 n_parted_rows_3 (.inl rfl)) x_nil) rfl F.b_len bt_len) v_int) (v_lst (x_cons (v_varN 3 n_parted_rows_3 (.inl rfl)) x_nil)) (v_lst x_nil))) ⟨rfl, (.inl rfl), .inl rfl⟩ rfl))))) (ss_one (s_ret (v_varN 1 n_parted_rows_1 (.inl rfl))))))
abbrev N_shared_unknown : List Str := ["polys", "found", "poly", "own"]
abbrev P_shared_unknown : List Str := ["polys"]
def b_shared_unknown (Φ : Fn) : EvS := (sSeq (sSet 1 (eSortSet (eLc2K [2, 3] (iSeq (eVar 0)) (gN 2) tYes' (iSeq (eCall Φ 11 (aCons (eVar 2) aNil))) (gN 3) tYes' (eVar 3) [3] finS))) (sSeq (sDrop (eCall Φ 3 (aCons (eBin oLt (eApp oLen (aCons (eVar 1) aNil)) (eC (.int 2))) aNil))) (sRet (eIf (eTest (eBin oNe (eVar 1) (eLst aNil))) (eBin oIxD (eVar 1) (eC (.int 0))) (eC (.int 0))))))
theorem n_shared_unknown_0 : nB N_shared_unknown 0 "polys" = true := by decide +kernel
theorem n_shared_unknown_2 : nB N_shared_unknown 2 "poly" = true := by decide +kernel
theorem n_shared_unknown_3 : nB N_shared_unknown 3 "own" = true := by decide +kernel
theorem n_shared_unknown_1 : nB N_shared_unknown 1 "found" = true := by decide +kernel
theorem sc_shared_unknown : FnScope N_shared_unknown P_shared_unknown (defScope s_shared_unknown) := ⟨rfl, rfl, rfl, by decide +kernel, rfl, by decide +kernel, by decide +kernel⟩
theorem e_shared_unknown {P : Program} {w : World} {K : PySem.W.Frag} {mg : Str → Option Value} {base : Heap} {cl : Nat → Addr} {Φ : Fn} {k : Nat} (F : Fx K mg cl) (O : Ow P w K mg base cl Φ k) : ESs (bodyCf P w K mg base cl k (defScope s_shared_unknown) N_shared_unknown) (defBody s_shared_unknown) (b_shared_unknown Φ) :=
  (ss_cons (s_set 1 (v_sortSet rfl (v_lc2 (own := [("poly", 2), ("own", 3)]) [3] rfl (i_seq (v_varN 0 n_shared_unknown_0 (.inl rfl))) (by show blkC N_shared_unknown (defScope s_shared_unknown) _ _ = true; decide +kernel) (g_name 2 ⟨rfl, (.inl rfl), (.inr rfl)⟩ rfl) ts_nil (i_seq (v_call O.f_unknowns_of rfl (x_cons (v_varN 2 n_shared_unknown_2 (.inl rfl)) x_nil) rfl)) (g_name 3 ⟨rfl, (.inl rfl), (.inr rfl)⟩ rfl) ts_nil (v_varN 3 n_shared_unknown_3 (.inl rfl)) (by decide +kernel) (by decide +kernel) (by decide +kernel)) rfl F.b_sorted bt_sorted rfl F.b_set bt_set) ⟨rfl, (.inl rfl), .inl rfl⟩ rfl) (ss_cons (s_expr (v_call O.f_sure rfl (x_cons (v_lt (v_blt r_len (x_cons (v_varN 1 n_shared_unknown_1 (.inl rfl)) x_nil) rfl F.b_len bt_len) v_int) x_nil) rfl)) (ss_one (s_ret (v_if (t_ne (v_varN 1 n_shared_unknown_1 (.inl rfl)) (v_lst x_nil)) (v_ixD (v_varN 1 n_shared_unknown_1 (.inl rfl)) v_int) v_int)))))
abbrev N_poly_of_row : List Str := ["row", "unknown", "found", "power", "number"]
abbrev P_poly_of_row : List Str := ["row", "unknown"]
def b_poly_of_row (Φ : Fn) : EvS := (sSeq (sSet 2 (eLstM aNil)) (sSeq (sFor (iEnum (aCons (eVar 0) aNil)) (gT (gsCons (gN 3) (gsCons (gN 4) gsNil))) (sIf (eTest (eBin oNe (eVar 4) (eC (.int 0)))) (sDrop (eMet mAppend (eVar 2) (aCons (eTup (aCons (eIf (eTest (eBin oGt (eVar 3) (eC (.int 0)))) (eBin oAdd (eBin oMul (eTup (aCons (eC (.int 0)) aNil)) (eVar 1)) (eTup (aCons (eVar 3) aNil))) (eTup aNil)) (aCons (eVar 4) aNil))) aNil))) sNil)) (sRet (eApp oTup (aCons (eVar 2) aNil)))))
theorem n_poly_of_row_0 : nB N_poly_of_row 0 "row" = true := by decide +kernel
theorem n_poly_of_row_4 : nB N_poly_of_row 4 "number" = true := by decide +kernel
theorem n_poly_of_row_2 : nB N_poly_of_row 2 "found" = true := by decide +kernel
theorem n_poly_of_row_3 : nB N_poly_of_row 3 "power" = true := by decide +kernel
theorem n_poly_of_row_1 : nB N_poly_of_row 1 "unknown" = true := by decide +kernel
theorem sc_poly_of_row : FnScope N_poly_of_row P_poly_of_row (defScope s_poly_of_row) := ⟨rfl, rfl, rfl, by decide +kernel, rfl, by decide +kernel, by decide +kernel⟩
theorem e_poly_of_row {P : Program} {w : World} {K : PySem.W.Frag} {mg : Str → Option Value} {base : Heap} {cl : Nat → Addr} {Φ : Fn} {k : Nat} (F : Fx K mg cl) (O : Ow P w K mg base cl Φ k) : ESs (bodyCf P w K mg base cl k (defScope s_poly_of_row) N_poly_of_row) (defBody s_poly_of_row) (b_poly_of_row Φ) :=
  (ss_cons (s_set 2 (v_lstM x_nil) ⟨rfl, (.inl rfl), .inl rfl⟩ rfl) (ss_cons (s_for rfl (i_enum (x_cons (v_varN 0 n_poly_of_row_0 (.inl rfl)) x_nil) rfl F.b_enumerate) (g_tup (n := 2) rfl (gs_cons (g_name 3 ⟨rfl, (.inl rfl), (.inl rfl)⟩ rfl) (gs_cons (g_name 4 ⟨rfl, (.inl rfl), (.inl rfl)⟩ rfl) gs_nil)) (hl := (li_cons (pu_name 3) (li_cons (pu_name 4) li_nil)))) (ss_one (s_if (t_ne (v_varN 4 n_poly_of_row_4 (.inl rfl)) v_int) (ss_one (s_expr (v_met pl_list PySem.F.slot_list_append mt_ty_append r_append (v_varN 2 n_poly_of_row_2 (.inl rfl)) (x_cons (v_tup (x_cons (v_if (t_gt (v_varN 3 n_poly_of_row_3 (.inl rfl)) v_int) (v_add (v_mul (v_tup (x_cons v_int x_nil)) (v_varN 1 n_poly_of_row_1 (.inl rfl))) (v_tup (x_cons (v_varN 3 n_poly_of_row_3 (.inl rfl)) x_nil))) (v_tup x_nil)) (x_cons (v_varN 4 n_poly_of_row_4 (.inl rfl)) x_nil))) x_nil)))) ss_nil))) (ss_one (s_ret (v_bty r_tup (x_cons (v_varN 2 n_poly_of_row_2 (.inl rfl)) x_nil) rfl F.b_tuple bt_tuple)))))
abbrev N_risen_row : List Str := ["row", "found", "number"]
abbrev P_risen_row : List Str := ["row"]
def b_risen_row (Φ : Fn) : EvS := (sSeq (sSet 1 (eCall Φ 19 (aCons (eVar 0) aNil))) (sRet (eIf (tAnd' (eTest (eBin oNe (eVar 1) (eLst aNil))) (eTest (eBin oLt (eBin oIxD (eVar 1) (eNeg (eC (.int 1)))) (eC (.int 0))))) (eLc [2] (iSeq (eVar 1)) (gN 2) tYes' (eNeg (eVar 2))) (eVar 1))))
theorem n_risen_row_0 : nB N_risen_row 0 "row" = true := by decide +kernel
theorem n_risen_row_1 : nB N_risen_row 1 "found" = true := by decide +kernel
theorem n_risen_row_2 : nB N_risen_row 2 "number" = true := by decide +kernel
theorem sc_risen_row : FnScope N_risen_row P_risen_row (defScope s_risen_row) := ⟨rfl, rfl, rfl, by decide +kernel, rfl, by decide +kernel, by decide +kernel⟩
theorem e_risen_row {P : Program} {w : World} {K : PySem.W.Frag} {mg : Str → Option Value} {base : Heap} {cl : Nat → Addr} {Φ : Fn} {k : Nat} (F : Fx K mg cl) (O : Ow P w K mg base cl Φ k) : ESs (bodyCf P w K mg base cl k (defScope s_risen_row) N_risen_row) (defBody s_risen_row) (b_risen_row Φ) :=
  (ss_cons (s_set 1 (v_call O.f_least_row rfl (x_cons (v_varN 0 n_risen_row_0 (.inl rfl)) x_nil) rfl) ⟨rfl, (.inl rfl), .inl rfl⟩ rfl) (ss_one (s_ret (v_if (EW.et (w_and (t_ne (v_varN 1 n_risen_row_1 (.inl rfl)) (v_lst x_nil)) (w_and1 (t_lt (v_ixD (v_varN 1 n_risen_row_1 (.inl rfl)) (v_neg v_int)) v_int)))) (v_lc (own := [("number", 2)]) rfl (i_seq (v_varN 1 n_risen_row_1 (.inl rfl))) (by show blkC N_risen_row (defScope s_risen_row) _ _ = true; decide +kernel) (g_name 2 ⟨rfl, (.inl rfl), (.inr rfl)⟩ rfl) ts_nil (v_neg (v_varN 2 n_risen_row_2 (.inl rfl))) (by decide +kernel)) (v_varN 1 n_risen_row_1 (.inl rfl))))))
abbrev N_two_rows : List Str := ["one", "other", "near", "far", "unknown"]
abbrev P_two_rows : List Str := ["one", "other"]
def b_two_rows (Φ : Fn) : EvS := (sSeq (sPar 2 3 (eCall Φ 7 (aCons (eVar 0) aNil)) (eCall Φ 7 (aCons (eVar 1) aNil))) (sSeq (sSet 4 (eCall Φ 26 (aCons (eLst (aCons (eVar 2) (aCons (eVar 3) aNil))) aNil))) (sRet (eTup (aCons (eCall Φ 18 (aCons (eVar 2) (aCons (eVar 4) aNil))) (aCons (eCall Φ 18 (aCons (eVar 3) (aCons (eVar 4) aNil))) (aCons (eVar 4) aNil)))))))
theorem n_two_rows_0 : nB N_two_rows 0 "one" = true := by decide +kernel
theorem n_two_rows_1 : nB N_two_rows 1 "other" = true := by decide +kernel
theorem p_two_rows_2_3 : parB N_two_rows 2 3 "near" "far" = true := by decide +kernel
theorem n_two_rows_3 : nB N_two_rows 3 "far" = true := by decide +kernel
theorem n_two_rows_2 : nB N_two_rows 2 "near" = true := by decide +kernel
theorem n_two_rows_4 : nB N_two_rows 4 "unknown" = true := by decide +kernel
theorem sc_two_rows : FnScope N_two_rows P_two_rows (defScope s_two_rows) := ⟨rfl, rfl, rfl, by decide +kernel, rfl, by decide +kernel, by decide +kernel⟩
theorem e_two_rows {P : Program} {w : World} {K : PySem.W.Frag} {mg : Str → Option Value} {base : Heap} {cl : Nat → Addr} {Φ : Fn} {k : Nat} (F : Fx K mg cl) (O : Ow P w K mg base cl Φ k) : ESs (bodyCf P w K mg base cl k (defScope s_two_rows) N_two_rows) (defBody s_two_rows) (b_two_rows Φ) :=
  (ss_cons (s_parN 2 3 (v_call O.f_sure_poly rfl (x_cons (v_varN 0 n_two_rows_0 (.inl rfl)) x_nil) rfl) (v_call O.f_sure_poly rfl (x_cons (v_varN 1 n_two_rows_1 (.inl rfl)) x_nil) rfl) p_two_rows_2_3 rfl rfl rfl rfl rfl rfl rfl rfl rfl rfl rfl) (ss_cons (s_set 4 (v_call O.f_shared_unknown rfl (x_cons (v_lst (x_cons (v_varN 2 n_two_rows_2 (.inl rfl)) (x_cons (v_varN 3 n_two_rows_3 (.inl rfl)) x_nil))) x_nil) rfl) ⟨rfl, (.inl rfl), .inl rfl⟩ rfl) (ss_one (s_ret (v_tup (x_cons (v_call O.f_numbers_of rfl (x_cons (v_varN 2 n_two_rows_2 (.inl rfl)) (x_cons (v_varN 4 n_two_rows_4 (.inl rfl)) x_nil)) rfl) (x_cons (v_call O.f_numbers_of rfl (x_cons (v_varN 3 n_two_rows_3 (.inl rfl)) (x_cons (v_varN 4 n_two_rows_4 (.inl rfl)) x_nil)) rfl) (x_cons (v_varN 4 n_two_rows_4 (.inl rfl)) x_nil))))))))
abbrev N_one_row : List Str := ["poly", "own", "unknown"]
abbrev P_one_row : List Str := ["poly"]
def b_one_row (Φ : Fn) : EvS := (sSeq (sSet 1 (eCall Φ 7 (aCons (eVar 0) aNil))) (sSeq (sSet 2 (eCall Φ 26 (aCons (eLst (aCons (eVar 1) aNil)) aNil))) (sSeq (sIf (eTest (eBin oEq (eVar 1) (eTup aNil))) (sRaise 0) sNil) (sRet (eTup (aCons (eCall Φ 18 (aCons (eVar 1) (aCons (eVar 2) aNil))) (aCons (eVar 2) aNil)))))))
theorem n_one_row_0 : nB N_one_row 0 "poly" = true := by decide +kernel
theorem n_one_row_1 : nB N_one_row 1 "own" = true := by decide +kernel
theorem n_one_row_2 : nB N_one_row 2 "unknown" = true := by decide +kernel
theorem sc_one_row : FnScope N_one_row P_one_row (defScope s_one_row) := ⟨rfl, rfl, rfl, by decide +kernel, rfl, by decide +kernel, by decide +kernel⟩
theorem e_one_row {P : Program} {w : World} {K : PySem.W.Frag} {mg : Str → Option Value} {base : Heap} {cl : Nat → Addr} {Φ : Fn} {k : Nat} (F : Fx K mg cl) (O : Ow P w K mg base cl Φ k) : ESs (bodyCf P w K mg base cl k (defScope s_one_row) N_one_row) (defBody s_one_row) (b_one_row Φ) :=
  (ss_cons (s_set 1 (v_call O.f_sure_poly rfl (x_cons (v_varN 0 n_one_row_0 (.inl rfl)) x_nil) rfl) ⟨rfl, (.inl rfl), .inl rfl⟩ rfl) (ss_cons (s_set 2 (v_call O.f_shared_unknown rfl (x_cons (v_lst (x_cons (v_varN 1 n_one_row_1 (.inl rfl)) x_nil)) x_nil) rfl) ⟨rfl, (.inl rfl), .inl rfl⟩ rfl) (ss_cons (s_if (t_eq (v_varN 1 n_one_row_1 (.inl rfl)) (v_tup x_nil)) (ss_one (s_raise F.x_CanNot rfl rfl)) ss_nil) (ss_one (s_ret (v_tup (x_cons (v_call O.f_numbers_of rfl (x_cons (v_varN 1 n_one_row_1 (.inl rfl)) (x_cons (v_varN 2 n_one_row_2 (.inl rfl)) x_nil)) rfl) (x_cons (v_varN 2 n_one_row_2 (.inl rfl)) x_nil))))))))
abbrev N_rows_divided : List Str := ["row", "divisor", "left", "found", "factor", "top", "lead", "more", "many", "gap", "place", "number", "common", "own"]
abbrev P_rows_divided : List Str := ["row", "divisor"]
def b_rows_divided (Φ : Fn) : EvS := (sSeq (sPar3 2 3 4 (eApp oListM (aCons (eVar 0) aNil)) (eLst aNil) (eC (.int 1))) (sSeq (sWhile (eTest (eBin oGe (eApp oLen (aCons (eVar 2) aNil)) (eApp oLen (aCons (eVar 1) aNil)))) (sSeq (sPar 5 6 (eBin oIxD (eVar 2) (eNeg (eC (.int 1)))) (eBin oIxD (eVar 1) (eNeg (eC (.int 1))))) (sSeq (sSet 7 (eBin oDiv (eApp oAbs (aCons (eVar 6) aNil)) (eCall Φ 4 (aCons (eVar 5) (aCons (eVar 6) aNil))))) (sSeq (sPar3 2 3 4 (eLcM [13] (iSeq (eVar 2)) (gN 13) tYes' (eBin oMul (eVar 13) (eVar 7))) (eLc [13] (iSeq (eVar 3)) (gN 13) tYes' (eBin oMul (eVar 13) (eVar 7))) (eBin oMul (eVar 4) (eVar 7))) (sSeq (sPar 8 9 (eBin oDiv (eBin oIxD (eVar 2) (eNeg (eC (.int 1)))) (eVar 6)) (eBin oSub (eApp oLen (aCons (eVar 2) aNil)) (eApp oLen (aCons (eVar 1) aNil)))) (sSeq (sSet 3 (eLst (aCons (eVar 8) (aStar (eVar 3) aNil)))) (sSeq (sFor (iEnum (aCons (eVar 1) aNil)) (gT (gsCons (gN 10) (gsCons (gN 11) gsNil))) (sAsg (eBin oSub (eBin oIxD (eVar 2) (eBin oAdd (eVar 10) (eVar 9))) (eBin oMul (eVar 8) (eVar 11))) (gSetD (eVar 2) (eBin oAdd (eVar 10) (eVar 9))))) (sDrop (eMet mPop (eVar 2) aNil))))))))) (sSeq (sSet 12 (eVar 4)) (sSeq (sFor (iSeq (eLst (aStar (eVar 2) (aStar (eVar 3) aNil)))) (gN 11) (sSet 12 (eCall Φ 4 (aCons (eVar 12) (aCons (eVar 11) aNil))))) (sRet (eTup (aCons (eBin oDiv (eVar 4) (eVar 12)) (aCons (eLc [13] (iSeq (eVar 3)) (gN 13) tYes' (eBin oDiv (eVar 13) (eVar 12))) (aCons (eCall Φ 32 (aCons (eLc [13] (iSeq (eVar 2)) (gN 13) tYes' (eBin oDiv (eVar 13) (eVar 12))) aNil)) aNil)))))))))
theorem n_rows_divided_0 : nB N_rows_divided 0 "row" = true := by decide +kernel
theorem q_rows_divided_2_3_4 : par3B N_rows_divided 2 3 4 "left" "found" "factor" = true := by decide +kernel
theorem n_rows_divided_2 : nB N_rows_divided 2 "left" = true := by decide +kernel
theorem n_rows_divided_1 : nB N_rows_divided 1 "divisor" = true := by decide +kernel
theorem p_rows_divided_5_6 : parB N_rows_divided 5 6 "top" "lead" = true := by decide +kernel
theorem n_rows_divided_6 : nB N_rows_divided 6 "lead" = true := by decide +kernel
theorem n_rows_divided_5 : nB N_rows_divided 5 "top" = true := by decide +kernel
theorem n_rows_divided_13 : nB N_rows_divided 13 "own" = true := by decide +kernel
theorem n_rows_divided_7 : nB N_rows_divided 7 "more" = true := by decide +kernel
theorem n_rows_divided_3 : nB N_rows_divided 3 "found" = true := by decide +kernel
theorem n_rows_divided_4 : nB N_rows_divided 4 "factor" = true := by decide +kernel
theorem p_rows_divided_8_9 : parB N_rows_divided 8 9 "many" "gap" = true := by decide +kernel
theorem n_rows_divided_8 : nB N_rows_divided 8 "many" = true := by decide +kernel
theorem n_rows_divided_10 : nB N_rows_divided 10 "place" = true := by decide +kernel
theorem n_rows_divided_9 : nB N_rows_divided 9 "gap" = true := by decide +kernel
theorem n_rows_divided_11 : nB N_rows_divided 11 "number" = true := by decide +kernel
theorem n_rows_divided_12 : nB N_rows_divided 12 "common" = true := by decide +kernel
theorem sc_rows_divided : FnScope N_rows_divided P_rows_divided (defScope s_rows_divided) := ⟨rfl, rfl, rfl, by decide +kernel, rfl, by decide +kernel, by decide +kernel⟩
theorem e_rows_divided {P : Program} {w : World} {K : PySem.W.Frag} {mg : Str → Option Value} {base : Heap} {cl : Nat → Addr} {Φ : Fn} {k : Nat} (F : Fx K mg cl) (O : Ow P w K mg base cl Φ k) : ESs (bodyCf P w K mg base cl k (defScope s_rows_divided) N_rows_divided) (defBody s_rows_divided) (b_rows_divided Φ) :=
  (ss_cons (s_par3 2 3 4 (v_bty r_listM (x_cons (v_varN 0 n_rows_divided_0 (.inl rfl)) x_nil) rfl F.b_list bt_list) (v_lst x_nil) v_int q_rows_divided_2_3_4 rfl rfl rfl rfl rfl rfl rfl rfl rfl rfl rfl rfl rfl) (ss_cons (s_while (t_ge (v_blt r_len (x_cons (v_varN 2 n_rows_divided_2 (.inl rfl)) x_nil) rfl F.b_len bt_len) (v_blt r_len (x_cons (v_varN 1 n_rows_divided_1 (.inl rfl)) x_nil) rfl F.b_len bt_len)) (ss_cons (s_parN 5 6 (v_ixD (v_varN 2 n_rows_divided_2 (.inl rfl)) (v_neg v_int)) (v_ixD (v_varN 1 n_rows_divided_1 (.inl rfl)) (v_neg v_int)) p_rows_divided_5_6 rfl rfl rfl rfl rfl rfl rfl rfl rfl rfl rfl) (ss_cons (s_set 7 (v_div (v_blt r_abs (x_cons (v_varN 6 n_rows_divided_6 (.inl rfl)) x_nil) rfl F.b_abs bt_abs) (v_call O.f_common_divisor rfl (x_cons (v_varN 5 n_rows_divided_5 (.inl rfl)) (x_cons (v_varN 6 n_rows_divided_6 (.inl rfl)) x_nil)) rfl)) ⟨rfl, (.inr rfl), .inl rfl⟩ rfl) (ss_cons (s_par3 2 3 4 (v_lcM (own := [("own", 13)]) rfl (i_seq (v_varN 2 n_rows_divided_2 (.inl rfl))) (by show blkC N_rows_divided (defScope s_rows_divided) _ _ = true; decide +kernel) (g_name 13 ⟨rfl, (.inl rfl), (.inr rfl)⟩ rfl) ts_nil (v_mul (v_varN 13 n_rows_divided_13 (.inl rfl)) (v_varN 7 n_rows_divided_7 (.inr (.inl rfl)))) (by decide +kernel)) (v_lc (own := [("own", 13)]) rfl (i_seq (v_varN 3 n_rows_divided_3 (.inl rfl))) (by show blkC N_rows_divided (defScope s_rows_divided) _ _ = true; decide +kernel) (g_name 13 ⟨rfl, (.inl rfl), (.inr rfl)⟩ rfl) ts_nil (v_mul (v_varN 13 n_rows_divided_13 (.inl rfl)) (v_varN 7 n_rows_divided_7 (.inr (.inl rfl)))) (by decide +kernel)) (v_mul (v_varN 4 n_rows_divided_4 (.inl rfl)) (v_varN 7 n_rows_divided_7 (.inr (.inl rfl)))) q_rows_divided_2_3_4 rfl rfl rfl rfl rfl rfl rfl rfl rfl rfl rfl rfl rfl) (ss_cons (s_parN 8 9 (v_div (v_ixD (v_varN 2 n_rows_divided_2 (.inl rfl)) (v_neg v_int)) (v_varN 6 n_rows_divided_6 (.inl rfl))) (v_sub (v_blt r_len (x_cons (v_varN 2 n_rows_divided_2 (.inl rfl)) x_nil) rfl F.b_len bt_len) (v_blt r_len (x_cons (v_varN 1 n_rows_divided_1 (.inl rfl)) x_nil) rfl F.b_len bt_len)) p_rows_divided_8_9 rfl rfl rfl rfl rfl rfl rfl rfl rfl rfl rfl) (ss_cons (s_set 3 (v_lst (x_cons (v_varN 8 n_rows_divided_8 (.inl rfl)) (x_star (v_varN 3 n_rows_divided_3 (.inl rfl)) x_nil))) ⟨rfl, (.inl rfl), .inl rfl⟩ rfl) (ss_cons (s_for rfl (i_enum (x_cons (v_varN 1 n_rows_divided_1 (.inl rfl)) x_nil) rfl F.b_enumerate) (g_tup (n := 2) rfl (gs_cons (g_name 10 ⟨rfl, (.inl rfl), (.inl rfl)⟩ rfl) (gs_cons (g_name 11 ⟨rfl, (.inl rfl), (.inl rfl)⟩ rfl) gs_nil)) (hl := (li_cons (pu_name 10) (li_cons (pu_name 11) li_nil)))) (ss_one (s_asg (v_sub (v_ixD (v_varN 2 n_rows_divided_2 (.inl rfl)) (v_add (v_varN 10 n_rows_divided_10 (.inl rfl)) (v_varN 9 n_rows_divided_9 (.inl rfl)))) (v_mul (v_varN 8 n_rows_divided_8 (.inl rfl)) (v_varN 11 n_rows_divided_11 (.inl rfl)))) (g_setD (v_varN 2 n_rows_divided_2 (.inl rfl)) (v_add (v_varN 10 n_rows_divided_10 (.inl rfl)) (v_varN 9 n_rows_divided_9 (.inl rfl))))))) (ss_one (s_expr (v_met0 pl_list PySem.F.slot_list_pop mt_ty_pop r_pop (v_varN 2 n_rows_divided_2 (.inl rfl)))))))))))) (ss_cons (s_set 12 (v_varN 4 n_rows_divided_4 (.inl rfl)) ⟨rfl, (.inr rfl), .inl rfl⟩ rfl) (ss_cons (s_for rfl (i_seq (v_lst (x_star (v_varN 2 n_rows_divided_2 (.inl rfl)) (x_star (v_varN 3 n_rows_divided_3 (.inl rfl)) x_nil)))) (g_name 11 ⟨rfl, (.inl rfl), (.inl rfl)⟩ rfl) (ss_one (s_set 12 (v_call O.f_common_divisor rfl (x_cons (v_varN 12 n_rows_divided_12 (.inr (.inl rfl))) (x_cons (v_varN 11 n_rows_divided_11 (.inl rfl)) x_nil)) rfl) ⟨rfl, (.inr rfl), .inl rfl⟩ rfl))) (ss_one (s_ret (v_tup (x_cons (v_div (v_varN 4 n_rows_divided_4 (.inl rfl)) (v_varN 12 n_rows_divided_12 (.inr (.inl rfl)))) (x_cons (v_lc (own := [("own", 13)]) rfl (i_seq (v_varN 3 n_rows_divided_3 (.inl rfl))) (by show blkC N_rows_divided (defScope s_rows_divided) _ _ = true; decide +kernel) (g_name 13 ⟨rfl, (.inl rfl), (.inr rfl)⟩ rfl) ts_nil (v_div (v_varN 13 n_rows_divided_13 (.inl rfl)) (v_varN 12 n_rows_divided_12 (.inr (.inl rfl)))) (by decide +kernel)) (x_cons (v_call O.f_trimmed_row rfl (x_cons (v_lc (own := [("own", 13)]) rfl (i_seq (v_varN 2 n_rows_divided_2 (.inl rfl))) (by show blkC N_rows_divided (defScope s_rows_divided) _ _ = true; decide +kernel) (g_name 13 ⟨rfl, (.inl rfl), (.inr rfl)⟩ rfl) ts_nil (v_div (v_varN 13 n_rows_divided_13 (.inl rfl)) (v_varN 12 n_rows_divided_12 (.inr (.inl rfl)))) (by decide +kernel)) x_nil) rfl) x_nil))))))))))
abbrev N_trimmed_row : List Str := ["row", "many"]
abbrev P_trimmed_row : List Str := ["row"]
def b_trimmed_row (Φ : Fn) : EvS := (sSeq (sSet 1 (eApp oLen (aCons (eVar 0) aNil))) (sSeq (sWhile (tAnd' (eTest (eBin oGt (eVar 1) (eC (.int 0)))) (eTest (eBin oEq (eBin oIxD (eVar 0) (eBin oSub (eVar 1) (eC (.int 1)))) (eC (.int 0))))) (sSet 1 (eBin oSub (eVar 1) (eC (.int 1))))) (sRet (eSl (eVar 0) oNo (oSome (eVar 1))))))
theorem n_trimmed_row_0 : nB N_trimmed_row 0 "row" = true := by decide +kernel
theorem n_trimmed_row_1 : nB N_trimmed_row 1 "many" = true := by decide +kernel
theorem sc_trimmed_row : FnScope N_trimmed_row P_trimmed_row (defScope s_trimmed_row) := ⟨rfl, rfl, rfl, by decide +kernel, rfl, by decide +kernel, by decide +kernel⟩
theorem e_trimmed_row {P : Program} {w : World} {K : PySem.W.Frag} {mg : Str → Option Value} {base : Heap} {cl : Nat → Addr} {Φ : Fn} {k : Nat} (F : Fx K mg cl) (O : Ow P w K mg base cl Φ k) : ESs (bodyCf P w K mg base cl k (defScope s_trimmed_row) N_trimmed_row) (defBody s_trimmed_row) (b_trimmed_row Φ) :=
  (ss_cons (s_set 1 (v_blt r_len (x_cons (v_varN 0 n_trimmed_row_0 (.inl rfl)) x_nil) rfl F.b_len bt_len) ⟨rfl, (.inl rfl), .inl rfl⟩ rfl) (ss_cons (s_while (EW.et (w_and (t_gt (v_varN 1 n_trimmed_row_1 (.inl rfl)) v_int) (w_and1 (t_eq (v_ixD (v_varN 0 n_trimmed_row_0 (.inl rfl)) (v_sub (v_varN 1 n_trimmed_row_1 (.inl rfl)) v_int)) v_int)))) (ss_one (s_set 1 (v_sub (v_varN 1 n_trimmed_row_1 (.inl rfl)) v_int) ⟨rfl, (.inl rfl), .inl rfl⟩ rfl))) (ss_one (s_ret (v_sl (v_varN 0 n_trimmed_row_0 (.inl rfl)) o_no (o_some (v_varN 1 n_trimmed_row_1 (.inl rfl))))))))
abbrev N_uni_divided : List Str := ["one", "other", "near", "far", "unknown", "factor", "many", "rest"]
abbrev P_uni_divided : List Str := ["one", "other"]
def b_uni_divided (Φ : Fn) : EvS := (sSeq (sAsg (eCall Φ 29 (aCons (eVar 0) (aCons (eVar 1) aNil))) (gT (gsCons (gN 2) (gsCons (gN 3) (gsCons (gN 4) gsNil))))) (sSeq (sIf (eTest (eBin oEq (eVar 3) (eLst aNil))) (sRaise 0) sNil) (sSeq (sAsg (eCall Φ 31 (aCons (eVar 2) (aCons (eVar 3) aNil))) (gT (gsCons (gN 5) (gsCons (gN 6) (gsCons (gN 7) gsNil))))) (sRet (eTup (aCons (eVar 5) (aCons (eCall Φ 27 (aCons (eVar 6) (aCons (eVar 4) aNil))) (aCons (eCall Φ 27 (aCons (eVar 7) (aCons (eVar 4) aNil))) aNil))))))))
theorem n_uni_divided_1 : nB N_uni_divided 1 "other" = true := by decide +kernel
theorem n_uni_divided_0 : nB N_uni_divided 0 "one" = true := by decide +kernel
theorem n_uni_divided_3 : nB N_uni_divided 3 "far" = true := by decide +kernel
theorem n_uni_divided_2 : nB N_uni_divided 2 "near" = true := by decide +kernel
theorem n_uni_divided_4 : nB N_uni_divided 4 "unknown" = true := by decide +kernel
theorem n_uni_divided_7 : nB N_uni_divided 7 "rest" = true := by decide +kernel
theorem n_uni_divided_6 : nB N_uni_divided 6 "many" = true := by decide +kernel
theorem n_uni_divided_5 : nB N_uni_divided 5 "factor" = true := by decide +kernel
theorem sc_uni_divided : FnScope N_uni_divided P_uni_divided (defScope s_uni_divided) := ⟨rfl, rfl, rfl, by decide +kernel, rfl, by decide +kernel, by decide +kernel⟩
theorem e_uni_divided {P : Program} {w : World} {K : PySem.W.Frag} {mg : Str → Option Value} {base : Heap} {cl : Nat → Addr} {Φ : Fn} {k : Nat} (F : Fx K mg cl) (O : Ow P w K mg base cl Φ k) : ESs (bodyCf P w K mg base cl k (defScope s_uni_divided) N_uni_divided) (defBody s_uni_divided) (b_uni_divided Φ) :=
  (ss_cons (s_asg (v_call O.f_two_rows rfl (x_cons (v_varN 0 n_uni_divided_0 (.inl rfl)) (x_cons (v_varN 1 n_uni_divided_1 (.inl rfl)) x_nil)) rfl) (g_tup (n := 3) rfl (gs_cons (g_name 2 ⟨rfl, (.inl rfl), (.inl rfl)⟩ rfl) (gs_cons (g_name 3 ⟨rfl, (.inl rfl), (.inl rfl)⟩ rfl) (gs_cons (g_name 4 ⟨rfl, (.inl rfl), (.inl rfl)⟩ rfl) gs_nil))) (hl := (li_cons (pu_name 2) (li_cons (pu_name 3) (li_cons (pu_name 4) li_nil)))))) (ss_cons (s_if (t_eq (v_varN 3 n_uni_divided_3 (.inl rfl)) (v_lst x_nil)) (ss_one (s_raise F.x_CanNot rfl rfl)) ss_nil) (ss_cons (s_asg (v_call O.f_rows_divided rfl (x_cons (v_varN 2 n_uni_divided_2 (.inl rfl)) (x_cons (v_varN 3 n_uni_divided_3 (.inl rfl)) x_nil)) rfl) (g_tup (n := 3) rfl (gs_cons (g_name 5 ⟨rfl, (.inl rfl), (.inl rfl)⟩ rfl) (gs_cons (g_name 6 ⟨rfl, (.inl rfl), (.inl rfl)⟩ rfl) (gs_cons (g_name 7 ⟨rfl, (.inl rfl), (.inl rfl)⟩ rfl) gs_nil))) (hl := (li_cons (pu_name 5) (li_cons (pu_name 6) (li_cons (pu_name 7) li_nil)))))) (ss_one (s_ret (v_tup (x_cons (v_varN 5 n_uni_divided_5 (.inl rfl)) (x_cons (v_call O.f_poly_of_row rfl (x_cons (v_varN 6 n_uni_divided_6 (.inl rfl)) (x_cons (v_varN 4 n_uni_divided_4 (.inl rfl)) x_nil)) rfl) (x_cons (v_call O.f_poly_of_row rfl (x_cons (v_varN 7 n_uni_divided_7 (.inl rfl)) (x_cons (v_varN 4 n_uni_divided_4 (.inl rfl)) x_nil)) rfl) x_nil)))))))))
abbrev N_uni_divides : List Str := ["one", "other"]
abbrev P_uni_divides : List Str := ["one", "other"]
def b_uni_divides (Φ : Fn) : EvS := (sRet (eBin oEq (eBin oIxD (eCall Φ 33 (aCons (eVar 1) (aCons (eVar 0) aNil))) (eC (.int 2))) (eTup aNil)))
theorem n_uni_divides_0 : nB N_uni_divides 0 "one" = true := by decide +kernel
theorem n_uni_divides_1 : nB N_uni_divides 1 "other" = true := by decide +kernel
theorem sc_uni_divides : FnScope N_uni_divides P_uni_divides (defScope s_uni_divides) := ⟨rfl, rfl, rfl, by decide +kernel, rfl, by decide +kernel, by decide +kernel⟩
theorem e_uni_divides {P : Program} {w : World} {K : PySem.W.Frag} {mg : Str → Option Value} {base : Heap} {cl : Nat → Addr} {Φ : Fn} {k : Nat} (F : Fx K mg cl) (O : Ow P w K mg base cl Φ k) : ESs (bodyCf P w K mg base cl k (defScope s_uni_divides) N_uni_divides) (defBody s_uni_divides) (b_uni_divides Φ) :=
  (ss_one (s_ret (v_eq (v_ixD (v_call O.f_uni_divided rfl (x_cons (v_varN 1 n_uni_divides_1 (.inl rfl)) (x_cons (v_varN 0 n_uni_divides_0 (.inl rfl)) x_nil)) rfl) v_int) (v_tup x_nil))))
abbrev N_uni_common : List Str := ["one", "other", "near", "far", "unknown"]
abbrev P_uni_common : List Str := ["one", "other"]
def b_uni_common (Φ : Fn) : EvS := (sSeq (sAsg (eCall Φ 29 (aCons (eVar 0) (aCons (eVar 1) aNil))) (gT (gsCons (gN 2) (gsCons (gN 3) (gsCons (gN 4) gsNil))))) (sSeq (sIf (tOr' (eTest (eBin oEq (eVar 2) (eLst aNil))) (eTest (eBin oEq (eVar 3) (eLst aNil)))) (sRet (eCall Φ 27 (aCons (eCall Φ 28 (aCons (eIf (eTest (eBin oEq (eVar 3) (eLst aNil))) (eVar 2) (eVar 3)) aNil)) (aCons (eVar 4) aNil)))) sNil) (sRet (eCall Φ 27 (aCons (eCall Φ 28 (aCons (eCall Φ 22 (aCons (eVar 2) (aCons (eVar 3) aNil))) aNil)) (aCons (eVar 4) aNil))))))
theorem n_uni_common_1 : nB N_uni_common 1 "other" = true := by decide +kernel
theorem n_uni_common_0 : nB N_uni_common 0 "one" = true := by decide +kernel
theorem n_uni_common_2 : nB N_uni_common 2 "near" = true := by decide +kernel
theorem n_uni_common_3 : nB N_uni_common 3 "far" = true := by decide +kernel
theorem n_uni_common_4 : nB N_uni_common 4 "unknown" = true := by decide +kernel
theorem sc_uni_common : FnScope N_uni_common P_uni_common (defScope s_uni_common) := ⟨rfl, rfl, rfl, by decide +kernel, rfl, by decide +kernel, by decide +kernel⟩
theorem e_uni_common {P : Program} {w : World} {K : PySem.W.Frag} {mg : Str → Option Value} {base : Heap} {cl : Nat → Addr} {Φ : Fn} {k : Nat} (F : Fx K mg cl) (O : Ow P w K mg base cl Φ k) : ESs (bodyCf P w K mg base cl k (defScope s_uni_common) N_uni_common) (defBody s_uni_common) (b_uni_common Φ) :=
  (ss_cons (s_asg (v_call O.f_two_rows rfl (x_cons (v_varN 0 n_uni_common_0 (.inl rfl)) (x_cons (v_varN 1 n_uni_common_1 (.inl rfl)) x_nil)) rfl) (g_tup (n := 3) rfl (gs_cons (g_name 2 ⟨rfl, (.inl rfl), (.inl rfl)⟩ rfl) (gs_cons (g_name 3 ⟨rfl, (.inl rfl), (.inl rfl)⟩ rfl) (gs_cons (g_name 4 ⟨rfl, (.inl rfl), (.inl rfl)⟩ rfl) gs_nil))) (hl := (li_cons (pu_name 2) (li_cons (pu_name 3) (li_cons (pu_name 4) li_nil)))))) (ss_cons (s_if (EW.et (w_or (t_eq (v_varN 2 n_uni_common_2 (.inl rfl)) (v_lst x_nil)) (w_or1 (t_eq (v_varN 3 n_uni_common_3 (.inl rfl)) (v_lst x_nil))))) (ss_one (s_ret (v_call O.f_poly_of_row rfl (x_cons (v_call O.f_risen_row rfl (x_cons (v_if (t_eq (v_varN 3 n_uni_common_3 (.inl rfl)) (v_lst x_nil)) (v_varN 2 n_uni_common_2 (.inl rfl)) (v_varN 3 n_uni_common_3 (.inl rfl))) x_nil) rfl) (x_cons (v_varN 4 n_uni_common_4 (.inl rfl)) x_nil)) rfl))) ss_nil) (ss_one (s_ret (v_call O.f_poly_of_row rfl (x_cons (v_call O.f_risen_row rfl (x_cons (v_call O.f_common_row rfl (x_cons (v_varN 2 n_uni_common_2 (.inl rfl)) (x_cons (v_varN 3 n_uni_common_3 (.inl rfl)) x_nil)) rfl) x_nil) rfl) (x_cons (v_varN 4 n_uni_common_4 (.inl rfl)) x_nil)) rfl)))))
abbrev N_uni_single : List Str := ["poly", "row", "unknown"]
abbrev P_uni_single : List Str := ["poly"]
def b_uni_single (Φ : Fn) : EvS := (sSeq (sAsg (eCall Φ 30 (aCons (eVar 0) aNil)) (gT (gsCons (gN 1) (gsCons (gN 2) gsNil)))) (sRet (eIf (eTest (eBin oGt (eApp oLen (aCons (eVar 1) aNil)) (eC (.int 1)))) (eCall Φ 27 (aCons (eCall Φ 28 (aCons (eCall Φ 24 (aCons (eVar 1) aNil)) aNil)) (aCons (eVar 2) aNil))) (eCall Φ 27 (aCons (eLst (aCons (eC (.int 1)) aNil)) (aCons (eVar 2) aNil))))))
theorem n_uni_single_0 : nB N_uni_single 0 "poly" = true := by decide +kernel
theorem n_uni_single_1 : nB N_uni_single 1 "row" = true := by decide +kernel
theorem n_uni_single_2 : nB N_uni_single 2 "unknown" = true := by decide +kernel
theorem sc_uni_single : FnScope N_uni_single P_uni_single (defScope s_uni_single) := ⟨rfl, rfl, rfl, by decide +kernel, rfl, by decide +kernel, by decide +kernel⟩
theorem e_uni_single {P : Program} {w : World} {K : PySem.W.Frag} {mg : Str → Option Value} {base : Heap} {cl : Nat → Addr} {Φ : Fn} {k : Nat} (F : Fx K mg cl) (O : Ow P w K mg base cl Φ k) : ESs (bodyCf P w K mg base cl k (defScope s_uni_single) N_uni_single) (defBody s_uni_single) (b_uni_single Φ) :=
  (ss_cons (s_asg (v_call O.f_one_row rfl (x_cons (v_varN 0 n_uni_single_0 (.inl rfl)) x_nil) rfl) (g_tup (n := 2) rfl (gs_cons (g_name 1 ⟨rfl, (.inl rfl), (.inl rfl)⟩ rfl) (gs_cons (g_name 2 ⟨rfl, (.inl rfl), (.inl rfl)⟩ rfl) gs_nil)) (hl := (li_cons (pu_name 1) (li_cons (pu_name 2) li_nil))))) (ss_one (s_ret (v_if (t_gt (v_blt r_len (x_cons (v_varN 1 n_uni_single_1 (.inl rfl)) x_nil) rfl F.b_len bt_len) v_int) (v_call O.f_poly_of_row rfl (x_cons (v_call O.f_risen_row rfl (x_cons (v_call O.f_single_row rfl (x_cons (v_varN 1 n_uni_single_1 (.inl rfl)) x_nil) rfl) x_nil) rfl) (x_cons (v_varN 2 n_uni_single_2 (.inl rfl)) x_nil)) rfl) (v_call O.f_poly_of_row rfl (x_cons (v_lst (x_cons v_int x_nil)) (x_cons (v_varN 2 n_uni_single_2 (.inl rfl)) x_nil)) rfl)))))
abbrev N_uni_layers : List Str := ["poly", "row", "unknown", "found", "left", "common", "single", "later"]
abbrev P_uni_layers : List Str := ["poly"]
def b_uni_layers (Φ : Fn) : EvS := (sSeq (sAsg (eCall Φ 30 (aCons (eVar 0) aNil)) (gT (gsCons (gN 1) (gsCons (gN 2) gsNil)))) (sSeq (sPar 3 4 (eLstM aNil) (eCall Φ 19 (aCons (eVar 1) aNil))) (sSeq (sWhile (eTest (eBin oGt (eApp oLen (aCons (eVar 4) aNil)) (eC (.int 1)))) (sSeq (sSet 5 (eCall Φ 22 (aCons (eVar 4) (aCons (eCall Φ 20 (aCons (eVar 4) aNil)) aNil)))) (sSeq (sSet 6 (eCall Φ 23 (aCons (eVar 4) (aCons (eVar 5) aNil)))) (sSeq (sSet 7 (eIf (eTest (eBin oGt (eApp oLen (aCons (eVar 5) aNil)) (eC (.int 1)))) (eCall Φ 24 (aCons (eVar 5) aNil)) (eLst (aCons (eC (.int 1)) aNil)))) (sSeq (sDrop (eMet mAppend (eVar 3) (aCons (eCall Φ 27 (aCons (eCall Φ 28 (aCons (eIf (eTest (eBin oGt (eApp oLen (aCons (eVar 7) aNil)) (eC (.int 1)))) (eCall Φ 23 (aCons (eVar 6) (aCons (eVar 7) aNil))) (eVar 6)) aNil)) (aCons (eVar 2) aNil))) aNil))) (sSet 4 (eVar 5))))))) (sRet (eApp oTup (aCons (eVar 3) aNil))))))
theorem n_uni_layers_0 : nB N_uni_layers 0 "poly" = true := by decide +kernel
theorem n_uni_layers_1 : nB N_uni_layers 1 "row" = true := by decide +kernel
theorem p_uni_layers_3_4 : parB N_uni_layers 3 4 "found" "left" = true := by decide +kernel
theorem n_uni_layers_4 : nB N_uni_layers 4 "left" = true := by decide +kernel
theorem n_uni_layers_5 : nB N_uni_layers 5 "common" = true := by decide +kernel
theorem n_uni_layers_3 : nB N_uni_layers 3 "found" = true := by decide +kernel
theorem n_uni_layers_2 : nB N_uni_layers 2 "unknown" = true := by decide +kernel
theorem n_uni_layers_7 : nB N_uni_layers 7 "later" = true := by decide +kernel
theorem n_uni_layers_6 : nB N_uni_layers 6 "single" = true := by decide +kernel
theorem sc_uni_layers : FnScope N_uni_layers P_uni_layers (defScope s_uni_layers) := ⟨rfl, rfl, rfl, by decide +kernel, rfl, by decide +kernel, by decide +kernel⟩
theorem e_uni_layers {P : Program} {w : World} {K : PySem.W.Frag} {mg : Str → Option Value} {base : Heap} {cl : Nat → Addr} {Φ : Fn} {k : Nat} (F : Fx K mg cl) (O : Ow P w K mg base cl Φ k) : ESs (bodyCf P w K mg base cl k (defScope s_uni_layers) N_uni_layers) (defBody s_uni_layers) (b_uni_layers Φ) :=
  (ss_cons (s_asg (v_call O.f_one_row rfl (x_cons (v_varN 0 n_uni_layers_0 (.inl rfl)) x_nil) rfl) (g_tup (n := 2) rfl (gs_cons (g_name 1 ⟨rfl, (.inl rfl), (.inl rfl)⟩ rfl) (gs_cons (g_name 2 ⟨rfl, (.inl rfl), (.inl rfl)⟩ rfl) gs_nil)) (hl := (li_cons (pu_name 1) (li_cons (pu_name 2) li_nil))))) (ss_cons (s_parN 3 4 (v_lstM x_nil) (v_call O.f_least_row rfl (x_cons (v_varN 1 n_uni_layers_1 (.inl rfl)) x_nil) rfl) p_uni_layers_3_4 rfl rfl rfl rfl rfl rfl rfl rfl rfl rfl rfl) (ss_cons (s_while (t_gt (v_blt r_len (x_cons (v_varN 4 n_uni_layers_4 (.inl rfl)) x_nil) rfl F.b_len bt_len) v_int) (ss_cons (s_set 5 (v_call O.f_common_row rfl (x_cons (v_varN 4 n_uni_layers_4 (.inl rfl)) (x_cons (v_call O.f_derived_row rfl (x_cons (v_varN 4 n_uni_layers_4 (.inl rfl)) x_nil) rfl) x_nil)) rfl) ⟨rfl, (.inl rfl), .inl rfl⟩ rfl) (ss_cons (s_set 6 (v_call O.f_divided_row rfl (x_cons (v_varN 4 n_uni_layers_4 (.inl rfl)) (x_cons (v_varN 5 n_uni_layers_5 (.inl rfl)) x_nil)) rfl) ⟨rfl, (.inl rfl), .inl rfl⟩ rfl) (ss_cons (s_set 7 (v_if (t_gt (v_blt r_len (x_cons (v_varN 5 n_uni_layers_5 (.inl rfl)) x_nil) rfl F.b_len bt_len) v_int) (v_call O.f_single_row rfl (x_cons (v_varN 5 n_uni_layers_5 (.inl rfl)) x_nil) rfl) (v_lst (x_cons v_int x_nil))) ⟨rfl, (.inl rfl), .inl rfl⟩ rfl) (ss_cons (s_expr (v_met pl_list PySem.F.slot_list_append mt_ty_append r_append (v_varN 3 n_uni_layers_3 (.inl rfl)) (x_cons (v_call O.f_poly_of_row rfl (x_cons (v_call O.f_risen_row rfl (x_cons (v_if (t_gt (v_blt r_len (x_cons (v_varN 7 n_uni_layers_7 (.inl rfl)) x_nil) rfl F.b_len bt_len) v_int) (v_call O.f_divided_row rfl (x_cons (v_varN 6 n_uni_layers_6 (.inl rfl)) (x_cons (v_varN 7 n_uni_layers_7 (.inl rfl)) x_nil)) rfl) (v_varN 6 n_uni_layers_6 (.inl rfl))) x_nil) rfl) (x_cons (v_varN 2 n_uni_layers_2 (.inl rfl)) x_nil)) rfl) x_nil))) (ss_one (s_set 4 (v_varN 5 n_uni_layers_5 (.inl rfl)) ⟨rfl, (.inl rfl), .inl rfl⟩ rfl))))))) (ss_one (s_ret (v_bty r_tup (x_cons (v_varN 3 n_uni_layers_3 (.inl rfl)) x_nil) rfl F.b_tuple bt_tuple))))))
abbrev N_uni_parted : List Str := ["polys", "own", "unknown", "rows", "found", "poly", "row"]
abbrev P_uni_parted : List Str := ["polys"]
def b_uni_parted (Φ : Fn) : EvS := (sSeq (sSet 1 (eCall Φ 2 (aCons (eVar 0) aNil))) (sSeq (sDrop (eCall Φ 3 (aCons (eAndT (eApp oIsi (aCons (eVar 1) (aCons (eC (.ty .tuple)) aNil))) (eApp oAll (aCons (eLc [5] (iSeq (eVar 1)) (gN 5) tYes' (eCall Φ 6 (aCons (eVar 5) aNil))) aNil))) aNil))) (sSeq (sSet 2 (eCall Φ 26 (aCons (eVar 1) aNil))) (sSeq (sIf (eTest (eBin oIn (eTup aNil) (eVar 1))) (sRaise 0) sNil) (sSeq (sSet 3 (eLc [5] (iSeq (eVar 1)) (gN 5) tYes' (eCall Φ 19 (aCons (eCall Φ 18 (aCons (eVar 5) (aCons (eVar 2) aNil))) aNil)))) (sSeq (sSet 4 (eCall Φ 25 (aCons (eLc [6] (iSeq (eVar 3)) (gN 6) (eTest (eBin oGt (eApp oLen (aCons (eVar 6) aNil)) (eC (.int 1)))) (eVar 6)) aNil))) (sRet (eApp oTup (aCons (eApp oSortedD (aCons (eLc [6] (iSeq (eVar 4)) (gN 6) tYes' (eCall Φ 27 (aCons (eCall Φ 28 (aCons (eVar 6) aNil)) (aCons (eVar 2) aNil)))) aNil)) aNil)))))))))
theorem n_uni_parted_0 : nB N_uni_parted 0 "polys" = true := by decide +kernel
theorem n_uni_parted_1 : nB N_uni_parted 1 "own" = true := by decide +kernel
theorem n_uni_parted_5 : nB N_uni_parted 5 "poly" = true := by decide +kernel
theorem n_uni_parted_2 : nB N_uni_parted 2 "unknown" = true := by decide +kernel
theorem n_uni_parted_3 : nB N_uni_parted 3 "rows" = true := by decide +kernel
theorem n_uni_parted_6 : nB N_uni_parted 6 "row" = true := by decide +kernel
theorem n_uni_parted_4 : nB N_uni_parted 4 "found" = true := by decide +kernel
theorem sc_uni_parted : FnScope N_uni_parted P_uni_parted (defScope s_uni_parted) := ⟨rfl, rfl, rfl, by decide +kernel, rfl, by decide +kernel, by decide +kernel⟩
theorem e_uni_parted {P : Program} {w : World} {K : PySem.W.Frag} {mg : Str → Option Value} {base : Heap} {cl : Nat → Addr} {Φ : Fn} {k : Nat} (F : Fx K mg cl) (O : Ow P w K mg base cl Φ k) : ESs (bodyCf P w K mg base cl k (defScope s_uni_parted) N_uni_parted) (defBody s_uni_parted) (b_uni_parted Φ) :=
  (ss_cons (s_set 1 (v_call O.f_tuple_of rfl (x_cons (v_varN 0 n_uni_parted_0 (.inl rfl)) x_nil) rfl) ⟨rfl, (.inl rfl), .inl rfl⟩ rfl) (ss_cons (s_expr (v_call O.f_sure rfl (x_cons (v_andT (v_blt r_isi (x_cons (v_varN 1 n_uni_parted_1 (.inl rfl)) (x_cons (v_ty .tuple F.b_tuple bt_tuple rfl) x_nil)) rfl F.b_isinstance bt_isinstance) (v_one (v_blt (r_all rfl) (x_cons (v_lc (own := [("poly", 5)]) rfl (i_seq (v_varN 1 n_uni_parted_1 (.inl rfl))) (by show blkC N_uni_parted (defScope s_uni_parted) _ _ = true; decide +kernel) (g_name 5 ⟨rfl, (.inl rfl), (.inr rfl)⟩ rfl) ts_nil (v_call O.f_is_poly rfl (x_cons (v_varN 5 n_uni_parted_5 (.inl rfl)) x_nil) rfl) (by decide +kernel)) x_nil) rfl F.b_all bt_all))) x_nil) rfl)) (ss_cons (s_set 2 (v_call O.f_shared_unknown rfl (x_cons (v_varN 1 n_uni_parted_1 (.inl rfl)) x_nil) rfl) ⟨rfl, (.inr rfl), .inl rfl⟩ rfl) (ss_cons (s_if (t_in (v_tup x_nil) (v_varN 1 n_uni_parted_1 (.inl rfl))) (ss_one (s_raise F.x_CanNot rfl rfl)) ss_nil) (ss_cons (s_setLc 3 (own := [("poly", 5)]) ⟨rfl, (.inl rfl), .inl rfl⟩ rfl rfl rfl rfl (by decide +kernel) rfl (i_seq (v_varN 1 n_uni_parted_1 (.inl rfl))) (by show blkC N_uni_parted (defScope s_uni_parted) _ _ = true; decide +kernel) (g_name 5 ⟨rfl, (.inl rfl), (.inr rfl)⟩ rfl) ts_nil (v_call O.f_least_row rfl (x_cons (v_call O.f_numbers_of rfl (x_cons (v_varN 5 n_uni_parted_5 (.inl rfl)) (x_cons (v_varN 2 n_uni_parted_2 (.inr (.inl rfl))) x_nil)) rfl) x_nil) rfl) (by decide +kernel)) (ss_cons (s_set 4 (v_call O.f_parted_rows rfl (x_cons (v_lc (own := [("row", 6)]) rfl (i_seq (v_varN 3 n_uni_parted_3 (.inl rfl))) (by show blkC N_uni_parted (defScope s_uni_parted) _ _ = true; decide +kernel) (g_name 6 ⟨rfl, (.inl rfl), (.inr rfl)⟩ rfl) (ts_one (t_gt (v_blt r_len (x_cons (v_varN 6 n_uni_parted_6 (.inl rfl)) x_nil) rfl F.b_len bt_len) v_int)) (v_varN 6 n_uni_parted_6 (.inl rfl)) (by decide +kernel)) x_nil) rfl) ⟨rfl, (.inl rfl), .inl rfl⟩ rfl) (ss_one (s_ret (v_bty r_tup (x_cons (v_blt (r_sortedD rfl) (x_cons (v_lc (own := [("row", 6)]) rfl (i_seq (v_varN 4 n_uni_parted_4 (.inl rfl))) (by show blkC N_uni_parted (defScope s_uni_parted) _ _ = true; decide +kernel) (g_name 6 ⟨rfl, (.inl rfl), (.inr rfl)⟩ rfl) ts_nil (v_call O.f_poly_of_row rfl (x_cons (v_call O.f_risen_row rfl (x_cons (v_varN 6 n_uni_parted_6 (.inl rfl)) x_nil) rfl) (x_cons (v_varN 2 n_uni_parted_2 (.inr (.inl rfl))) x_nil)) rfl) (by decide +kernel)) x_nil) rfl F.b_sorted bt_sorted) x_nil) rfl F.b_tuple bt_tuple)))))))))
abbrev N_is_uni_parting : List Str := ["polys", "thing", "own", "unknown", "rows", "given", "poly", "part", "row"]
abbrev P_is_uni_parting : List Str := ["polys", "thing"]
def b_is_uni_parting (Φ : Fn) : EvS := (sSeq (sSet 2 (eCall Φ 2 (aCons (eVar 0) aNil))) (sSeq (sDrop (eCall Φ 3 (aCons (eAndT (eApp oIsi (aCons (eVar 2) (aCons (eC (.ty .tuple)) aNil))) (eApp oAll (aCons (eLc [6] (iSeq (eVar 2)) (gN 6) tYes' (eCall Φ 6 (aCons (eVar 6) aNil))) aNil))) aNil))) (sSeq (sSet 3 (eCall Φ 26 (aCons (eVar 2) aNil))) (sSeq (sIf (eTest (eBin oIn (eTup aNil) (eVar 2))) (sRaise 0) sNil) (sSeq (sIf (tOr' (tNot' (eTru (eApp oIsi (aCons (eVar 1) (aCons (eC (.ty .tuple)) aNil))))) (tNot' (eTru (eApp oAll (aCons (eLc [7] (iSeq (eVar 1)) (gN 7) tYes' (eAndT (eCall Φ 6 (aCons (eVar 7) aNil)) (eBin oNe (eVar 7) (eTup aNil)))) aNil))))) (sRet (eC (.bl false))) sNil) (sSeq (sIf (tNot' (eTru (eApp oAll (aCons (eLc [7] (iSeq (eVar 1)) (gN 7) tYes' (eBin oEq (eCall Φ 11 (aCons (eVar 7) aNil)) (eTup (aCons (eVar 3) aNil)))) aNil)))) (sRet (eC (.bl false))) sNil) (sSeq (sSet 4 (eLc [7] (iSeq (eVar 1)) (gN 7) tYes' (eCall Φ 19 (aCons (eCall Φ 18 (aCons (eVar 7) (aCons (eVar 3) aNil))) aNil)))) (sSeq (sIf (tNot' (eTru (eApp oAll (aCons (eLc [8] (iSeq (eVar 4)) (gN 8) tYes' (eBin oEq (eApp oLen (aCons (eCall Φ 24 (aCons (eVar 8) aNil)) aNil)) (eApp oLen (aCons (eVar 8) aNil)))) aNil)))) (sRet (eC (.bl false))) sNil) (sSeq (sSet 5 (eLc [6] (iSeq (eVar 2)) (gN 6) tYes' (eCall Φ 19 (aCons (eCall Φ 18 (aCons (eVar 6) (aCons (eVar 3) aNil))) aNil)))) (sRet (eAndT (eCall Φ 40 (aCons (eVar 4) aNil)) (eCall Φ 42 (aCons (eLc [8] (iSeq (eVar 5)) (gN 8) (eTest (eBin oGt (eApp oLen (aCons (eVar 8) aNil)) (eC (.int 1)))) (eVar 8)) (aCons (eVar 4) aNil))))))))))))))
theorem n_is_uni_parting_0 : nB N_is_uni_parting 0 "polys" = true := by decide +kernel
theorem n_is_uni_parting_2 : nB N_is_uni_parting 2 "own" = true := by decide +kernel
theorem n_is_uni_parting_6 : nB N_is_uni_parting 6 "poly" = true := by decide +kernel
theorem n_is_uni_parting_1 : nB N_is_uni_parting 1 "thing" = true := by decide +kernel
theorem n_is_uni_parting_7 : nB N_is_uni_parting 7 "part" = true := by decide +kernel
theorem n_is_uni_parting_3 : nB N_is_uni_parting 3 "unknown" = true := by decide +kernel
theorem n_is_uni_parting_4 : nB N_is_uni_parting 4 "rows" = true := by decide +kernel
theorem n_is_uni_parting_8 : nB N_is_uni_parting 8 "row" = true := by decide +kernel
theorem n_is_uni_parting_5 : nB N_is_uni_parting 5 "given" = true := by decide +kernel
theorem sc_is_uni_parting : FnScope N_is_uni_parting P_is_uni_parting (defScope s_is_uni_parting) := ⟨rfl, rfl, rfl, by decide +kernel, rfl, by decide +kernel, by decide +kernel⟩
theorem e_is_uni_parting {P : Program} {w : World} {K : PySem.W.Frag} {mg : Str → Option Value} {base : Heap} {cl : Nat → Addr} {Φ : Fn} {k : Nat} (F : Fx K mg cl) (O : Ow P w K mg base cl Φ k) : ESs (bodyCf P w K mg base cl k (defScope s_is_uni_parting) N_is_uni_parting) (defBody s_is_uni_parting) (b_is_uni_parting Φ) :=
  (ss_cons (s_set 2 (v_call O.f_tuple_of rfl (x_cons (v_varN 0 n_is_uni_parting_0 (.inl rfl)) x_nil) rfl) ⟨rfl, (.inl rfl), .inl rfl⟩ rfl) (ss_cons (s_expr (v_call O.f_sure rfl (x_cons (v_andT (v_blt r_isi (x_cons (v_varN 2 n_is_uni_parting_2 (.inl rfl)) (x_cons (v_ty .tuple F.b_tuple bt_tuple rfl) x_nil)) rfl F.b_isinstance bt_isinstance) (v_one (v_blt (r_all rfl) (x_cons (v_lc (own := [("poly", 6)]) rfl (i_seq (v_varN 2 n_is_uni_parting_2 (.inl rfl))) (by show blkC N_is_uni_parting (defScope s_is_uni_parting) _ _ = true; decide +kernel) (g_name 6 ⟨rfl, (.inl rfl), (.inr rfl)⟩ rfl) ts_nil (v_call O.f_is_poly rfl (x_cons (v_varN 6 n_is_uni_parting_6 (.inl rfl)) x_nil) rfl) (by decide +kernel)) x_nil) rfl F.b_all bt_all))) x_nil) rfl)) (ss_cons (s_set 3 (v_call O.f_shared_unknown rfl (x_cons (v_varN 2 n_is_uni_parting_2 (.inl rfl)) x_nil) rfl) ⟨rfl, (.inr rfl), .inl rfl⟩ rfl) (ss_cons (s_if (t_in (v_tup x_nil) (v_varN 2 n_is_uni_parting_2 (.inl rfl))) (ss_one (s_raise F.x_CanNot rfl rfl)) ss_nil) (ss_cons (s_if (EW.et (w_or (t_not (t_tru (v_blt r_isi (x_cons (v_varN 1 n_is_uni_parting_1 (.inl rfl)) (x_cons (v_ty .tuple F.b_tuple bt_tuple rfl) x_nil)) rfl F.b_isinstance bt_isinstance))) (w_or1 (t_not (t_tru (v_blt (r_all rfl) (x_cons (v_lc (own := [("part", 7)]) rfl (i_seq (v_varN 1 n_is_uni_parting_1 (.inl rfl))) (by show blkC N_is_uni_parting (defScope s_is_uni_parting) _ _ = true; decide +kernel) (g_name 7 ⟨rfl, (.inl rfl), (.inr rfl)⟩ rfl) ts_nil (v_andT (v_call O.f_is_poly rfl (x_cons (v_varN 7 n_is_uni_parting_7 (.inl rfl)) x_nil) rfl) (v_one (v_ne (v_varN 7 n_is_uni_parting_7 (.inl rfl)) (v_tup x_nil)))) (by decide +kernel)) x_nil) rfl F.b_all bt_all)))))) (ss_one (s_ret v_bl)) ss_nil) (ss_cons (s_if (t_not (t_tru (v_blt (r_all rfl) (x_cons (v_lc (own := [("part", 7)]) rfl (i_seq (v_varN 1 n_is_uni_parting_1 (.inl rfl))) (by show blkC N_is_uni_parting (defScope s_is_uni_parting) _ _ = true; decide +kernel) (g_name 7 ⟨rfl, (.inl rfl), (.inr rfl)⟩ rfl) ts_nil (v_eq (v_call O.f_unknowns_of rfl (x_cons (v_varN 7 n_is_uni_parting_7 (.inl rfl)) x_nil) rfl) (v_tup (x_cons (v_varN 3 n_is_uni_parting_3 (.inr (.inl rfl))) x_nil))) (by decide +kernel)) x_nil) rfl F.b_all bt_all))) (ss_one (s_ret v_bl)) ss_nil) (ss_cons (s_setLc 4 (own := [("part", 7)]) ⟨rfl, (.inl rfl), .inl rfl⟩ rfl rfl rfl rfl (by decide +kernel) rfl (i_seq (v_varN 1 n_is_uni_parting_1 (.inl rfl))) (by show blkC N_is_uni_parting (defScope s_is_uni_parting) _ _ = true; decide +kernel) (g_name 7 ⟨rfl, (.inl rfl), (.inr rfl)⟩ rfl) ts_nil (v_call O.f_least_row rfl (x_cons (v_call O.f_numbers_of rfl (x_cons (v_varN 7 n_is_uni_parting_7 (.inl rfl)) (x_cons (v_varN 3 n_is_uni_parting_3 (.inr (.inl rfl))) x_nil)) rfl) x_nil) rfl) (by decide +kernel)) (ss_cons (s_if (t_not (t_tru (v_blt (r_all rfl) (x_cons (v_lc (own := [("row", 8)]) rfl (i_seq (v_varN 4 n_is_uni_parting_4 (.inl rfl))) (by show blkC N_is_uni_parting (defScope s_is_uni_parting) _ _ = true; decide +kernel) (g_name 8 ⟨rfl, (.inl rfl), (.inr rfl)⟩ rfl) ts_nil (v_eq (v_blt r_len (x_cons (v_call O.f_single_row rfl (x_cons (v_varN 8 n_is_uni_parting_8 (.inl rfl)) x_nil) rfl) x_nil) rfl F.b_len bt_len) (v_blt r_len (x_cons (v_varN 8 n_is_uni_parting_8 (.inl rfl)) x_nil) rfl F.b_len bt_len)) (by decide +kernel)) x_nil) rfl F.b_all bt_all))) (ss_one (s_ret v_bl)) ss_nil) (ss_cons (s_setLc 5 (own := [("poly", 6)]) ⟨rfl, (.inl rfl), .inl rfl⟩ rfl rfl rfl rfl (by decide +kernel) rfl (i_seq (v_varN 2 n_is_uni_parting_2 (.inl rfl))) (by show blkC N_is_uni_parting (defScope s_is_uni_parting) _ _ = true; decide +kernel) (g_name 6 ⟨rfl, (.inl rfl), (.inr rfl)⟩ rfl) ts_nil (v_call O.f_least_row rfl (x_cons (v_call O.f_numbers_of rfl (x_cons (v_varN 6 n_is_uni_parting_6 (.inl rfl)) (x_cons (v_varN 3 n_is_uni_parting_3 (.inr (.inl rfl))) x_nil)) rfl) x_nil) rfl) (by decide +kernel)) (ss_one (s_ret (v_andT (v_call O.f_are_rows_apart rfl (x_cons (v_varN 4 n_is_uni_parting_4 (.inl rfl)) x_nil) rfl) (v_one (v_call O.f_have_same_roots rfl (x_cons (v_lc (own := [("row", 8)]) rfl (i_seq (v_varN 5 n_is_uni_parting_5 (.inl rfl))) (by show blkC N_is_uni_parting (defScope s_is_uni_parting) _ _ = true; decide +kernel) (g_name 8 ⟨rfl, (.inl rfl), (.inr rfl)⟩ rfl) (ts_one (t_gt (v_blt r_len (x_cons (v_varN 8 n_is_uni_parting_8 (.inl rfl)) x_nil) rfl F.b_len bt_len) v_int)) (v_varN 8 n_is_uni_parting_8 (.inl rfl)) (by decide +kernel)) (x_cons (v_varN 4 n_is_uni_parting_4 (.inl rfl)) x_nil)) rfl))))))))))))))
abbrev N_are_rows_apart : List Str := ["rows", "place", "row", "other"]
abbrev P_are_rows_apart : List Str := ["rows"]
def b_are_rows_apart (Φ : Fn) : EvS := (sSeq (sFor (iEnum (aCons (eVar 0) aNil)) (gT (gsCons (gN 1) (gsCons (gN 2) gsNil))) (sIf (tNot' (eTru (eApp oAll (aCons (eLc [3] (iSeq (eSl (eVar 0) oNo (oSome (eVar 1)))) (gN 3) tYes' (eBin oLt (eApp oLen (aCons (eCall Φ 22 (aCons (eVar 2) (aCons (eVar 3) aNil))) aNil)) (eC (.int 2)))) aNil)))) (sRet (eC (.bl false))) sNil)) (sRet (eC (.bl true))))
theorem n_are_rows_apart_0 : nB N_are_rows_apart 0 "rows" = true := by decide +kernel
theorem n_are_rows_apart_1 : nB N_are_rows_apart 1 "place" = true := by decide +kernel
theorem n_are_rows_apart_3 : nB N_are_rows_apart 3 "other" = true := by decide +kernel
theorem n_are_rows_apart_2 : nB N_are_rows_apart 2 "row" = true := by decide +kernel
theorem sc_are_rows_apart : FnScope N_are_rows_apart P_are_rows_apart (defScope s_are_rows_apart) := ⟨rfl, rfl, rfl, by decide +kernel, rfl, by decide +kernel, by decide +kernel⟩
theorem e_are_rows_apart {P : Program} {w : World} {K : PySem.W.Frag} {mg : Str → Option Value} {base : Heap} {cl : Nat → Addr} {Φ : Fn} {k : Nat} (F : Fx K mg cl) (O : Ow P w K mg base cl Φ k) : ESs (bodyCf P w K mg base cl k (defScope s_are_rows_apart) N_are_rows_apart) (defBody s_are_rows_apart) (b_are_rows_apart Φ) :=
  (ss_cons (s_for rfl (i_enum (x_cons (v_varN 0 n_are_rows_apart_0 (.inl rfl)) x_nil) rfl F.b_enumerate) (g_tup (n := 2) rfl (gs_cons (g_name 1 ⟨rfl, (.inl rfl), (.inl rfl)⟩ rfl) (gs_cons (g_name 2 ⟨rfl, (.inr rfl), (.inl rfl)⟩ rfl) gs_nil)) (hl := (li_cons (pu_name 1) (li_cons (pu_name 2) li_nil)))) (ss_one (s_if (t_not (t_tru (v_blt (r_all rfl) (x_cons (v_lc (own := [("other", 3)]) rfl (i_seq (v_sl (v_varN 0 n_are_rows_apart_0 (.inl rfl)) o_no (o_some (v_varN 1 n_are_rows_apart_1 (.inl rfl))))) (by show blkC N_are_rows_apart (defScope s_are_rows_apart) _ _ = true; decide +kernel) (g_name 3 ⟨rfl, (.inl rfl), (.inr rfl)⟩ rfl) ts_nil (v_lt (v_blt r_len (x_cons (v_call O.f_common_row rfl (x_cons (v_varN 2 n_are_rows_apart_2 (.inr (.inl rfl))) (x_cons (v_varN 3 n_are_rows_apart_3 (.inl rfl)) x_nil)) rfl) x_nil) rfl F.b_len bt_len) v_int) (by decide +kernel)) x_nil) rfl F.b_all bt_all))) (ss_one (s_ret v_bl)) ss_nil))) (ss_one (s_ret v_bl)))
abbrev N_is_covered : List Str := ["row", "others", "left", "other", "common"]
abbrev P_is_covered : List Str := ["row", "others"]
def b_is_covered (Φ : Fn) : EvS := (sSeq (sSet 2 (eCall Φ 24 (aCons (eVar 0) aNil))) (sSeq (sFor (iSeq (eVar 1)) (gN 3) (sSeq (sSet 4 (eIf (eTest (eBin oGt (eApp oLen (aCons (eVar 2) aNil)) (eC (.int 1)))) (eCall Φ 22 (aCons (eVar 2) (aCons (eVar 3) aNil))) (eLst (aCons (eC (.int 1)) aNil)))) (sSet 2 (eIf (eTest (eBin oGt (eApp oLen (aCons (eVar 4) aNil)) (eC (.int 1)))) (eCall Φ 23 (aCons (eVar 2) (aCons (eVar 4) aNil))) (eVar 2))))) (sRet (eBin oLt (eApp oLen (aCons (eVar 2) aNil)) (eC (.int 2))))))
theorem n_is_covered_0 : nB N_is_covered 0 "row" = true := by decide +kernel
theorem n_is_covered_1 : nB N_is_covered 1 "others" = true := by decide +kernel
theorem n_is_covered_2 : nB N_is_covered 2 "left" = true := by decide +kernel
theorem n_is_covered_3 : nB N_is_covered 3 "other" = true := by decide +kernel
theorem n_is_covered_4 : nB N_is_covered 4 "common" = true := by decide +kernel
theorem sc_is_covered : FnScope N_is_covered P_is_covered (defScope s_is_covered) := ⟨rfl, rfl, rfl, by decide +kernel, rfl, by decide +kernel, by decide +kernel⟩
theorem e_is_covered {P : Program} {w : World} {K : PySem.W.Frag} {mg : Str → Option Value} {base : Heap} {cl : Nat → Addr} {Φ : Fn} {k : Nat} (F : Fx K mg cl) (O : Ow P w K mg base cl Φ k) : ESs (bodyCf P w K mg base cl k (defScope s_is_covered) N_is_covered) (defBody s_is_covered) (b_is_covered Φ) :=
  (ss_cons (s_set 2 (v_call O.f_single_row rfl (x_cons (v_varN 0 n_is_covered_0 (.inl rfl)) x_nil) rfl) ⟨rfl, (.inl rfl), .inl rfl⟩ rfl) (ss_cons (s_for rfl (i_seq (v_varN 1 n_is_covered_1 (.inl rfl))) (g_name 3 ⟨rfl, (.inl rfl), (.inl rfl)⟩ rfl) (ss_cons (s_set 4 (v_if (t_gt (v_blt r_len (x_cons (v_varN 2 n_is_covered_2 (.inl rfl)) x_nil) rfl F.b_len bt_len) v_int) (v_call O.f_common_row rfl (x_cons (v_varN 2 n_is_covered_2 (.inl rfl)) (x_cons (v_varN 3 n_is_covered_3 (.inl rfl)) x_nil)) rfl) (v_lst (x_cons v_int x_nil))) ⟨rfl, (.inl rfl), .inl rfl⟩ rfl) (ss_one (s_set 2 (v_if (t_gt (v_blt r_len (x_cons (v_varN 4 n_is_covered_4 (.inl rfl)) x_nil) rfl F.b_len bt_len) v_int) (v_call O.f_divided_row rfl (x_cons (v_varN 2 n_is_covered_2 (.inl rfl)) (x_cons (v_varN 4 n_is_covered_4 (.inl rfl)) x_nil)) rfl) (v_varN 2 n_is_covered_2 (.inl rfl))) ⟨rfl, (.inl rfl), .inl rfl⟩ rfl)))) (ss_one (s_ret (v_lt (v_blt r_len (x_cons (v_varN 2 n_is_covered_2 (.inl rfl)) x_nil) rfl F.b_len bt_len) v_int)))))
abbrev N_have_same_roots : List Str := ["given", "rows", "row"]
abbrev P_have_same_roots : List Str := ["given", "rows"]
def b_have_same_roots (Φ : Fn) : EvS := (sRet (eAndT (eApp oAll (aCons (eLc [2] (iSeq (eVar 0)) (gN 2) tYes' (eCall Φ 41 (aCons (eVar 2) (aCons (eVar 1) aNil)))) aNil)) (eApp oAll (aCons (eLc [2] (iSeq (eVar 1)) (gN 2) tYes' (eCall Φ 41 (aCons (eVar 2) (aCons (eVar 0) aNil)))) aNil))))
theorem n_have_same_roots_0 : nB N_have_same_roots 0 "given" = true := by decide +kernel
theorem n_have_same_roots_1 : nB N_have_same_roots 1 "rows" = true := by decide +kernel
theorem n_have_same_roots_2 : nB N_have_same_roots 2 "row" = true := by decide +kernel
theorem sc_have_same_roots : FnScope N_have_same_roots P_have_same_roots (defScope s_have_same_roots) := ⟨rfl, rfl, rfl, by decide +kernel, rfl, by decide +kernel, by decide +kernel⟩
theorem e_have_same_roots {P : Program} {w : World} {K : PySem.W.Frag} {mg : Str → Option Value} {base : Heap} {cl : Nat → Addr} {Φ : Fn} {k : Nat} (F : Fx K mg cl) (O : Ow P w K mg base cl Φ k) : ESs (bodyCf P w K mg base cl k (defScope s_have_same_roots) N_have_same_roots) (defBody s_have_same_roots) (b_have_same_roots Φ) :=
  (ss_one (s_ret (v_andT (v_blt (r_all rfl) (x_cons (v_lc (own := [("row", 2)]) rfl (i_seq (v_varN 0 n_have_same_roots_0 (.inr (.inl rfl)))) (by show blkC N_have_same_roots (defScope s_have_same_roots) _ _ = true; decide +kernel) (g_name 2 ⟨rfl, (.inl rfl), (.inr rfl)⟩ rfl) ts_nil (v_call O.f_is_covered rfl (x_cons (v_varN 2 n_have_same_roots_2 (.inl rfl)) (x_cons (v_varN 1 n_have_same_roots_1 (.inr (.inl rfl))) x_nil)) rfl) (by decide +kernel)) x_nil) rfl F.b_all bt_all) (v_one (v_blt (r_all rfl) (x_cons (v_lc (own := [("row", 2)]) rfl (i_seq (v_varN 1 n_have_same_roots_1 (.inr (.inl rfl)))) (by show blkC N_have_same_roots (defScope s_have_same_roots) _ _ = true; decide +kernel) (g_name 2 ⟨rfl, (.inl rfl), (.inr rfl)⟩ rfl) ts_nil (v_call O.f_is_covered rfl (x_cons (v_varN 2 n_have_same_roots_2 (.inl rfl)) (x_cons (v_varN 0 n_have_same_roots_0 (.inr (.inl rfl))) x_nil)) rfl) (by decide +kernel)) x_nil) rfl F.b_all bt_all)))))
abbrev N__law_box : List Str := ["script", "k", "bit_so"]
abbrev P__law_box : List Str := ["script", "k"]
theorem n__law_box_1 : nB N__law_box 1 "k" = true := by decide +kernel
theorem n__law_box_0 : nB N__law_box 0 "script" = true := by decide +kernel
theorem n__law_box_2 : nB N__law_box 2 "bit_so" = true := by decide +kernel
theorem sc__law_box : FnScope N__law_box P__law_box (defScope s__law_box) := ⟨rfl, rfl, rfl, by decide +kernel, rfl, by decide +kernel, by decide +kernel⟩
theorem e__law_box {P : Program} {w : World} {K : PySem.W.Frag} {mg : Str → Option Value} {base : Heap} {cl : Nat → Addr} {Φ : Fn} {k : Nat} (F : Fx K mg cl) (O : Ow P w K mg base cl Φ k) : ESs (bodyCf P w K mg base cl k (defScope s__law_box) N__law_box) (defBody s__law_box) (bBox 1709975 2305843009213693951 39373) :=
  (ss_cons (s_set 2 (v_if (t_lt (v_varN 1 n__law_box_1 (.inl rfl)) (v_blt r_len (x_cons (v_varN 0 n__law_box_0 (.inl rfl)) x_nil) rfl F.b_len bt_len)) (v_ix (v_varN 0 n__law_box_0 (.inl rfl)) (v_varN 1 n__law_box_1 (.inl rfl))) v_int) ⟨rfl, (.inl rfl), .inl rfl⟩ rfl) (ss_one (s_ret (v_lstM (x_cons (v_mul (v_blt r_abs (x_cons (v_varN 2 n__law_box_2 (.inl rfl)) x_nil) rfl F.b_abs bt_abs) (v_bty r_int (x_cons (v_ge (v_blt r_abs (x_cons (v_varN 2 n__law_box_2 (.inl rfl)) x_nil) rfl F.b_abs bt_abs) (v_pow v_int v_int)) x_nil) rfl F.b_int bt_int)) (x_cons (v_add (v_add (v_mod (v_bty r_int (x_cons (v_varN 2 n__law_box_2 (.inl rfl)) x_nil) rfl F.b_int bt_int) v_int) (v_mul v_int (v_varN 1 n__law_box_1 (.inl rfl)))) v_int) (x_cons v_int x_nil)))))))
abbrev N__law_take : List Str := ["urn", "low_so", "pick_so", "once", "far", "twice"]
abbrev P__law_take : List Str := ["urn", "low_so"]
theorem n__law_take_0 : nB N__law_take 0 "urn" = true := by decide +kernel
theorem n__law_take_1 : nB N__law_take 1 "low_so" = true := by decide +kernel
theorem n__law_take_2 : nB N__law_take 2 "pick_so" = true := by decide +kernel
theorem n__law_take_3 : nB N__law_take 3 "once" = true := by decide +kernel
theorem n__law_take_4 : nB N__law_take 4 "far" = true := by decide +kernel
theorem n__law_take_5 : nB N__law_take 5 "twice" = true := by decide +kernel
theorem sc__law_take : FnScope N__law_take P__law_take (defScope s__law_take) := ⟨rfl, rfl, rfl, by decide +kernel, rfl, by decide +kernel, by decide +kernel⟩
theorem e__law_take {P : Program} {w : World} {K : PySem.W.Frag} {mg : Str → Option Value} {base : Heap} {cl : Nat → Addr} {Φ : Fn} {k : Nat} (F : Fx K mg cl) (O : Ow P w K mg base cl Φ k) : ESs (bodyCf P w K mg base cl k (defScope s__law_take) N__law_take) (defBody s__law_take) bTake :=
  (ss_cons (s_if (t_gt (v_ix (v_varN 0 n__law_take_0 (.inl rfl)) v_int) v_int) (ss_cons (s_set 2 (v_mod (v_bty r_int (x_cons (v_ix (v_varN 0 n__law_take_0 (.inl rfl)) v_int) x_nil) rfl F.b_int bt_int) (v_varN 1 n__law_take_1 (.inl rfl))) ⟨rfl, (.inl rfl), .inl rfl⟩ rfl) (ss_cons (s_asg (v_div (v_ix (v_varN 0 n__law_take_0 (.inl rfl)) v_int) (v_varN 1 n__law_take_1 (.inl rfl))) (g_set (v_varN 0 n__law_take_0 (.inl rfl)) v_int)) (ss_one (s_ret (v_varN 2 n__law_take_2 (.inl rfl)))))) ss_nil) (ss_cons (s_asg (v_add (v_ix (v_varN 0 n__law_take_0 (.inl rfl)) v_int) v_int) (g_set (v_varN 0 n__law_take_0 (.inl rfl)) v_int)) (ss_cons (s_set 3 (v_mod (v_bty r_int (x_cons (v_mul (v_add (v_ix (v_varN 0 n__law_take_0 (.inl rfl)) v_int) (v_mul v_int (v_ix (v_varN 0 n__law_take_0 (.inl rfl)) v_int))) (v_add v_int (v_ix (v_varN 0 n__law_take_0 (.inl rfl)) v_int))) x_nil) rfl F.b_int bt_int) v_int) ⟨rfl, (.inl rfl), .inl rfl⟩ rfl) (ss_cons (s_set 4 (v_add (v_mod (v_bty r_int (x_cons (v_varN 3 n__law_take_3 (.inl rfl)) x_nil) rfl F.b_int bt_int) v_int) v_int) ⟨rfl, (.inl rfl), .inl rfl⟩ rfl) (ss_cons (s_set 5 (v_mod (v_bty r_int (x_cons (v_mul (v_add (v_add (v_varN 3 n__law_take_3 (.inl rfl)) (v_ix (v_varN 0 n__law_take_0 (.inl rfl)) v_int)) (v_div (v_ix (v_varN 0 n__law_take_0 (.inl rfl)) v_int) v_int)) (v_varN 4 n__law_take_4 (.inl rfl))) x_nil) rfl F.b_int bt_int) v_int) ⟨rfl, (.inl rfl), .inl rfl⟩ rfl) (ss_one (s_ret (v_mod (v_bty r_int (x_cons (v_div (v_mod (v_bty r_int (x_cons (v_add (v_mul (v_varN 5 n__law_take_5 (.inl rfl)) v_int) (v_varN 3 n__law_take_3 (.inl rfl))) x_nil) rfl F.b_int bt_int) v_int) v_int) x_nil) rfl F.b_int bt_int) (v_varN 1 n__law_take_1 (.inl rfl))))))))))
abbrev N__law_cells : List Str := ["script", "roof_so", "bits_so", "k", "bit_so", "at_so"]
abbrev P__law_cells : List Str := ["script", "roof_so"]
theorem n__law_cells_0 : nB N__law_cells 0 "script" = true := by decide +kernel
theorem n__law_cells_1 : nB N__law_cells 1 "roof_so" = true := by decide +kernel
theorem n__law_cells_3 : nB N__law_cells 3 "k" = true := by decide +kernel
theorem n__law_cells_2 : nB N__law_cells 2 "bits_so" = true := by decide +kernel
theorem n__law_cells_5 : nB N__law_cells 5 "at_so" = true := by decide +kernel
theorem n__law_cells_4 : nB N__law_cells 4 "bit_so" = true := by decide +kernel
theorem sc__law_cells : FnScope N__law_cells P__law_cells (defScope s__law_cells) := ⟨rfl, rfl, rfl, by decide +kernel, rfl, by decide +kernel, by decide +kernel⟩
theorem e__law_cells {P : Program} {w : World} {K : PySem.W.Frag} {mg : Str → Option Value} {base : Heap} {cl : Nat → Addr} {Φ : Fn} {k : Nat} (F : Fx K mg cl) (O : Ow P w K mg base cl Φ k) : ESs (bodyCf P w K mg base cl k (defScope s__law_cells) N__law_cells) (defBody s__law_cells) (bCells (eVar 1)) :=
  (ss_cons (s_set 2 (v_orT (v_bty r_listE (x_cons (v_sl (v_varN 0 n__law_cells_0 (.inl rfl)) o_no (o_some (v_varN 1 n__law_cells_1 (.inl rfl)))) x_nil) rfl F.b_list bt_list) (v_one (v_lstM (x_cons v_int x_nil)))) ⟨rfl, (.inl rfl), .inl rfl⟩ rfl) (ss_cons (s_for rfl (i_enum (x_cons (v_sl (v_varN 0 n__law_cells_0 (.inl rfl)) (o_some (v_varN 1 n__law_cells_1 (.inl rfl))) (o_some v_int)) x_nil) rfl F.b_enumerate) (g_tup (n := 2) rfl (gs_cons (g_name 3 ⟨rfl, (.inl rfl), (.inl rfl)⟩ rfl) (gs_cons (g_name 4 ⟨rfl, (.inl rfl), (.inl rfl)⟩ rfl) gs_nil)) (hl := (li_cons (pu_name 3) (li_cons (pu_name 4) li_nil)))) (ss_cons (s_set 5 (v_mod (v_bty r_int (x_cons (v_varN 3 n__law_cells_3 (.inl rfl)) x_nil) rfl F.b_int bt_int) (v_varN 1 n__law_cells_1 (.inl rfl))) ⟨rfl, (.inl rfl), .inl rfl⟩ rfl) (ss_one (s_asg (v_add (v_ix (v_varN 2 n__law_cells_2 (.inl rfl)) (v_varN 5 n__law_cells_5 (.inl rfl))) (v_mul (v_varN 4 n__law_cells_4 (.inl rfl)) (v_add (v_varN 3 n__law_cells_3 (.inl rfl)) v_int))) (g_set (v_varN 2 n__law_cells_2 (.inl rfl)) (v_varN 5 n__law_cells_5 (.inl rfl))))))) (ss_one (s_ret (v_varN 2 n__law_cells_2 (.inl rfl))))))
abbrev N__law_same : List Str := ["near", "goal", "mine_so", "own"]
abbrev P__law_same : List Str := ["near", "goal"]
def b__law_same (Φ : Fn) : EvS := (sSeq (sIf (eTru (eApp oIsi (aCons (eVar 1) (aCons (eTup (aCons (eC (.ty .list)) (aCons (eC (.ty .tuple)) aNil))) aNil)))) (sSeq (sIf (tOr' (eTest (eBin oNe (eApp oIsi (aCons (eVar 0) (aCons (eC (.ty .list)) aNil))) (eApp oIsi (aCons (eVar 1) (aCons (eC (.ty .list)) aNil))))) (eTest (eBin oNe (eApp oIsi (aCons (eVar 0) (aCons (eC (.ty .tuple)) aNil))) (eApp oIsi (aCons (eVar 1) (aCons (eC (.ty .tuple)) aNil)))))) (sRet (eC (.bl false))) sNil) (sRet (eAndT (eBin oEq (eApp oLen (aCons (eVar 0) aNil)) (eApp oLen (aCons (eVar 1) aNil))) (eApp oAll (aCons (eLc [2, 3] (iZip (aCons (eVar 0) (aCons (eVar 1) aNil))) (gT (gsCons (gN 2) (gsCons (gN 3) gsNil))) tYes' (eCall Φ 46 (aCons (eVar 2) (aCons (eVar 3) aNil)))) aNil))))) sNil) (sSeq (sIf (tOr' (eTest (eBin oIsN (eVar 1) (eC .non))) (eTru (eApp oIsi (aCons (eVar 1) (aCons (eTup (aCons (eC (.ty .bool)) (aCons (eC (.ty .str)) aNil))) aNil))))) (sRet (eAndT (eBin oEq (eVar 0) (eVar 1)) (eAndT (eBin oEq (eApp oIsi (aCons (eVar 0) (aCons (eC (.ty .bool)) aNil))) (eApp oIsi (aCons (eVar 1) (aCons (eC (.ty .bool)) aNil)))) (eBin oEq (eBin oIsN (eVar 0) (eC .non)) (eBin oIsN (eVar 1) (eC .non)))))) sNil) (sRet (eAndT (eApp oIsi (aCons (eVar 0) (aCons (eC (.ty .int)) aNil))) (eAndT (eNot (eApp oIsi (aCons (eVar 0) (aCons (eC (.ty .bool)) aNil)))) (eBin oEq (eVar 0) (eVar 1)))))))
theorem n__law_same_1 : nB N__law_same 1 "goal" = true := by decide +kernel
theorem n__law_same_0 : nB N__law_same 0 "near" = true := by decide +kernel
theorem n__law_same_3 : nB N__law_same 3 "own" = true := by decide +kernel
theorem n__law_same_2 : nB N__law_same 2 "mine_so" = true := by decide +kernel
theorem sc__law_same : FnScope N__law_same P__law_same (defScope s__law_same) := ⟨rfl, rfl, rfl, by decide +kernel, rfl, by decide +kernel, by decide +kernel⟩
theorem e__law_same {P : Program} {w : World} {K : PySem.W.Frag} {mg : Str → Option Value} {base : Heap} {cl : Nat → Addr} {Φ : Fn} {k : Nat} (F : Fx K mg cl) (O : Ow P w K mg base cl Φ k) : ESs (bodyCf P w K mg base cl k (defScope s__law_same) N__law_same) (defBody s__law_same) (b__law_same Φ) :=
  (ss_cons (s_if (t_tru (v_blt r_isi (x_cons (v_varN 1 n__law_same_1 (.inl rfl)) (x_cons (v_tup (x_cons (v_ty .list F.b_list bt_list rfl) (x_cons (v_ty .tuple F.b_tuple bt_tuple rfl) x_nil))) x_nil)) rfl F.b_isinstance bt_isinstance)) (ss_cons (s_if (EW.et (w_or (t_ne (v_blt r_isi (x_cons (v_varN 0 n__law_same_0 (.inl rfl)) (x_cons (v_ty .list F.b_list bt_list rfl) x_nil)) rfl F.b_isinstance bt_isinstance) (v_blt r_isi (x_cons (v_varN 1 n__law_same_1 (.inl rfl)) (x_cons (v_ty .list F.b_list bt_list rfl) x_nil)) rfl F.b_isinstance bt_isinstance)) (w_or1 (t_ne (v_blt r_isi (x_cons (v_varN 0 n__law_same_0 (.inl rfl)) (x_cons (v_ty .tuple F.b_tuple bt_tuple rfl) x_nil)) rfl F.b_isinstance bt_isinstance) (v_blt r_isi (x_cons (v_varN 1 n__law_same_1 (.inl rfl)) (x_cons (v_ty .tuple F.b_tuple bt_tuple rfl) x_nil)) rfl F.b_isinstance bt_isinstance))))) (ss_one (s_ret v_bl)) ss_nil) (ss_one (s_ret (v_andT (v_eq (v_blt r_len (x_cons (v_varN 0 n__law_same_0 (.inl rfl)) x_nil) rfl F.b_len bt_len) (v_blt r_len (x_cons (v_varN 1 n__law_same_1 (.inl rfl)) x_nil) rfl F.b_len bt_len)) (v_one (v_blt (r_all rfl) (x_cons (v_lc (own := [("mine_so", 2), ("own", 3)]) rfl (i_zip (x_cons (v_varN 0 n__law_same_0 (.inl rfl)) (x_cons (v_varN 1 n__law_same_1 (.inl rfl)) x_nil)) rfl F.b_zip) (by show blkC N__law_same (defScope s__law_same) _ _ = true; decide +kernel) (g_tup (n := 2) rfl (gs_cons (g_name 2 ⟨rfl, (.inl rfl), (.inr rfl)⟩ rfl) (gs_cons (g_name 3 ⟨rfl, (.inl rfl), (.inr rfl)⟩ rfl) gs_nil)) (hl := (li_cons (pu_name 2) (li_cons (pu_name 3) li_nil)))) ts_nil (v_call O.f__law_same rfl (x_cons (v_varN 2 n__law_same_2 (.inl rfl)) (x_cons (v_varN 3 n__law_same_3 (.inl rfl)) x_nil)) rfl) (by decide +kernel)) x_nil) rfl F.b_all bt_all)))))) ss_nil) (ss_cons (s_if (EW.et (w_or (t_isN (v_varN 1 n__law_same_1 (.inl rfl)) v_non) (w_or1 (t_tru (v_blt r_isi (x_cons (v_varN 1 n__law_same_1 (.inl rfl)) (x_cons (v_tup (x_cons (v_ty .bool F.b_bool bt_bool rfl) (x_cons (v_ty .str F.b_str bt_str rfl) x_nil))) x_nil)) rfl F.b_isinstance bt_isinstance))))) (ss_one (s_ret (v_andT (v_eq (v_varN 0 n__law_same_0 (.inl rfl)) (v_varN 1 n__law_same_1 (.inl rfl))) (v_andT (v_eq (v_blt r_isi (x_cons (v_varN 0 n__law_same_0 (.inl rfl)) (x_cons (v_ty .bool F.b_bool bt_bool rfl) x_nil)) rfl F.b_isinstance bt_isinstance) (v_blt r_isi (x_cons (v_varN 1 n__law_same_1 (.inl rfl)) (x_cons (v_ty .bool F.b_bool bt_bool rfl) x_nil)) rfl F.b_isinstance bt_isinstance)) (v_one (v_eq (v_isN (v_varN 0 n__law_same_0 (.inl rfl)) v_non) (v_isN (v_varN 1 n__law_same_1 (.inl rfl)) v_non))))))) ss_nil) (ss_one (s_ret (v_andT (v_blt r_isi (x_cons (v_varN 0 n__law_same_0 (.inl rfl)) (x_cons (v_ty .int F.b_int bt_int rfl) x_nil)) rfl F.b_isinstance bt_isinstance) (v_andT (v_not (v_blt r_isi (x_cons (v_varN 0 n__law_same_0 (.inl rfl)) (x_cons (v_ty .bool F.b_bool bt_bool rfl) x_nil)) rfl F.b_isinstance bt_isinstance)) (v_one (v_eq (v_varN 0 n__law_same_0 (.inl rfl)) (v_varN 1 n__law_same_1 (.inl rfl))))))))))
abbrev N__law_mixed : List Str := ["urn", "matter", "parts_so", "own"]
abbrev P__law_mixed : List Str := ["urn", "matter"]
theorem n__law_mixed_1 : nB N__law_mixed 1 "matter" = true := by decide +kernel
theorem n__law_mixed_3 : nB N__law_mixed 3 "own" = true := by decide +kernel
theorem n__law_mixed_0 : nB N__law_mixed 0 "urn" = true := by decide +kernel
theorem n__law_mixed_2 : nB N__law_mixed 2 "parts_so" = true := by decide +kernel
theorem sc__law_mixed : FnScope N__law_mixed P__law_mixed (defScope s__law_mixed) := ⟨rfl, rfl, rfl, by decide +kernel, rfl, by decide +kernel, by decide +kernel⟩
theorem e__law_mixed {P : Program} {w : World} {K : PySem.W.Frag} {mg : Str → Option Value} {base : Heap} {cl : Nat → Addr} {Φ : Fn} {k : Nat} (F : Fx K mg cl) (O : Ow P w K mg base cl Φ k) : ESs (bodyCf P w K mg base cl k (defScope s__law_mixed) N__law_mixed) (defBody s__law_mixed) (bMixed Φ 47 44) :=
  (ss_cons (s_if (t_not (t_tru (v_blt r_isi (x_cons (v_varN 1 n__law_mixed_1 (.inl rfl)) (x_cons (v_tup (x_cons (v_ty .list F.b_list bt_list rfl) (x_cons (v_ty .tuple F.b_tuple bt_tuple rfl) x_nil))) x_nil)) rfl F.b_isinstance bt_isinstance))) (ss_one (s_ret (v_varN 1 n__law_mixed_1 (.inl rfl)))) ss_nil) (ss_cons (s_setLc 2 (own := [("own", 3)]) ⟨rfl, (.inl rfl), .inl rfl⟩ rfl rfl rfl rfl (by decide +kernel) rfl (i_seq (v_varN 1 n__law_mixed_1 (.inl rfl))) (by show blkC N__law_mixed (defScope s__law_mixed) _ _ = true; decide +kernel) (g_name 3 ⟨rfl, (.inl rfl), (.inr rfl)⟩ rfl) ts_nil (v_call O.f__law_mixed rfl (x_cons (v_varN 0 n__law_mixed_0 (.inr (.inl rfl))) (x_cons (v_varN 3 n__law_mixed_3 (.inl rfl)) x_nil)) rfl) (by decide +kernel)) (ss_one (s_ret (v_if (t_eq (v_call O.f__law_take rfl (x_cons (v_varN 0 n__law_mixed_0 (.inr (.inl rfl))) (x_cons v_int x_nil)) rfl) v_int) (v_varN 2 n__law_mixed_2 (.inl rfl)) (v_bty r_tup (x_cons (v_varN 2 n__law_mixed_2 (.inl rfl)) x_nil) rfl F.b_tuple bt_tuple))))))
abbrev N__law_uni : List Str := ["row", "unknown", "found_so", "power_so", "number_so"]
abbrev P__law_uni : List Str := ["row", "unknown"]
def b__law_uni (Φ : Fn) : EvS := (sSeq (sSet 2 (eLstM aNil)) (sSeq (sFor (iEnum (aCons (eVar 0) aNil)) (gT (gsCons (gN 3) (gsCons (gN 4) gsNil))) (sIf (eTest (eBin oNe (eVar 4) (eC (.int 0)))) (sDrop (eMet mAppend (eVar 2) (aCons (eTup (aCons (eIf (eTest (eBin oGt (eVar 3) (eC (.int 0)))) (eBin oAdd (eBin oMul (eTup (aCons (eC (.int 0)) aNil)) (eVar 1)) (eTup (aCons (eVar 3) aNil))) (eTup aNil)) (aCons (eVar 4) aNil))) aNil))) sNil)) (sRet (eApp oTup (aCons (eVar 2) aNil)))))
theorem n__law_uni_0 : nB N__law_uni 0 "row" = true := by decide +kernel
theorem n__law_uni_4 : nB N__law_uni 4 "number_so" = true := by decide +kernel
theorem n__law_uni_2 : nB N__law_uni 2 "found_so" = true := by decide +kernel
theorem n__law_uni_3 : nB N__law_uni 3 "power_so" = true := by decide +kernel
theorem n__law_uni_1 : nB N__law_uni 1 "unknown" = true := by decide +kernel
theorem sc__law_uni : FnScope N__law_uni P__law_uni (defScope s__law_uni) := ⟨rfl, rfl, rfl, by decide +kernel, rfl, by decide +kernel, by decide +kernel⟩
theorem e__law_uni {P : Program} {w : World} {K : PySem.W.Frag} {mg : Str → Option Value} {base : Heap} {cl : Nat → Addr} {Φ : Fn} {k : Nat} (F : Fx K mg cl) (O : Ow P w K mg base cl Φ k) : ESs (bodyCf P w K mg base cl k (defScope s__law_uni) N__law_uni) (defBody s__law_uni) (b__law_uni Φ) :=
  (ss_cons (s_set 2 (v_lstM x_nil) ⟨rfl, (.inl rfl), .inl rfl⟩ rfl) (ss_cons (s_for rfl (i_enum (x_cons (v_varN 0 n__law_uni_0 (.inl rfl)) x_nil) rfl F.b_enumerate) (g_tup (n := 2) rfl (gs_cons (g_name 3 ⟨rfl, (.inl rfl), (.inl rfl)⟩ rfl) (gs_cons (g_name 4 ⟨rfl, (.inl rfl), (.inl rfl)⟩ rfl) gs_nil)) (hl := (li_cons (pu_name 3) (li_cons (pu_name 4) li_nil)))) (ss_one (s_if (t_ne (v_varN 4 n__law_uni_4 (.inl rfl)) v_int) (ss_one (s_expr (v_met pl_list PySem.F.slot_list_append mt_ty_append r_append (v_varN 2 n__law_uni_2 (.inl rfl)) (x_cons (v_tup (x_cons (v_if (t_gt (v_varN 3 n__law_uni_3 (.inl rfl)) v_int) (v_add (v_mul (v_tup (x_cons v_int x_nil)) (v_varN 1 n__law_uni_1 (.inl rfl))) (v_tup (x_cons (v_varN 3 n__law_uni_3 (.inl rfl)) x_nil))) (v_tup x_nil)) (x_cons (v_varN 4 n__law_uni_4 (.inl rfl)) x_nil))) x_nil)))) ss_nil))) (ss_one (s_ret (v_bty r_tup (x_cons (v_varN 2 n__law_uni_2 (.inl rfl)) x_nil) rfl F.b_tuple bt_tuple)))))
abbrev N__law_times : List Str := ["one", "other", "found_so", "k", "near_so", "j", "far_so"]
abbrev P__law_times : List Str := ["one", "other"]
def b__law_times (Φ : Fn) : EvS := (sSeq (sIf (tOr' (eTest (eBin oEq (eVar 0) (eLst aNil))) (eTest (eBin oEq (eVar 1) (eLst aNil)))) (sRet (eLst aNil)) sNil) (sSeq (sSet 2 (eBin oMulM (eLst (aCons (eC (.int 0)) aNil)) (eBin oSub (eBin oAdd (eApp oLen (aCons (eVar 0) aNil)) (eApp oLen (aCons (eVar 1) aNil))) (eC (.int 1))))) (sSeq (sFor (iEnum (aCons (eVar 0) aNil)) (gT (gsCons (gN 3) (gsCons (gN 4) gsNil))) (sFor (iEnum (aCons (eVar 1) aNil)) (gT (gsCons (gN 5) (gsCons (gN 6) gsNil))) (sAsg (eBin oAdd (eBin oIxD (eVar 2) (eBin oAdd (eVar 3) (eVar 5))) (eBin oMul (eVar 4) (eVar 6))) (gSetD (eVar 2) (eBin oAdd (eVar 3) (eVar 5)))))) (sRet (eVar 2)))))
theorem n__law_times_0 : nB N__law_times 0 "one" = true := by decide +kernel
theorem n__law_times_1 : nB N__law_times 1 "other" = true := by decide +kernel
theorem n__law_times_2 : nB N__law_times 2 "found_so" = true := by decide +kernel
theorem n__law_times_3 : nB N__law_times 3 "k" = true := by decide +kernel
theorem n__law_times_5 : nB N__law_times 5 "j" = true := by decide +kernel
theorem n__law_times_4 : nB N__law_times 4 "near_so" = true := by decide +kernel
theorem n__law_times_6 : nB N__law_times 6 "far_so" = true := by decide +kernel
theorem sc__law_times : FnScope N__law_times P__law_times (defScope s__law_times) := ⟨rfl, rfl, rfl, by decide +kernel, rfl, by decide +kernel, by decide +kernel⟩
theorem e__law_times {P : Program} {w : World} {K : PySem.W.Frag} {mg : Str → Option Value} {base : Heap} {cl : Nat → Addr} {Φ : Fn} {k : Nat} (F : Fx K mg cl) (O : Ow P w K mg base cl Φ k) : ESs (bodyCf P w K mg base cl k (defScope s__law_times) N__law_times) (defBody s__law_times) (b__law_times Φ) :=
  (ss_cons (s_if (EW.et (w_or (t_eq (v_varN 0 n__law_times_0 (.inl rfl)) (v_lst x_nil)) (w_or1 (t_eq (v_varN 1 n__law_times_1 (.inl rfl)) (v_lst x_nil))))) (ss_one (s_ret (v_lst x_nil))) ss_nil) (ss_cons (s_set 2 (v_mulM (v_lst (x_cons v_int x_nil)) (v_sub (v_add (v_blt r_len (x_cons (v_varN 0 n__law_times_0 (.inl rfl)) x_nil) rfl F.b_len bt_len) (v_blt r_len (x_cons (v_varN 1 n__law_times_1 (.inl rfl)) x_nil) rfl F.b_len bt_len)) v_int)) ⟨rfl, (.inl rfl), .inl rfl⟩ rfl) (ss_cons (s_for rfl (i_enum (x_cons (v_varN 0 n__law_times_0 (.inl rfl)) x_nil) rfl F.b_enumerate) (g_tup (n := 2) rfl (gs_cons (g_name 3 ⟨rfl, (.inl rfl), (.inl rfl)⟩ rfl) (gs_cons (g_name 4 ⟨rfl, (.inl rfl), (.inl rfl)⟩ rfl) gs_nil)) (hl := (li_cons (pu_name 3) (li_cons (pu_name 4) li_nil)))) (ss_one (s_for rfl (i_enum (x_cons (v_varN 1 n__law_times_1 (.inl rfl)) x_nil) rfl F.b_enumerate) (g_tup (n := 2) rfl (gs_cons (g_name 5 ⟨rfl, (.inl rfl), (.inl rfl)⟩ rfl) (gs_cons (g_name 6 ⟨rfl, (.inl rfl), (.inl rfl)⟩ rfl) gs_nil)) (hl := (li_cons (pu_name 5) (li_cons (pu_name 6) li_nil)))) (ss_one (s_asg (v_add (v_ixD (v_varN 2 n__law_times_2 (.inl rfl)) (v_add (v_varN 3 n__law_times_3 (.inl rfl)) (v_varN 5 n__law_times_5 (.inl rfl)))) (v_mul (v_varN 4 n__law_times_4 (.inl rfl)) (v_varN 6 n__law_times_6 (.inl rfl)))) (g_setD (v_varN 2 n__law_times_2 (.inl rfl)) (v_add (v_varN 3 n__law_times_3 (.inl rfl)) (v_varN 5 n__law_times_5 (.inl rfl))))))))) (ss_one (s_ret (v_varN 2 n__law_times_2 (.inl rfl)))))))
abbrev N__law_try : List Str := ["door", "one", "other", "caught_so", "found", "error_so"]
abbrev P__law_try : List Str := ["door", "one", "other"]
def b__law_try (Φ : Fn) : EvS := (sSeq (sAsg (eTup (aCons (eC (.str "")) (aCons (eC .non) aNil))) (gT (gsCons (gN 3) (gsCons (gN 4) gsNil)))) (sSeq (sTry (sIf (eTest (eBin oLt (eVar 0) (eC (.int 3)))) (sSet 4 (eIf (eTest (eBin oEq (eVar 0) (eC (.int 0)))) (eCall Φ 33 (aCons (eVar 1) (aCons (eVar 2) aNil))) (eIf (eTest (eBin oEq (eVar 0) (eC (.int 1)))) (eCall Φ 34 (aCons (eVar 1) (aCons (eVar 2) aNil))) (eCall Φ 35 (aCons (eVar 1) (aCons (eVar 2) aNil)))))) (sSet 4 (eIf (eTest (eBin oEq (eVar 0) (eC (.int 3)))) (eCall Φ 36 (aCons (eVar 1) aNil)) (eIf (eTest (eBin oEq (eVar 0) (eC (.int 4)))) (eCall Φ 37 (aCons (eVar 1) aNil)) (eIf (eTest (eBin oEq (eVar 0) (eC (.int 5)))) (eCall Φ 38 (aCons (eVar 1) aNil)) (eCall Φ 39 (aCons (eVar 1) (aCons (eVar 2) aNil)))))))) [⟨fun z => sub z 0, some 5, fun z => (sSet 3 (eIf (tAnd' (eTru (eIsX sub tq z 5 (eC (.ty .ve)))) (tNot' (eTru (eIsX sub tq z 5 (eTup (aCons (eC (.cls 1)) (aCons (eC (.cls 2)) aNil))))))) (eC (.str "CanNot")) (eC (.str "other"))))⟩, ⟨fun z => sub z 2, some 5, fun z => (sSet 3 (eIf (tAnd' (eTru (eIsX sub tq z 5 (eC (.ty .ve)))) (tNot' (eTru (eIsX sub tq z 5 (eTup (aCons (eC (.cls 0)) (aCons (eC (.cls 1)) aNil))))))) (eC (.str "Unfit")) (eC (.str "other"))))⟩]) (sRet (eLst (aCons (eVar 3) (aCons (eVar 4) aNil))))))
theorem n__law_try_0 : nB N__law_try 0 "door" = true := by decide +kernel
theorem n__law_try_2 : nB N__law_try 2 "other" = true := by decide +kernel
theorem n__law_try_1 : nB N__law_try 1 "one" = true := by decide +kernel
theorem n__law_try_4 : nB N__law_try 4 "found" = true := by decide +kernel
theorem n__law_try_3 : nB N__law_try 3 "caught_so" = true := by decide +kernel
theorem sc__law_try : FnScope N__law_try P__law_try (defScope s__law_try) := ⟨rfl, rfl, rfl, by decide +kernel, rfl, by decide +kernel, by decide +kernel⟩
theorem e__law_try {P : Program} {w : World} {K : PySem.W.Frag} {mg : Str → Option Value} {base : Heap} {cl : Nat → Addr} {Φ : Fn} {k : Nat} (F : Fx K mg cl) (O : Ow P w K mg base cl Φ k) : ESs (bodyCf P w K mg base cl k (defScope s__law_try) N__law_try) (defBody s__law_try) (b__law_try Φ) :=
  (ss_cons (s_asg (v_tup (x_cons v_str (x_cons v_non x_nil))) (g_tup (n := 2) rfl (gs_cons (g_name 3 ⟨rfl, (.inl rfl), (.inl rfl)⟩ rfl) (gs_cons (g_name 4 ⟨rfl, (.inl rfl), (.inl rfl)⟩ rfl) gs_nil)) (hl := (li_cons (pu_name 3) (li_cons (pu_name 4) li_nil)))) (hw := fun _ _ => sw_fold (by decide +kernel))) (ss_cons (s_try rfl rfl (ss_one (s_if (t_lt (v_varN 0 n__law_try_0 (.inl rfl)) v_int) (ss_one (s_set 4 (v_if (t_eq (v_varN 0 n__law_try_0 (.inl rfl)) v_int) (v_call O.f_uni_divided rfl (x_cons (v_varN 1 n__law_try_1 (.inl rfl)) (x_cons (v_varN 2 n__law_try_2 (.inl rfl)) x_nil)) rfl) (v_if (t_eq (v_varN 0 n__law_try_0 (.inl rfl)) v_int) (v_call O.f_uni_divides rfl (x_cons (v_varN 1 n__law_try_1 (.inl rfl)) (x_cons (v_varN 2 n__law_try_2 (.inl rfl)) x_nil)) rfl) (v_call O.f_uni_common rfl (x_cons (v_varN 1 n__law_try_1 (.inl rfl)) (x_cons (v_varN 2 n__law_try_2 (.inl rfl)) x_nil)) rfl))) ⟨rfl, (.inl rfl), .inl rfl⟩ rfl)) (ss_one (s_set 4 (v_if (t_eq (v_varN 0 n__law_try_0 (.inl rfl)) v_int) (v_call O.f_uni_single rfl (x_cons (v_varN 1 n__law_try_1 (.inl rfl)) x_nil) rfl) (v_if (t_eq (v_varN 0 n__law_try_0 (.inl rfl)) v_int) (v_call O.f_uni_layers rfl (x_cons (v_varN 1 n__law_try_1 (.inl rfl)) x_nil) rfl) (v_if (t_eq (v_varN 0 n__law_try_0 (.inl rfl)) v_int) (v_call O.f_uni_parted rfl (x_cons (v_varN 1 n__law_try_1 (.inl rfl)) x_nil) rfl) (v_call O.f_is_uni_parting rfl (x_cons (v_varN 1 n__law_try_1 (.inl rfl)) (x_cons (v_varN 2 n__law_try_2 (.inl rfl)) x_nil)) rfl)))) ⟨rfl, (.inl rfl), .inl rfl⟩ rfl)))) (.named rfl (by decide +kernel) F.c_CanNot rfl rfl (fun z b h => F.T.exm z 0 b h) (fun z a => (ss_one (s_set 3 (v_if (EW.et (w_and (t_tru (v_isX z 5 F.T a rfl rfl (.inl rfl) (v_ty .ve F.b_ValueError bt_ValueError rfl) rfl F.b_isinstance)) (w_and1 (t_not (t_tru (v_isX z 5 F.T a rfl rfl (.inl rfl) (v_tup (x_cons (v_cls 1 F.c_TooMuch rfl) (x_cons (v_cls 2 F.c_Unfit rfl) x_nil))) rfl F.b_isinstance)))))) v_str v_str) ⟨rfl, (.inl rfl), .inl rfl⟩ rfl))) (.named rfl (by decide +kernel) F.c_Unfit rfl rfl (fun z b h => F.T.exm z 2 b h) (fun z a => (ss_one (s_set 3 (v_if (EW.et (w_and (t_tru (v_isX z 5 F.T a rfl rfl (.inl rfl) (v_ty .ve F.b_ValueError bt_ValueError rfl) rfl F.b_isinstance)) (w_and1 (t_not (t_tru (v_isX z 5 F.T a rfl rfl (.inl rfl) (v_tup (x_cons (v_cls 0 F.c_CanNot rfl) (x_cons (v_cls 1 F.c_TooMuch rfl) x_nil))) rfl F.b_isinstance)))))) v_str v_str) ⟨rfl, (.inl rfl), .inl rfl⟩ rfl))) .nil))) (ss_one (s_ret (v_lst (x_cons (v_varN 3 n__law_try_3 (.inl rfl)) (x_cons (v_varN 4 n__law_try_4 (.inl rfl)) x_nil)))))))
abbrev N__law_told_right : List Str := ["urn", "u", "up", "down", "one", "cube", "square", "both", "much", "soft", "got", "due", "many", "parts", "things", "own"]
abbrev P__law_told_right : List Str := ["urn"]
def b__law_told_right (Φ : Fn) : EvS := (sSeq (sSet 1 (eCall Φ 44 (aCons (eVar 0) (aCons (eC (.int 6)) aNil)))) (sSeq (sAsg (eTup (aCons (eCall Φ 48 (aCons (eLst (aCons (eC (.int 1)) (aCons (eC (.int 1)) aNil))) (aCons (eVar 1) aNil))) (aCons (eCall Φ 48 (aCons (eLst (aCons (eNeg (eC (.int 1))) (aCons (eC (.int 1)) aNil))) (aCons (eVar 1) aNil))) (aCons (eCall Φ 48 (aCons (eLst (aCons (eC (.int 1)) aNil)) (aCons (eVar 1) aNil))) (aCons (eCall Φ 48 (aCons (eLst (aCons (eC (.int 0)) (aCons (eC (.int 0)) (aCons (eC (.int 0)) (aCons (eC (.int 1)) aNil))))) (aCons (eVar 1) aNil))) aNil))))) (gT (gsCons (gN 2) (gsCons (gN 3) (gsCons (gN 4) (gsCons (gN 5) gsNil)))))) (sSeq (sAsg (eTup (aCons (eCall Φ 48 (aCons (eLst (aCons (eC (.int 1)) (aCons (eC (.int 2)) (aCons (eC (.int 1)) aNil)))) (aCons (eVar 1) aNil))) (aCons (eCall Φ 48 (aCons (eLst (aCons (eNeg (eC (.int 1))) (aCons (eC (.int 0)) (aCons (eC (.int 1)) aNil)))) (aCons (eVar 1) aNil))) (aCons (eCall Φ 48 (aCons (eLst (aCons (eNeg (eC (.int 1))) (aCons (eNeg (eC (.int 1))) (aCons (eC (.int 1)) (aCons (eC (.int 1)) aNil))))) (aCons (eVar 1) aNil))) aNil)))) (gT (gsCons (gN 6) (gsCons (gN 7) (gsCons (gN 8) gsNil))))) (sSeq (sSet 9 (eCall Φ 47 (aCons (eVar 0) (aCons (eVar 6) aNil)))) (sSeq (sSet 10 (eLst (aCons (eCall Φ 33 (aCons (eVar 5) (aCons (eCall Φ 48 (aCons (eLst (aCons (eNeg (eC (.int 1))) (aCons (eC (.int 2)) aNil))) (aCons (eVar 1) aNil))) aNil))) (aCons (eCallN Φ 33 0 2 [1, 0] aNil (aCons (eVar 2) (aCons (eTup aNil) aNil))) (aCons (eCall Φ 33 (aCons (eCall Φ 48 (aCons (eLst (aCons (eC (.int 3)) aNil)) (aCons (eVar 1) aNil))) (aCons (eVar 2) aNil))) (aCons (eCall Φ 33 (aCons (eVar 9) (aCons (eCall Φ 48 (aCons (eLst (aCons (eC (.int 2)) (aCons (eC (.int 2)) aNil))) (aCons (eVar 1) aNil))) aNil))) aNil)))))) (sSeq (sSet 10 (eBin oAdd (eVar 10) (eLst (aCons (eCall Φ 33 (aCons (eCall Φ 48 (aCons (eLst (aCons (eC (.int 4)) (aCons (eC (.int 6)) aNil))) (aCons (eVar 1) aNil))) (aCons (eCall Φ 48 (aCons (eLst (aCons (eNeg (eC (.int 6))) aNil)) (aCons (eVar 1) aNil))) aNil))) aNil)))) (sSeq (sSet 11 (eLst (aCons (eTup (aCons (eC (.int 8)) (aCons (eCall Φ 48 (aCons (eLst (aCons (eC (.int 1)) (aCons (eC (.int 2)) (aCons (eC (.int 4)) aNil)))) (aCons (eVar 1) aNil))) (aCons (eVar 4) aNil)))) (aCons (eTup (aCons (eC (.int 1)) (aCons (eTup aNil) (aCons (eTup aNil) aNil)))) (aCons (eTup (aCons (eC (.int 1)) (aCons (eTup aNil) (aCons (eCall Φ 48 (aCons (eLst (aCons (eC (.int 3)) aNil)) (aCons (eVar 1) aNil))) aNil)))) (aCons (eTup (aCons (eC (.int 2)) (aCons (eCall Φ 48 (aCons (eLst (aCons (eC (.int 1)) (aCons (eC (.int 1)) aNil))) (aCons (eVar 1) aNil))) (aCons (eTup aNil) aNil)))) (aCons (eTup (aCons (eC (.int 3)) (aCons (eCall Φ 48 (aCons (eLst (aCons (eNeg (eC (.int 2))) (aCons (eNeg (eC (.int 3))) aNil))) (aCons (eVar 1) aNil))) (aCons (eTup aNil) aNil)))) aNil))))))) (sSeq (sSet 10 (eBin oAdd (eVar 10) (eLst (aCons (eCall Φ 34 (aCons (eCall Φ 48 (aCons (eLst (aCons (eC (.int 3)) (aCons (eC (.int 3)) aNil))) (aCons (eVar 1) aNil))) (aCons (eVar 9) aNil))) (aCons (eCall Φ 34 (aCons (eVar 6) (aCons (eVar 2) aNil))) (aCons (eCallN Φ 34 0 2 [1, 0] aNil (aCons (eTup aNil) (aCons (eVar 2) aNil))) (aCons (eCall Φ 34 (aCons (eCall Φ 48 (aCons (eLst (aCons (eC (.int 5)) aNil)) (aCons (eVar 1) aNil))) (aCons (eVar 2) aNil))) (aCons (eCall Φ 34 (aCons (eVar 2) (aCons (eCall Φ 48 (aCons (eLst (aCons (eC (.int 7)) aNil)) (aCons (eVar 1) aNil))) aNil))) aNil)))))))) (sSeq (sSet 11 (eBin oAdd (eVar 11) (eLst (aCons (eC (.bl true)) (aCons (eC (.bl false)) (aCons (eC (.bl true)) (aCons (eC (.bl true)) (aCons (eC (.bl false)) aNil)))))))) (sSeq (sSet 10 (eBin oAdd (eVar 10) (eLst (aCons (eCall Φ 35 (aCons (eVar 8) (aCons (eCall Φ 48 (aCons (eLst (aCons (eC (.int 6)) (aCons (eC (.int 0)) (aCons (eNeg (eC (.int 6))) aNil)))) (aCons (eVar 1) aNil))) aNil))) (aCons (eCallN Φ 35 0 2 [1, 0] aNil (aCons (eVar 9) (aCons (eVar 7) aNil))) (aCons (eCall Φ 35 (aCons (eTup aNil) (aCons (eCall Φ 48 (aCons (eLst (aCons (eC (.int 4)) (aCons (eNeg (eC (.int 2))) aNil))) (aCons (eVar 1) aNil))) aNil))) (aCons (eCall Φ 35 (aCons (eTup aNil) (aCons (eTup aNil) aNil))) aNil))))))) (sSeq (sSet 10 (eBin oAdd (eVar 10) (eLst (aCons (eCall Φ 35 (aCons (eCall Φ 48 (aCons (eLst (aCons (eC (.int 4)) aNil)) (aCons (eVar 1) aNil))) (aCons (eCall Φ 48 (aCons (eLst (aCons (eC (.int 6)) (aCons (eC (.int 2)) aNil))) (aCons (eVar 1) aNil))) aNil))) (aCons (eCall Φ 35 (aCons (eVar 2) (aCons (eVar 3) aNil))) (aCons (eCall Φ 35 (aCons (eTup aNil) (aCons (eCall Φ 48 (aCons (eLst (aCons (eNeg (eC (.int 4))) aNil)) (aCons (eVar 1) aNil))) aNil))) aNil)))))) (sSeq (sSet 11 (eBin oAdd (eVar 11) (eLst (aCons (eVar 7) (aCons (eVar 2) (aCons (eCall Φ 48 (aCons (eLst (aCons (eNeg (eC (.int 2))) (aCons (eC (.int 1)) aNil))) (aCons (eVar 1) aNil))) (aCons (eTup aNil) (aCons (eVar 4) (aCons (eVar 4) (aCons (eVar 4) aNil)))))))))) (sSeq (sSet 10 (eBin oAdd (eVar 10) (eLst (aCons (eCall Φ 36 (aCons (eVar 8) aNil)) (aCons (eCallN Φ 36 0 1 [0] aNil (aCons (eCall Φ 48 (aCons (eLst (aCons (eC (.int 0)) (aCons (eC (.int 0)) (aCons (eC (.int 0)) (aCons (eNeg (eC (.int 5))) aNil))))) (aCons (eVar 1) aNil))) aNil)) (aCons (eCall Φ 36 (aCons (eCall Φ 48 (aCons (eLst (aCons (eNeg (eC (.int 9))) aNil)) (aCons (eVar 1) aNil))) aNil)) (aCons (eCall Φ 36 (aCons (eCall Φ 48 (aCons (eLst (aCons (eC (.int 1)) (aCons (eC (.int 0)) (aCons (eC (.int 2)) (aCons (eC (.int 0)) (aCons (eC (.int 1)) aNil)))))) (aCons (eVar 1) aNil))) aNil)) aNil))))))) (sSeq (sSet 11 (eBin oAdd (eVar 11) (eLst (aCons (eVar 7) (aCons (eCall Φ 48 (aCons (eLst (aCons (eC (.int 0)) (aCons (eC (.int 1)) aNil))) (aCons (eVar 1) aNil))) (aCons (eVar 4) (aCons (eCall Φ 48 (aCons (eLst (aCons (eC (.int 1)) (aCons (eC (.int 0)) (aCons (eC (.int 1)) aNil)))) (aCons (eVar 1) aNil))) aNil))))))) (sSeq (sSet 12 (eCall Φ 48 (aCons (eCall Φ 49 (aCons (eCall Φ 49 (aCons (eLst (aCons (eC (.int 1)) (aCons (eC (.int 2)) (aCons (eC (.int 1)) aNil)))) (aCons (eLst (aCons (eC (.int 1)) (aCons (eC (.int 1)) aNil))) aNil))) (aCons (eLst (aCons (eC (.int 2)) (aCons (eNeg (eC (.int 2))) aNil))) aNil))) (aCons (eVar 1) aNil)))) (sSeq (sSet 10 (eBin oAdd (eVar 10) (eLst (aCons (eCall Φ 37 (aCons (eVar 12) aNil)) (aCons (eCallN Φ 37 0 1 [0] aNil (aCons (eCall Φ 47 (aCons (eVar 0) (aCons (eVar 8) aNil))) aNil)) (aCons (eCall Φ 37 (aCons (eCall Φ 48 (aCons (eLst (aCons (eC (.int 7)) aNil)) (aCons (eVar 1) aNil))) aNil)) (aCons (eCall Φ 37 (aCons (eCall Φ 48 (aCons (eLst (aCons (eC (.int 0)) (aCons (eC (.int 0)) (aCons (eC (.int 0)) (aCons (eC (.int 0)) (aCons (eC (.int 1)) aNil)))))) (aCons (eVar 1) aNil))) aNil)) aNil))))))) (sSeq (sSet 11 (eBin oAdd (eVar 11) (eLst (aCons (eTup (aCons (eVar 3) (aCons (eVar 4) (aCons (eVar 2) aNil)))) (aCons (eTup (aCons (eVar 3) (aCons (eVar 2) aNil))) (aCons (eTup aNil) (aCons (eTup (aCons (eVar 4) (aCons (eVar 4) (aCons (eVar 4) (aCons (eCall Φ 48 (aCons (eLst (aCons (eC (.int 0)) (aCons (eC (.int 1)) aNil))) (aCons (eVar 1) aNil))) aNil))))) aNil))))))) (sSeq (sSet 13 (eCall Φ 38 (aCons (eTup (aCons (eVar 9) (aCons (eVar 7) (aCons (eCall Φ 48 (aCons (eLst (aCons (eC (.int 5)) aNil)) (aCons (eVar 1) aNil))) aNil)))) aNil))) (sSeq (sSet 10 (eBin oAdd (eVar 10) (eLst (aCons (eLst (aCons (eCall Φ 39 (aCons (eTup (aCons (eVar 6) (aCons (eVar 7) (aCons (eCall Φ 48 (aCons (eLst (aCons (eC (.int 5)) aNil)) (aCons (eVar 1) aNil))) aNil)))) (aCons (eVar 13) aNil))) (aCons (eBin oEq (eApp oList (aCons (eVar 13) aNil)) (eApp oSortedD (aCons (eVar 13) aNil))) (aCons (eLc [15] (iSeq (eVar 13)) (gN 15) (eTest (eBin oNin (eVar 15) (eTup (aCons (eVar 2) (aCons (eVar 3) (aCons (eVar 7) aNil)))))) (eVar 15)) aNil)))) aNil)))) (sSeq (sSet 10 (eBin oAdd (eVar 10) (eLst (aCons (eCallN Φ 38 0 1 [0] aNil (aCons (eLst aNil) aNil)) (aCons (eCall Φ 38 (aCons (eTup (aCons (eCall Φ 48 (aCons (eLst (aCons (eC (.int 3)) aNil)) (aCons (eVar 1) aNil))) aNil)) aNil)) aNil))))) (sSeq (sSet 10 (eBin oAdd (eVar 10) (eLst (aCons (eCall Φ 39 (aCons (eTup (aCons (eVar 6) (aCons (eVar 3) aNil))) (aCons (eTup (aCons (eCall Φ 48 (aCons (eLst (aCons (eNeg (eC (.int 2))) (aCons (eNeg (eC (.int 2))) aNil))) (aCons (eVar 1) aNil))) (aCons (eVar 3) aNil))) aNil))) (aCons (eCall Φ 39 (aCons (eCall Φ 47 (aCons (eVar 0) (aCons (eTup (aCons (eVar 6) (aCons (eVar 3) aNil))) aNil))) (aCons (eTup (aCons (eVar 7) aNil)) aNil))) aNil))))) (sSeq (sSet 10 (eBin oAdd (eVar 10) (eLst (aCons (eCallN Φ 39 0 2 [1, 0] aNil (aCons (eTup aNil) (aCons (eTup aNil) aNil))) aNil)))) (sSeq (sSet 11 (eBin oAdd (eVar 11) (eLst (aCons (eLst (aCons (eC (.bl true)) (aCons (eC (.bl true)) (aCons (eLst aNil) aNil)))) (aCons (eTup aNil) (aCons (eTup aNil) (aCons (eC (.bl true)) (aCons (eC (.bl true)) (aCons (eC (.bl true)) aNil))))))))) (sSeq (sSet 14 (eLst (aCons (eTup (aCons (eVar 6) (aCons (eVar 3) aNil))) (aCons (eTup (aCons (eVar 2) aNil)) (aCons (eTup (aCons (eVar 2) (aCons (eVar 3) (aCons (eCall Φ 48 (aCons (eLst (aCons (eC (.int 0)) (aCons (eC (.int 1)) aNil))) (aCons (eVar 1) aNil))) aNil)))) (aCons (eTup (aCons (eVar 2) (aCons (eVar 3) (aCons (eVar 4) aNil)))) (aCons (eTup (aCons (eVar 2) (aCons (eVar 2) (aCons (eVar 3) aNil)))) (aCons (eTup (aCons (eVar 2) (aCons (eVar 7) aNil))) (aCons (eLst (aCons (eVar 2) (aCons (eVar 3) aNil))) (aCons (eC .non) (aCons (eTup aNil) (aCons (eTup (aCons (eApp oList (aCons (eVar 2) aNil)) (aCons (eVar 3) aNil))) (aCons (eTup (aCons (eVar 2) (aCons (eTup aNil) aNil))) aNil))))))))))))) (sSeq (sSet 14 (eBin oAdd (eVar 14) (eLst (aCons (eTup (aCons (eCall Φ 48 (aCons (eLst (aCons (eC (.int 1)) (aCons (eC (.int 1)) aNil))) (aCons (eBin oMod (eApp oIntC (aCons (eBin oAdd (eVar 1) (eC (.int 1))) aNil)) (eC (.int 6))) aNil))) (aCons (eVar 3) aNil))) aNil)))) (sSeq (sSet 10 (eBin oAdd (eVar 10) (eLst (aCons (eLc [15] (iSeq (eVar 14)) (gN 15) tYes' (eCall Φ 39 (aCons (eTup (aCons (eVar 6) (aCons (eVar 3) aNil))) (aCons (eVar 15) aNil)))) (aCons (eCall Φ 39 (aCons (eTup (aCons (eVar 6) aNil)) (aCons (eTup (aCons (eCall Φ 48 (aCons (eLst (aCons (eC (.int 1)) (aCons (eC (.int 1)) aNil))) (aCons (eVar 1) aNil))) aNil)) aNil))) (aCons (eCall Φ 39 (aCons (eTup (aCons (eCall Φ 48 (aCons (eLst (aCons (eC (.int 5)) aNil)) (aCons (eVar 1) aNil))) aNil)) (aCons (eTup aNil) aNil))) aNil)))))) (sRet (eCall Φ 46 (aCons (eVar 10) (aCons (eBin oAdd (eVar 11) (eLst (aCons (eBin oMul (eLst (aCons (eC (.bl false)) aNil)) (eC (.int 12))) (aCons (eC (.bl true)) (aCons (eC (.bl true)) aNil))))) aNil))))))))))))))))))))))))))))))
theorem n__law_told_right_0 : nB N__law_told_right 0 "urn" = true := by decide +kernel
theorem n__law_told_right_1 : nB N__law_told_right 1 "u" = true := by decide +kernel
theorem n__law_told_right_6 : nB N__law_told_right 6 "square" = true := by decide +kernel
theorem n__law_told_right_9 : nB N__law_told_right 9 "soft" = true := by decide +kernel
theorem n__law_told_right_2 : nB N__law_told_right 2 "up" = true := by decide +kernel
theorem n__law_told_right_5 : nB N__law_told_right 5 "cube" = true := by decide +kernel
theorem n__law_told_right_10 : nB N__law_told_right 10 "got" = true := by decide +kernel
theorem n__law_told_right_4 : nB N__law_told_right 4 "one" = true := by decide +kernel
theorem n__law_told_right_11 : nB N__law_told_right 11 "due" = true := by decide +kernel
theorem n__law_told_right_7 : nB N__law_told_right 7 "both" = true := by decide +kernel
theorem n__law_told_right_8 : nB N__law_told_right 8 "much" = true := by decide +kernel
theorem n__law_told_right_3 : nB N__law_told_right 3 "down" = true := by decide +kernel
theorem n__law_told_right_12 : nB N__law_told_right 12 "many" = true := by decide +kernel
theorem n__law_told_right_13 : nB N__law_told_right 13 "parts" = true := by decide +kernel
theorem n__law_told_right_15 : nB N__law_told_right 15 "own" = true := by decide +kernel
theorem n__law_told_right_14 : nB N__law_told_right 14 "things" = true := by decide +kernel
theorem sc__law_told_right : FnScope N__law_told_right P__law_told_right (defScope s__law_told_right) := ⟨rfl, rfl, rfl, by decide +kernel, rfl, by decide +kernel, by decide +kernel⟩
theorem e__law_told_right {P : Program} {w : World} {K : PySem.W.Frag} {mg : Str → Option Value} {base : Heap} {cl : Nat → Addr} {Φ : Fn} {k : Nat} (F : Fx K mg cl) (O : Ow P w K mg base cl Φ k) : ESs (bodyCf P w K mg base cl k (defScope s__law_told_right) N__law_told_right) (defBody s__law_told_right) (b__law_told_right Φ) :=
  (ss_cons (s_set 1 (v_call O.f__law_take rfl (x_cons (v_varN 0 n__law_told_right_0 (.inl rfl)) (x_cons v_int x_nil)) rfl) ⟨rfl, (.inl rfl), .inl rfl⟩ rfl) (ss_cons (s_asg (v_tup (x_cons (v_call O.f__law_uni rfl (x_cons (v_lst (x_cons v_int (x_cons v_int x_nil))) (x_cons (v_varN 1 n__law_told_right_1 (.inl rfl)) x_nil)) rfl) (x_cons (v_call O.f__law_uni rfl (x_cons (v_lst (x_cons (v_neg v_int) (x_cons v_int x_nil))) (x_cons (v_varN 1 n__law_told_right_1 (.inl rfl)) x_nil)) rfl) (x_cons (v_call O.f__law_uni rfl (x_cons (v_lst (x_cons v_int x_nil)) (x_cons (v_varN 1 n__law_told_right_1 (.inl rfl)) x_nil)) rfl) (x_cons (v_call O.f__law_uni rfl (x_cons (v_lst (x_cons v_int (x_cons v_int (x_cons v_int (x_cons v_int x_nil))))) (x_cons (v_varN 1 n__law_told_right_1 (.inl rfl)) x_nil)) rfl) x_nil))))) (g_tup (n := 4) rfl (gs_cons (g_name 2 ⟨rfl, (.inr rfl), (.inl rfl)⟩ rfl) (gs_cons (g_name 3 ⟨rfl, (.inr rfl), (.inl rfl)⟩ rfl) (gs_cons (g_name 4 ⟨rfl, (.inl rfl), (.inl rfl)⟩ rfl) (gs_cons (g_name 5 ⟨rfl, (.inl rfl), (.inl rfl)⟩ rfl) gs_nil)))) (hl := (li_cons (pu_name 2) (li_cons (pu_name 3) (li_cons (pu_name 4) (li_cons (pu_name 5) li_nil)))))) (hw := fun env he => sw_none (by rw [he]; rfl))) (ss_cons (s_asg (v_tup (x_cons (v_call O.f__law_uni rfl (x_cons (v_lst (x_cons v_int (x_cons v_int (x_cons v_int x_nil)))) (x_cons (v_varN 1 n__law_told_right_1 (.inl rfl)) x_nil)) rfl) (x_cons (v_call O.f__law_uni rfl (x_cons (v_lst (x_cons (v_neg v_int) (x_cons v_int (x_cons v_int x_nil)))) (x_cons (v_varN 1 n__law_told_right_1 (.inl rfl)) x_nil)) rfl) (x_cons (v_call O.f__law_uni rfl (x_cons (v_lst (x_cons (v_neg v_int) (x_cons (v_neg v_int) (x_cons v_int (x_cons v_int x_nil))))) (x_cons (v_varN 1 n__law_told_right_1 (.inl rfl)) x_nil)) rfl) x_nil)))) (g_tup (n := 3) rfl (gs_cons (g_name 6 ⟨rfl, (.inr rfl), (.inl rfl)⟩ rfl) (gs_cons (g_name 7 ⟨rfl, (.inr rfl), (.inl rfl)⟩ rfl) (gs_cons (g_name 8 ⟨rfl, (.inl rfl), (.inl rfl)⟩ rfl) gs_nil))) (hl := (li_cons (pu_name 6) (li_cons (pu_name 7) (li_cons (pu_name 8) li_nil))))) (hw := fun env he => sw_none (by rw [he]; rfl))) (ss_cons (s_set 9 (v_call O.f__law_mixed rfl (x_cons (v_varN 0 n__law_told_right_0 (.inl rfl)) (x_cons (v_varN 6 n__law_told_right_6 (.inr (.inl rfl))) x_nil)) rfl) ⟨rfl, (.inl rfl), .inl rfl⟩ rfl) (ss_cons (s_set 10 (v_lst (x_cons (v_call O.f_uni_divided rfl (x_cons (v_varN 5 n__law_told_right_5 (.inl rfl)) (x_cons (v_call O.f__law_uni rfl (x_cons (v_lst (x_cons (v_neg v_int) (x_cons v_int x_nil))) (x_cons (v_varN 1 n__law_told_right_1 (.inl rfl)) x_nil)) rfl) x_nil)) rfl) (x_cons (v_callKj0 O.k_uni_divided_0_other_one rfl rfl (k_cons (v_varN 2 n__law_told_right_2 (.inr (.inl rfl))) (k_cons (v_tup x_nil) k_nil)) rfl) (x_cons (v_call O.f_uni_divided rfl (x_cons (v_call O.f__law_uni rfl (x_cons (v_lst (x_cons v_int x_nil)) (x_cons (v_varN 1 n__law_told_right_1 (.inl rfl)) x_nil)) rfl) (x_cons (v_varN 2 n__law_told_right_2 (.inr (.inl rfl))) x_nil)) rfl) (x_cons (v_call O.f_uni_divided rfl (x_cons (v_varN 9 n__law_told_right_9 (.inl rfl)) (x_cons (v_call O.f__law_uni rfl (x_cons (v_lst (x_cons v_int (x_cons v_int x_nil))) (x_cons (v_varN 1 n__law_told_right_1 (.inl rfl)) x_nil)) rfl) x_nil)) rfl) x_nil))))) ⟨rfl, (.inl rfl), .inl rfl⟩ rfl) (ss_cons (s_set 10 (v_add (v_varN 10 n__law_told_right_10 (.inl rfl)) (v_lst (x_cons (v_call O.f_uni_divided rfl (x_cons (v_call O.f__law_uni rfl (x_cons (v_lst (x_cons v_int (x_cons v_int x_nil))) (x_cons (v_varN 1 n__law_told_right_1 (.inl rfl)) x_nil)) rfl) (x_cons (v_call O.f__law_uni rfl (x_cons (v_lst (x_cons (v_neg v_int) x_nil)) (x_cons (v_varN 1 n__law_told_right_1 (.inl rfl)) x_nil)) rfl) x_nil)) rfl) x_nil))) ⟨rfl, (.inl rfl), .inl rfl⟩ rfl) (ss_cons (s_set 11 (v_lst (x_cons (v_tup (x_cons v_int (x_cons (v_call O.f__law_uni rfl (x_cons (v_lst (x_cons v_int (x_cons v_int (x_cons v_int x_nil)))) (x_cons (v_varN 1 n__law_told_right_1 (.inl rfl)) x_nil)) rfl) (x_cons (v_varN 4 n__law_told_right_4 (.inl rfl)) x_nil)))) (x_cons (v_tup (x_cons v_int (x_cons (v_tup x_nil) (x_cons (v_tup x_nil) x_nil)))) (x_cons (v_tup (x_cons v_int (x_cons (v_tup x_nil) (x_cons (v_call O.f__law_uni rfl (x_cons (v_lst (x_cons v_int x_nil)) (x_cons (v_varN 1 n__law_told_right_1 (.inl rfl)) x_nil)) rfl) x_nil)))) (x_cons (v_tup (x_cons v_int (x_cons (v_call O.f__law_uni rfl (x_cons (v_lst (x_cons v_int (x_cons v_int x_nil))) (x_cons (v_varN 1 n__law_told_right_1 (.inl rfl)) x_nil)) rfl) (x_cons (v_tup x_nil) x_nil)))) (x_cons (v_tup (x_cons v_int (x_cons (v_call O.f__law_uni rfl (x_cons (v_lst (x_cons (v_neg v_int) (x_cons (v_neg v_int) x_nil))) (x_cons (v_varN 1 n__law_told_right_1 (.inl rfl)) x_nil)) rfl) (x_cons (v_tup x_nil) x_nil)))) x_nil)))))) ⟨rfl, (.inl rfl), .inl rfl⟩ rfl) (ss_cons (s_set 10 (v_add (v_varN 10 n__law_told_right_10 (.inl rfl)) (v_lst (x_cons (v_call O.f_uni_divides rfl (x_cons (v_call O.f__law_uni rfl (x_cons (v_lst (x_cons v_int (x_cons v_int x_nil))) (x_cons (v_varN 1 n__law_told_right_1 (.inl rfl)) x_nil)) rfl) (x_cons (v_varN 9 n__law_told_right_9 (.inl rfl)) x_nil)) rfl) (x_cons (v_call O.f_uni_divides rfl (x_cons (v_varN 6 n__law_told_right_6 (.inr (.inl rfl))) (x_cons (v_varN 2 n__law_told_right_2 (.inr (.inl rfl))) x_nil)) rfl) (x_cons (v_callKj0 O.k_uni_divides_0_other_one rfl rfl (k_cons (v_tup x_nil) (k_cons (v_varN 2 n__law_told_right_2 (.inr (.inl rfl))) k_nil)) rfl) (x_cons (v_call O.f_uni_divides rfl (x_cons (v_call O.f__law_uni rfl (x_cons (v_lst (x_cons v_int x_nil)) (x_cons (v_varN 1 n__law_told_right_1 (.inl rfl)) x_nil)) rfl) (x_cons (v_varN 2 n__law_told_right_2 (.inr (.inl rfl))) x_nil)) rfl) (x_cons (v_call O.f_uni_divides rfl (x_cons (v_varN 2 n__law_told_right_2 (.inr (.inl rfl))) (x_cons (v_call O.f__law_uni rfl (x_cons (v_lst (x_cons v_int x_nil)) (x_cons (v_varN 1 n__law_told_right_1 (.inl rfl)) x_nil)) rfl) x_nil)) rfl) x_nil))))))) ⟨rfl, (.inl rfl), .inl rfl⟩ rfl) (ss_cons (s_set 11 (v_add (v_varN 11 n__law_told_right_11 (.inl rfl)) (v_lst (x_cons v_bl (x_cons v_bl (x_cons v_bl (x_cons v_bl (x_cons v_bl x_nil))))))) ⟨rfl, (.inl rfl), .inl rfl⟩ rfl) (ss_cons (s_set 10 (v_add (v_varN 10 n__law_told_right_10 (.inl rfl)) (v_lst (x_cons (v_call O.f_uni_common rfl (x_cons (v_varN 8 n__law_told_right_8 (.inl rfl)) (x_cons (v_call O.f__law_uni rfl (x_cons (v_lst (x_cons v_int (x_cons v_int (x_cons (v_neg v_int) x_nil)))) (x_cons (v_varN 1 n__law_told_right_1 (.inl rfl)) x_nil)) rfl) x_nil)) rfl) (x_cons (v_callKj0 O.k_uni_common_0_other_one rfl rfl (k_cons (v_varN 9 n__law_told_right_9 (.inl rfl)) (k_cons (v_varN 7 n__law_told_right_7 (.inr (.inl rfl))) k_nil)) rfl) (x_cons (v_call O.f_uni_common rfl (x_cons (v_tup x_nil) (x_cons (v_call O.f__law_uni rfl (x_cons (v_lst (x_cons v_int (x_cons (v_neg v_int) x_nil))) (x_cons (v_varN 1 n__law_told_right_1 (.inl rfl)) x_nil)) rfl) x_nil)) rfl) (x_cons (v_call O.f_uni_common rfl (x_cons (v_tup x_nil) (x_cons (v_tup x_nil) x_nil)) rfl) x_nil)))))) ⟨rfl, (.inl rfl), .inl rfl⟩ rfl) (ss_cons (s_set 10 (v_add (v_varN 10 n__law_told_right_10 (.inl rfl)) (v_lst (x_cons (v_call O.f_uni_common rfl (x_cons (v_call O.f__law_uni rfl (x_cons (v_lst (x_cons v_int x_nil)) (x_cons (v_varN 1 n__law_told_right_1 (.inl rfl)) x_nil)) rfl) (x_cons (v_call O.f__law_uni rfl (x_cons (v_lst (x_cons v_int (x_cons v_int x_nil))) (x_cons (v_varN 1 n__law_told_right_1 (.inl rfl)) x_nil)) rfl) x_nil)) rfl) (x_cons (v_call O.f_uni_common rfl (x_cons (v_varN 2 n__law_told_right_2 (.inr (.inl rfl))) (x_cons (v_varN 3 n__law_told_right_3 (.inr (.inl rfl))) x_nil)) rfl) (x_cons (v_call O.f_uni_common rfl (x_cons (v_tup x_nil) (x_cons (v_call O.f__law_uni rfl (x_cons (v_lst (x_cons (v_neg v_int) x_nil)) (x_cons (v_varN 1 n__law_told_right_1 (.inl rfl)) x_nil)) rfl) x_nil)) rfl) x_nil))))) ⟨rfl, (.inl rfl), .inl rfl⟩ rfl) (ss_cons (s_set 11 (v_add (v_varN 11 n__law_told_right_11 (.inl rfl)) (v_lst (x_cons (v_varN 7 n__law_told_right_7 (.inr (.inl rfl))) (x_cons (v_varN 2 n__law_told_right_2 (.inr (.inl rfl))) (x_cons (v_call O.f__law_uni rfl (x_cons (v_lst (x_cons (v_neg v_int) (x_cons v_int x_nil))) (x_cons (v_varN 1 n__law_told_right_1 (.inl rfl)) x_nil)) rfl) (x_cons (v_tup x_nil) (x_cons (v_varN 4 n__law_told_right_4 (.inl rfl)) (x_cons (v_varN 4 n__law_told_right_4 (.inl rfl)) (x_cons (v_varN 4 n__law_told_right_4 (.inl rfl)) x_nil))))))))) ⟨rfl, (.inl rfl), .inl rfl⟩ rfl) (ss_cons (s_set 10 (v_add (v_varN 10 n__law_told_right_10 (.inl rfl)) (v_lst (x_cons (v_call O.f_uni_single rfl (x_cons (v_varN 8 n__law_told_right_8 (.inl rfl)) x_nil) rfl) (x_cons (v_callKj0 O.k_uni_single_0_poly rfl rfl (k_cons (v_call O.f__law_uni rfl (x_cons (v_lst (x_cons v_int (x_cons v_int (x_cons v_int (x_cons (v_neg v_int) x_nil))))) (x_cons (v_varN 1 n__law_told_right_1 (.inl rfl)) x_nil)) rfl) k_nil) rfl) (x_cons (v_call O.f_uni_single rfl (x_cons (v_call O.f__law_uni rfl (x_cons (v_lst (x_cons (v_neg v_int) x_nil)) (x_cons (v_varN 1 n__law_told_right_1 (.inl rfl)) x_nil)) rfl) x_nil) rfl) (x_cons (v_call O.f_uni_single rfl (x_cons (v_call O.f__law_uni rfl (x_cons (v_lst (x_cons v_int (x_cons v_int (x_cons v_int (x_cons v_int (x_cons v_int x_nil)))))) (x_cons (v_varN 1 n__law_told_right_1 (.inl rfl)) x_nil)) rfl) x_nil) rfl) x_nil)))))) ⟨rfl, (.inl rfl), .inl rfl⟩ rfl) (ss_cons (s_set 11 (v_add (v_varN 11 n__law_told_right_11 (.inl rfl)) (v_lst (x_cons (v_varN 7 n__law_told_right_7 (.inr (.inl rfl))) (x_cons (v_call O.f__law_uni rfl (x_cons (v_lst (x_cons v_int (x_cons v_int x_nil))) (x_cons (v_varN 1 n__law_told_right_1 (.inl rfl)) x_nil)) rfl) (x_cons (v_varN 4 n__law_told_right_4 (.inl rfl)) (x_cons (v_call O.f__law_uni rfl (x_cons (v_lst (x_cons v_int (x_cons v_int (x_cons v_int x_nil)))) (x_cons (v_varN 1 n__law_told_right_1 (.inl rfl)) x_nil)) rfl) x_nil)))))) ⟨rfl, (.inl rfl), .inl rfl⟩ rfl) (ss_cons (s_set 12 (v_call O.f__law_uni rfl (x_cons (v_call O.f__law_times rfl (x_cons (v_call O.f__law_times rfl (x_cons (v_lst (x_cons v_int (x_cons v_int (x_cons v_int x_nil)))) (x_cons (v_lst (x_cons v_int (x_cons v_int x_nil))) x_nil)) rfl) (x_cons (v_lst (x_cons v_int (x_cons (v_neg v_int) x_nil))) x_nil)) rfl) (x_cons (v_varN 1 n__law_told_right_1 (.inl rfl)) x_nil)) rfl) ⟨rfl, (.inl rfl), .inl rfl⟩ rfl) (ss_cons (s_set 10 (v_add (v_varN 10 n__law_told_right_10 (.inl rfl)) (v_lst (x_cons (v_call O.f_uni_layers rfl (x_cons (v_varN 12 n__law_told_right_12 (.inl rfl)) x_nil) rfl) (x_cons (v_callKj0 O.k_uni_layers_0_poly rfl rfl (k_cons (v_call O.f__law_mixed rfl (x_cons (v_varN 0 n__law_told_right_0 (.inl rfl)) (x_cons (v_varN 8 n__law_told_right_8 (.inl rfl)) x_nil)) rfl) k_nil) rfl) (x_cons (v_call O.f_uni_layers rfl (x_cons (v_call O.f__law_uni rfl (x_cons (v_lst (x_cons v_int x_nil)) (x_cons (v_varN 1 n__law_told_right_1 (.inl rfl)) x_nil)) rfl) x_nil) rfl) (x_cons (v_call O.f_uni_layers rfl (x_cons (v_call O.f__law_uni rfl (x_cons (v_lst (x_cons v_int (x_cons v_int (x_cons v_int (x_cons v_int (x_cons v_int x_nil)))))) (x_cons (v_varN 1 n__law_told_right_1 (.inl rfl)) x_nil)) rfl) x_nil) rfl) x_nil)))))) ⟨rfl, (.inl rfl), .inl rfl⟩ rfl) (ss_cons (s_set 11 (v_add (v_varN 11 n__law_told_right_11 (.inl rfl)) (v_lst (x_cons (v_tup (x_cons (v_varN 3 n__law_told_right_3 (.inr (.inl rfl))) (x_cons (v_varN 4 n__law_told_right_4 (.inl rfl)) (x_cons (v_varN 2 n__law_told_right_2 (.inr (.inl rfl))) x_nil)))) (x_cons (v_tup (x_cons (v_varN 3 n__law_told_right_3 (.inr (.inl rfl))) (x_cons (v_varN 2 n__law_told_right_2 (.inr (.inl rfl))) x_nil))) (x_cons (v_tup x_nil) (x_cons (v_tup (x_cons (v_varN 4 n__law_told_right_4 (.inl rfl)) (x_cons (v_varN 4 n__law_told_right_4 (.inl rfl)) (x_cons (v_varN 4 n__law_told_right_4 (.inl rfl)) (x_cons (v_call O.f__law_uni rfl (x_cons (v_lst (x_cons v_int (x_cons v_int x_nil))) (x_cons (v_varN 1 n__law_told_right_1 (.inl rfl)) x_nil)) rfl) x_nil))))) x_nil)))))) ⟨rfl, (.inl rfl), .inl rfl⟩ rfl) (ss_cons (s_set 13 (v_call O.f_uni_parted rfl (x_cons (v_tup (x_cons (v_varN 9 n__law_told_right_9 (.inl rfl)) (x_cons (v_varN 7 n__law_told_right_7 (.inr (.inl rfl))) (x_cons (v_call O.f__law_uni rfl (x_cons (v_lst (x_cons v_int x_nil)) (x_cons (v_varN 1 n__law_told_right_1 (.inl rfl)) x_nil)) rfl) x_nil)))) x_nil) rfl) ⟨rfl, (.inl rfl), .inl rfl⟩ rfl) (ss_cons (s_set 10 (v_add (v_varN 10 n__law_told_right_10 (.inl rfl)) (v_lst (x_cons (v_lst (x_cons (v_call O.f_is_uni_parting rfl (x_cons (v_tup (x_cons (v_varN 6 n__law_told_right_6 (.inr (.inl rfl))) (x_cons (v_varN 7 n__law_told_right_7 (.inr (.inl rfl))) (x_cons (v_call O.f__law_uni rfl (x_cons (v_lst (x_cons v_int x_nil)) (x_cons (v_varN 1 n__law_told_right_1 (.inl rfl)) x_nil)) rfl) x_nil)))) (x_cons (v_varN 13 n__law_told_right_13 (.inl rfl)) x_nil)) rfl) (x_cons (v_eq (v_bty r_list (x_cons (v_varN 13 n__law_told_right_13 (.inl rfl)) x_nil) rfl F.b_list bt_list) (v_blt (r_sortedD rfl) (x_cons (v_varN 13 n__law_told_right_13 (.inl rfl)) x_nil) rfl F.b_sorted bt_sorted)) (x_cons (v_lc (own := [("own", 15)]) rfl (i_seq (v_varN 13 n__law_told_right_13 (.inl rfl))) (by show blkC N__law_told_right (defScope s__law_told_right) _ _ = true; decide +kernel) (g_name 15 ⟨rfl, (.inl rfl), (.inr rfl)⟩ rfl) (ts_one (t_nin (v_varN 15 n__law_told_right_15 (.inl rfl)) (v_tup (x_cons (v_varN 2 n__law_told_right_2 (.inr (.inl rfl))) (x_cons (v_varN 3 n__law_told_right_3 (.inr (.inl rfl))) (x_cons (v_varN 7 n__law_told_right_7 (.inr (.inl rfl))) x_nil)))))) (v_varN 15 n__law_told_right_15 (.inl rfl)) (by decide +kernel)) x_nil)))) x_nil))) ⟨rfl, (.inl rfl), .inl rfl⟩ rfl) (ss_cons (s_set 10 (v_add (v_varN 10 n__law_told_right_10 (.inl rfl)) (v_lst (x_cons (v_callKj0 O.k_uni_parted_0_polys rfl rfl (k_cons (v_lst x_nil) k_nil) rfl) (x_cons (v_call O.f_uni_parted rfl (x_cons (v_tup (x_cons (v_call O.f__law_uni rfl (x_cons (v_lst (x_cons v_int x_nil)) (x_cons (v_varN 1 n__law_told_right_1 (.inl rfl)) x_nil)) rfl) x_nil)) x_nil) rfl) x_nil)))) ⟨rfl, (.inl rfl), .inl rfl⟩ rfl) (ss_cons (s_set 10 (v_add (v_varN 10 n__law_told_right_10 (.inl rfl)) (v_lst (x_cons (v_call O.f_is_uni_parting rfl (x_cons (v_tup (x_cons (v_varN 6 n__law_told_right_6 (.inr (.inl rfl))) (x_cons (v_varN 3 n__law_told_right_3 (.inr (.inl rfl))) x_nil))) (x_cons (v_tup (x_cons (v_call O.f__law_uni rfl (x_cons (v_lst (x_cons (v_neg v_int) (x_cons (v_neg v_int) x_nil))) (x_cons (v_varN 1 n__law_told_right_1 (.inl rfl)) x_nil)) rfl) (x_cons (v_varN 3 n__law_told_right_3 (.inr (.inl rfl))) x_nil))) x_nil)) rfl) (x_cons (v_call O.f_is_uni_parting rfl (x_cons (v_call O.f__law_mixed rfl (x_cons (v_varN 0 n__law_told_right_0 (.inl rfl)) (x_cons (v_tup (x_cons (v_varN 6 n__law_told_right_6 (.inr (.inl rfl))) (x_cons (v_varN 3 n__law_told_right_3 (.inr (.inl rfl))) x_nil))) x_nil)) rfl) (x_cons (v_tup (x_cons (v_varN 7 n__law_told_right_7 (.inr (.inl rfl))) x_nil)) x_nil)) rfl) x_nil)))) ⟨rfl, (.inl rfl), .inl rfl⟩ rfl) (ss_cons (s_set 10 (v_add (v_varN 10 n__law_told_right_10 (.inl rfl)) (v_lst (x_cons (v_callKj0 O.k_is_uni_parting_0_thing_polys rfl rfl (k_cons (v_tup x_nil) (k_cons (v_tup x_nil) k_nil)) rfl) x_nil))) ⟨rfl, (.inl rfl), .inl rfl⟩ rfl) (ss_cons (s_set 11 (v_add (v_varN 11 n__law_told_right_11 (.inl rfl)) (v_lst (x_cons (v_lst (x_cons v_bl (x_cons v_bl (x_cons (v_lst x_nil) x_nil)))) (x_cons (v_tup x_nil) (x_cons (v_tup x_nil) (x_cons v_bl (x_cons v_bl (x_cons v_bl x_nil)))))))) ⟨rfl, (.inl rfl), .inl rfl⟩ rfl) (ss_cons (s_set 14 (v_lst (x_cons (v_tup (x_cons (v_varN 6 n__law_told_right_6 (.inr (.inl rfl))) (x_cons (v_varN 3 n__law_told_right_3 (.inr (.inl rfl))) x_nil))) (x_cons (v_tup (x_cons (v_varN 2 n__law_told_right_2 (.inr (.inl rfl))) x_nil)) (x_cons (v_tup (x_cons (v_varN 2 n__law_told_right_2 (.inr (.inl rfl))) (x_cons (v_varN 3 n__law_told_right_3 (.inr (.inl rfl))) (x_cons (v_call O.f__law_uni rfl (x_cons (v_lst (x_cons v_int (x_cons v_int x_nil))) (x_cons (v_varN 1 n__law_told_right_1 (.inl rfl)) x_nil)) rfl) x_nil)))) (x_cons (v_tup (x_cons (v_varN 2 n__law_told_right_2 (.inr (.inl rfl))) (x_cons (v_varN 3 n__law_told_right_3 (.inr (.inl rfl))) (x_cons (v_varN 4 n__law_told_right_4 (.inl rfl)) x_nil)))) (x_cons (v_tup (x_cons (v_varN 2 n__law_told_right_2 (.inr (.inl rfl))) (x_cons (v_varN 2 n__law_told_right_2 (.inr (.inl rfl))) (x_cons (v_varN 3 n__law_told_right_3 (.inr (.inl rfl))) x_nil)))) (x_cons (v_tup (x_cons (v_varN 2 n__law_told_right_2 (.inr (.inl rfl))) (x_cons (v_varN 7 n__law_told_right_7 (.inr (.inl rfl))) x_nil))) (x_cons (v_lst (x_cons (v_varN 2 n__law_told_right_2 (.inr (.inl rfl))) (x_cons (v_varN 3 n__law_told_right_3 (.inr (.inl rfl))) x_nil))) (x_cons v_non (x_cons (v_tup x_nil) (x_cons (v_tup (x_cons (v_bty r_list (x_cons (v_varN 2 n__law_told_right_2 (.inr (.inl rfl))) x_nil) rfl F.b_list bt_list) (x_cons (v_varN 3 n__law_told_right_3 (.inr (.inl rfl))) x_nil))) (x_cons (v_tup (x_cons (v_varN 2 n__law_told_right_2 (.inr (.inl rfl))) (x_cons (v_tup x_nil) x_nil))) x_nil)))))))))))) ⟨rfl, (.inl rfl), .inl rfl⟩ rfl) (ss_cons (s_set 14 (v_add (v_varN 14 n__law_told_right_14 (.inl rfl)) (v_lst (x_cons (v_tup (x_cons (v_call O.f__law_uni rfl (x_cons (v_lst (x_cons v_int (x_cons v_int x_nil))) (x_cons (v_mod (v_bty r_int (x_cons (v_add (v_varN 1 n__law_told_right_1 (.inl rfl)) v_int) x_nil) rfl F.b_int bt_int) v_int) x_nil)) rfl) (x_cons (v_varN 3 n__law_told_right_3 (.inr (.inl rfl))) x_nil))) x_nil))) ⟨rfl, (.inl rfl), .inl rfl⟩ rfl) (ss_cons (s_set 10 (v_add (v_varN 10 n__law_told_right_10 (.inl rfl)) (v_lst (x_cons (v_lc (own := [("own", 15)]) rfl (i_seq (v_varN 14 n__law_told_right_14 (.inl rfl))) (by show blkC N__law_told_right (defScope s__law_told_right) _ _ = true; decide +kernel) (g_name 15 ⟨rfl, (.inl rfl), (.inr rfl)⟩ rfl) ts_nil (v_call O.f_is_uni_parting rfl (x_cons (v_tup (x_cons (v_varN 6 n__law_told_right_6 (.inr (.inl rfl))) (x_cons (v_varN 3 n__law_told_right_3 (.inr (.inl rfl))) x_nil))) (x_cons (v_varN 15 n__law_told_right_15 (.inl rfl)) x_nil)) rfl) (by decide +kernel)) (x_cons (v_call O.f_is_uni_parting rfl (x_cons (v_tup (x_cons (v_varN 6 n__law_told_right_6 (.inr (.inl rfl))) x_nil)) (x_cons (v_tup (x_cons (v_call O.f__law_uni rfl (x_cons (v_lst (x_cons v_int (x_cons v_int x_nil))) (x_cons (v_varN 1 n__law_told_right_1 (.inl rfl)) x_nil)) rfl) x_nil)) x_nil)) rfl) (x_cons (v_call O.f_is_uni_parting rfl (x_cons (v_tup (x_cons (v_call O.f__law_uni rfl (x_cons (v_lst (x_cons v_int x_nil)) (x_cons (v_varN 1 n__law_told_right_1 (.inl rfl)) x_nil)) rfl) x_nil)) (x_cons (v_tup x_nil) x_nil)) rfl) x_nil))))) ⟨rfl, (.inl rfl), .inl rfl⟩ rfl) (ss_one (s_ret (v_call O.f__law_same rfl (x_cons (v_varN 10 n__law_told_right_10 (.inl rfl)) (x_cons (v_add (v_varN 11 n__law_told_right_11 (.inl rfl)) (v_lst (x_cons (v_mul (v_lst (x_cons v_bl x_nil)) v_int) (x_cons v_bl (x_cons v_bl x_nil))))) x_nil)) rfl)))))))))))))))))))))))))))))
abbrev N_law : List Str := ["script", "cells_so", "urn", "up", "wide", "got", "due", "bads", "bad", "door"]
abbrev P_law : List Str := ["script"]
def b_law (Φ : Fn) : EvS := (sSeq (sSet 1 (eCall Φ 45 (aCons (eVar 0) (aCons (eC (.int 1)) aNil)))) (sSeq (sSet 2 (eCall Φ 43 (aCons (eVar 1) (aCons (eC (.int 0)) aNil)))) (sSeq (sIf (eTest (eBin oGt (eCall Φ 44 (aCons (eVar 2) (aCons (eC (.int 3)) aNil))) (eC (.int 0)))) (sRet (eCall Φ 51 (aCons (eVar 2) aNil))) sNil) (sSeq (sAsg (eTup (aCons (eCall Φ 48 (aCons (eLst (aCons (eC (.int 1)) (aCons (eC (.int 1)) aNil))) (aCons (eC (.int 0)) aNil))) (aCons (eTup (aCons (eTup (aCons (eTup (aCons (eC (.int 0)) (aCons (eC (.int 1)) aNil))) (aCons (eC (.int 1)) aNil))) (aCons (eTup (aCons (eTup (aCons (eC (.int 1)) aNil)) (aCons (eC (.int 1)) aNil))) aNil))) (aCons (eLst aNil) (aCons (eLst aNil) aNil))))) (gT (gsCons (gN 3) (gsCons (gN 4) (gsCons (gN 5) (gsCons (gN 6) gsNil)))))) (sSeq (sSet 7 (eLst (aCons (eC .non) (aCons (eC (.int 5)) (aCons (eC (.str "x")) (aCons (eTup (aCons (eTup (aCons (eTup aNil) (aCons (eC (.int 0)) aNil))) aNil)) (aCons (eTup (aCons (eTup (aCons (eTup (aCons (eC (.int 0)) aNil)) (aCons (eC (.int 1)) aNil))) aNil)) (aCons (eTup (aCons (eTup (aCons (eTup (aCons (eC (.int 1)) aNil)) (aCons (eC (.int 1)) aNil))) (aCons (eTup (aCons (eTup aNil) (aCons (eC (.int 1)) aNil))) aNil))) (aCons (eTup (aCons (eTup (aCons (eTup (aCons (eC (.int 1)) aNil)) (aCons (eC (.bl true)) aNil))) aNil)) (aCons (eVar 4) (aCons (eTup (aCons (eTup (aCons (eTup (aCons (eC (.int 1)) aNil)) (aCons (eC (.int 1)) aNil))) (aCons (eTup (aCons (eTup (aCons (eC (.int 1)) aNil)) (aCons (eC (.int 2)) aNil))) aNil))) (aCons (eTup (aCons (eTup (aCons (eTup (aCons (eC (.int 0)) (aCons (eC (.int 0)) (aCons (eC (.int 0)) (aCons (eC (.int 0)) (aCons (eC (.int 0)) (aCons (eC (.int 0)) (aCons (eC (.int 1)) aNil)))))))) (aCons (eC (.int 1)) aNil))) aNil)) aNil)))))))))))) (sSeq (sFor (iSeq (eVar 7)) (gN 8) (sSeq (sSet 5 (eBin oAdd (eBin oAdd (eBin oAdd (eVar 5) (eLc [9] (iSeq (eTup (aCons (eC (.int 0)) (aCons (eC (.int 1)) (aCons (eC (.int 2)) (aCons (eC (.int 3)) (aCons (eC (.int 4)) (aCons (eC (.int 5)) aNil)))))))) (gN 9) tYes' (eCall Φ 50 (aCons (eVar 9) (aCons (eVar 8) (aCons (eVar 3) aNil)))))) (eLc [9] (iSeq (eTup (aCons (eC (.int 0)) (aCons (eC (.int 1)) (aCons (eC (.int 2)) aNil))))) (gN 9) tYes' (eCall Φ 50 (aCons (eVar 9) (aCons (eVar 3) (aCons (eVar 8) aNil)))))) (eLc [9] (iSeq (eTup (aCons (eC (.int 5)) (aCons (eC (.int 6)) aNil)))) (gN 9) tYes' (eCall Φ 50 (aCons (eVar 9) (aCons (eTup (aCons (eVar 3) (aCons (eVar 8) aNil))) (aCons (eTup aNil) aNil))))))) (sSet 6 (eBin oAdd (eVar 6) (eBin oMul (eLst (aCons (eLst (aCons (eC (.str "Unfit")) (aCons (eC .non) aNil))) aNil)) (eC (.int 11))))))) (sSeq (sSet 5 (eBin oAdd (eBin oAdd (eVar 5) (eLc [9] (iSeq (eTup (aCons (eC (.int 0)) (aCons (eC (.int 1)) (aCons (eC (.int 2)) aNil))))) (gN 9) tYes' (eCall Φ 50 (aCons (eVar 9) (aCons (eVar 3) (aCons (eCall Φ 48 (aCons (eLst (aCons (eC (.int 1)) (aCons (eC (.int 1)) aNil))) (aCons (eC (.int 1)) aNil))) aNil)))))) (eLc [9] (iSeq (eTup (aCons (eC (.int 5)) (aCons (eC (.int 6)) aNil)))) (gN 9) tYes' (eCall Φ 50 (aCons (eVar 9) (aCons (eTup (aCons (eVar 3) (aCons (eCall Φ 48 (aCons (eLst (aCons (eC (.int 1)) (aCons (eC (.int 1)) aNil))) (aCons (eC (.int 1)) aNil))) aNil))) (aCons (eTup aNil) aNil))))))) (sSeq (sSet 6 (eBin oAdd (eVar 6) (eBin oMul (eLst (aCons (eLst (aCons (eC (.str "Unfit")) (aCons (eC .non) aNil))) aNil)) (eC (.int 5))))) (sSeq (sSet 5 (eBin oAdd (eVar 5) (eLst (aCons (eCall Φ 50 (aCons (eC (.int 0)) (aCons (eVar 3) (aCons (eTup aNil) aNil)))) (aCons (eCall Φ 50 (aCons (eC (.int 0)) (aCons (eTup aNil) (aCons (eTup aNil) aNil)))) (aCons (eCall Φ 50 (aCons (eC (.int 1)) (aCons (eTup aNil) (aCons (eVar 3) aNil)))) (aCons (eCall Φ 50 (aCons (eC (.int 3)) (aCons (eTup aNil) (aCons (eC .non) aNil)))) (aCons (eCall Φ 50 (aCons (eC (.int 4)) (aCons (eTup aNil) (aCons (eC .non) aNil)))) (aCons (eCall Φ 50 (aCons (eC (.int 5)) (aCons (eTup (aCons (eVar 3) (aCons (eTup aNil) aNil))) (aCons (eC .non) aNil)))) (aCons (eCall Φ 50 (aCons (eC (.int 6)) (aCons (eTup (aCons (eTup aNil) aNil)) (aCons (eTup aNil) aNil)))) aNil)))))))))) (sRet (eCall Φ 46 (aCons (eVar 5) (aCons (eBin oAdd (eVar 6) (eBin oMul (eLst (aCons (eLst (aCons (eC (.str "CanNot")) (aCons (eC .non) aNil))) aNil)) (eC (.int 7)))) aNil)))))))))))))
theorem n_law_0 : nB N_law 0 "script" = true := by decide +kernel
theorem n_law_1 : nB N_law 1 "cells_so" = true := by decide +kernel
theorem n_law_2 : nB N_law 2 "urn" = true := by decide +kernel
theorem n_law_4 : nB N_law 4 "wide" = true := by decide +kernel
theorem n_law_7 : nB N_law 7 "bads" = true := by decide +kernel
theorem n_law_5 : nB N_law 5 "got" = true := by decide +kernel
theorem n_law_3 : nB N_law 3 "up" = true := by decide +kernel
theorem n_law_8 : nB N_law 8 "bad" = true := by decide +kernel
theorem n_law_9 : nB N_law 9 "door" = true := by decide +kernel
theorem n_law_6 : nB N_law 6 "due" = true := by decide +kernel
theorem sc_law : FnScope N_law P_law (defScope s_law) := ⟨rfl, rfl, rfl, by decide +kernel, rfl, by decide +kernel, by decide +kernel⟩
theorem e_law {P : Program} {w : World} {K : PySem.W.Frag} {mg : Str → Option Value} {base : Heap} {cl : Nat → Addr} {Φ : Fn} {k : Nat} (F : Fx K mg cl) (O : Ow P w K mg base cl Φ k) : ESs (bodyCf P w K mg base cl k (defScope s_law) N_law) (defBody s_law) (b_law Φ) :=
  (ss_cons (s_set 1 (v_call O.f__law_cells rfl (x_cons (v_varN 0 n_law_0 (.inl rfl)) (x_cons v_int x_nil)) rfl) ⟨rfl, (.inl rfl), .inl rfl⟩ rfl) (ss_cons (s_set 2 (v_call O.f__law_box rfl (x_cons (v_varN 1 n_law_1 (.inl rfl)) (x_cons v_int x_nil)) rfl) ⟨rfl, (.inl rfl), .inl rfl⟩ rfl) (ss_cons (s_if (t_gt (v_call O.f__law_take rfl (x_cons (v_varN 2 n_law_2 (.inl rfl)) (x_cons v_int x_nil)) rfl) v_int) (ss_one (s_ret (v_call O.f__law_told_right rfl (x_cons (v_varN 2 n_law_2 (.inl rfl)) x_nil) rfl))) ss_nil) (ss_cons (s_asg (v_tup (x_cons (v_call O.f__law_uni rfl (x_cons (v_lst (x_cons v_int (x_cons v_int x_nil))) (x_cons v_int x_nil)) rfl) (x_cons (v_tup (x_cons (v_tup (x_cons (v_tup (x_cons v_int (x_cons v_int x_nil))) (x_cons v_int x_nil))) (x_cons (v_tup (x_cons (v_tup (x_cons v_int x_nil)) (x_cons v_int x_nil))) x_nil))) (x_cons (v_lst x_nil) (x_cons (v_lst x_nil) x_nil))))) (g_tup (n := 4) rfl (gs_cons (g_name 3 ⟨rfl, (.inr rfl), (.inl rfl)⟩ rfl) (gs_cons (g_name 4 ⟨rfl, (.inl rfl), (.inl rfl)⟩ rfl) (gs_cons (g_name 5 ⟨rfl, (.inl rfl), (.inl rfl)⟩ rfl) (gs_cons (g_name 6 ⟨rfl, (.inl rfl), (.inl rfl)⟩ rfl) gs_nil)))) (hl := (li_cons (pu_name 3) (li_cons (pu_name 4) (li_cons (pu_name 5) (li_cons (pu_name 6) li_nil)))))) (hw := fun env he => sw_none (by rw [he]; rfl))) (ss_cons (s_set 7 (v_lst (x_cons v_non (x_cons v_int (x_cons v_str (x_cons (v_tup (x_cons (v_tup (x_cons (v_tup x_nil) (x_cons v_int x_nil))) x_nil)) (x_cons (v_tup (x_cons (v_tup (x_cons (v_tup (x_cons v_int x_nil)) (x_cons v_int x_nil))) x_nil)) (x_cons (v_tup (x_cons (v_tup (x_cons (v_tup (x_cons v_int x_nil)) (x_cons v_int x_nil))) (x_cons (v_tup (x_cons (v_tup x_nil) (x_cons v_int x_nil))) x_nil))) (x_cons (v_tup (x_cons (v_tup (x_cons (v_tup (x_cons v_int x_nil)) (x_cons v_bl x_nil))) x_nil)) (x_cons (v_varN 4 n_law_4 (.inl rfl)) (x_cons (v_tup (x_cons (v_tup (x_cons (v_tup (x_cons v_int x_nil)) (x_cons v_int x_nil))) (x_cons (v_tup (x_cons (v_tup (x_cons v_int x_nil)) (x_cons v_int x_nil))) x_nil))) (x_cons (v_tup (x_cons (v_tup (x_cons (v_tup (x_cons v_int (x_cons v_int (x_cons v_int (x_cons v_int (x_cons v_int (x_cons v_int (x_cons v_int x_nil)))))))) (x_cons v_int x_nil))) x_nil)) x_nil))))))))))) ⟨rfl, (.inl rfl), .inl rfl⟩ rfl) (ss_cons (s_for rfl (i_seq (v_varN 7 n_law_7 (.inl rfl))) (g_name 8 ⟨rfl, (.inr rfl), (.inl rfl)⟩ rfl) (ss_cons (s_set 5 (v_add (v_add (v_add (v_varN 5 n_law_5 (.inl rfl)) (v_lc (own := [("door", 9)]) rfl (i_seq (v_tup (x_cons v_int (x_cons v_int (x_cons v_int (x_cons v_int (x_cons v_int (x_cons v_int x_nil)))))))) (by show blkC N_law (defScope s_law) _ _ = true; decide +kernel) (g_name 9 ⟨rfl, (.inl rfl), (.inr rfl)⟩ rfl) ts_nil (v_call O.f__law_try rfl (x_cons (v_varN 9 n_law_9 (.inl rfl)) (x_cons (v_varN 8 n_law_8 (.inr (.inl rfl))) (x_cons (v_varN 3 n_law_3 (.inr (.inl rfl))) x_nil))) rfl) (by decide +kernel))) (v_lc (own := [("door", 9)]) rfl (i_seq (v_tup (x_cons v_int (x_cons v_int (x_cons v_int x_nil))))) (by show blkC N_law (defScope s_law) _ _ = true; decide +kernel) (g_name 9 ⟨rfl, (.inl rfl), (.inr rfl)⟩ rfl) ts_nil (v_call O.f__law_try rfl (x_cons (v_varN 9 n_law_9 (.inl rfl)) (x_cons (v_varN 3 n_law_3 (.inr (.inl rfl))) (x_cons (v_varN 8 n_law_8 (.inr (.inl rfl))) x_nil))) rfl) (by decide +kernel))) (v_lc (own := [("door", 9)]) rfl (i_seq (v_tup (x_cons v_int (x_cons v_int x_nil)))) (by show blkC N_law (defScope s_law) _ _ = true; decide +kernel) (g_name 9 ⟨rfl, (.inl rfl), (.inr rfl)⟩ rfl) ts_nil (v_call O.f__law_try rfl (x_cons (v_varN 9 n_law_9 (.inl rfl)) (x_cons (v_tup (x_cons (v_varN 3 n_law_3 (.inr (.inl rfl))) (x_cons (v_varN 8 n_law_8 (.inr (.inl rfl))) x_nil))) (x_cons (v_tup x_nil) x_nil))) rfl) (by decide +kernel))) ⟨rfl, (.inl rfl), .inl rfl⟩ rfl) (ss_one (s_set 6 (v_add (v_varN 6 n_law_6 (.inl rfl)) (v_mul (v_lst (x_cons (v_lst (x_cons v_str (x_cons v_non x_nil))) x_nil)) v_int)) ⟨rfl, (.inl rfl), .inl rfl⟩ rfl)))) (ss_cons (s_set 5 (v_add (v_add (v_varN 5 n_law_5 (.inl rfl)) (v_lc (own := [("door", 9)]) rfl (i_seq (v_tup (x_cons v_int (x_cons v_int (x_cons v_int x_nil))))) (by show blkC N_law (defScope s_law) _ _ = true; decide +kernel) (g_name 9 ⟨rfl, (.inl rfl), (.inr rfl)⟩ rfl) ts_nil (v_call O.f__law_try rfl (x_cons (v_varN 9 n_law_9 (.inl rfl)) (x_cons (v_varN 3 n_law_3 (.inr (.inl rfl))) (x_cons (v_call O.f__law_uni rfl (x_cons (v_lst (x_cons v_int (x_cons v_int x_nil))) (x_cons v_int x_nil)) rfl) x_nil))) rfl) (by decide +kernel))) (v_lc (own := [("door", 9)]) rfl (i_seq (v_tup (x_cons v_int (x_cons v_int x_nil)))) (by show blkC N_law (defScope s_law) _ _ = true; decide +kernel) (g_name 9 ⟨rfl, (.inl rfl), (.inr rfl)⟩ rfl) ts_nil (v_call O.f__law_try rfl (x_cons (v_varN 9 n_law_9 (.inl rfl)) (x_cons (v_tup (x_cons (v_varN 3 n_law_3 (.inr (.inl rfl))) (x_cons (v_call O.f__law_uni rfl (x_cons (v_lst (x_cons v_int (x_cons v_int x_nil))) (x_cons v_int x_nil)) rfl) x_nil))) (x_cons (v_tup x_nil) x_nil))) rfl) (by decide +kernel))) ⟨rfl, (.inl rfl), .inl rfl⟩ rfl) (ss_cons (s_set 6 (v_add (v_varN 6 n_law_6 (.inl rfl)) (v_mul (v_lst (x_cons (v_lst (x_cons v_str (x_cons v_non x_nil))) x_nil)) v_int)) ⟨rfl, (.inl rfl), .inl rfl⟩ rfl) (ss_cons (s_set 5 (v_add (v_varN 5 n_law_5 (.inl rfl)) (v_lst (x_cons (v_call O.f__law_try rfl (x_cons v_int (x_cons (v_varN 3 n_law_3 (.inr (.inl rfl))) (x_cons (v_tup x_nil) x_nil))) rfl) (x_cons (v_call O.f__law_try rfl (x_cons v_int (x_cons (v_tup x_nil) (x_cons (v_tup x_nil) x_nil))) rfl) (x_cons (v_call O.f__law_try rfl (x_cons v_int (x_cons (v_tup x_nil) (x_cons (v_varN 3 n_law_3 (.inr (.inl rfl))) x_nil))) rfl) (x_cons (v_call O.f__law_try rfl (x_cons v_int (x_cons (v_tup x_nil) (x_cons v_non x_nil))) rfl) (x_cons (v_call O.f__law_try rfl (x_cons v_int (x_cons (v_tup x_nil) (x_cons v_non x_nil))) rfl) (x_cons (v_call O.f__law_try rfl (x_cons v_int (x_cons (v_tup (x_cons (v_varN 3 n_law_3 (.inr (.inl rfl))) (x_cons (v_tup x_nil) x_nil))) (x_cons v_non x_nil))) rfl) (x_cons (v_call O.f__law_try rfl (x_cons v_int (x_cons (v_tup (x_cons (v_tup x_nil) x_nil)) (x_cons (v_tup x_nil) x_nil))) rfl) x_nil))))))))) ⟨rfl, (.inl rfl), .inl rfl⟩ rfl) (ss_one (s_ret (v_call O.f__law_same rfl (x_cons (v_varN 5 n_law_5 (.inl rfl)) (x_cons (v_add (v_varN 6 n_law_6 (.inl rfl)) (v_mul (v_lst (x_cons (v_lst (x_cons v_str (x_cons v_non x_nil))) x_nil)) v_int)) x_nil)) rfl))))))))))))
def tbl (n : Nat) (Φ : Fn) : Fn := fun fid xs st k ex => match fid with
  | 0 => runC 1 0 (b_is_number Φ) xs st k ex
  | 1 => runC 2 0 (b_is_tuple_of Φ) xs st k ex
  | 2 => runC 1 1 (b_tuple_of Φ) xs st k ex
  | 3 => runC 1 0 (b_sure Φ) xs st k ex
  | 4 => runC 2 2 (b_common_divisor Φ) xs st k ex
  | 5 => runC 1 1 (b_are_powers Φ) xs st k ex
  | 6 => runC 1 3 (b_is_poly Φ) xs st k ex
  | 7 => runC 1 1 (b_sure_poly Φ) xs st k ex
  | 8 => runC 1 1 (b_told Φ) xs st k ex
  | 9 => runC 1 1 (b_trimmed_powers Φ) xs st k ex
  | 10 => runC 2 0 (b_power_in Φ) xs st k ex
  | 11 => runC 1 3 (b_unknowns_of Φ) xs st k ex
  | 12 => runC 2 2 (b_degree_of Φ) xs st k ex
  | 13 => runC 2 0 (b_without Φ) xs st k ex
  | 14 => runC 2 5 (b_parts_of Φ) xs st k ex
  | 15 => runC 1 2 (b_by_prime Φ) xs st k ex
  | 16 => runC 1 5 (b_inverse_of Φ) xs st k ex
  | 17 => runC 2 8 (b_are_surely_apart Φ) xs st k ex
  | 18 => runC 2 2 (b_numbers_of Φ) xs st k ex
  | 19 => runC 1 3 (b_least_row Φ) xs st k ex
  | 20 => runC 1 2 (b_derived_row Φ) xs st k ex
  | 21 => runC 2 7 (b_rest_row Φ) xs st k ex
  | 22 => runC 2 3 (b_common_row Φ) xs st k ex
  | 23 => runC 2 8 (b_divided_row Φ) xs st k ex
  | 24 => runC 1 1 (b_single_row Φ) xs st k ex
  | 25 => runC 1 8 (b_parted_rows Φ) xs st k ex
  | 26 => runC 1 3 (b_shared_unknown Φ) xs st k ex
  | 27 => runC 2 3 (b_poly_of_row Φ) xs st k ex
  | 28 => runC 1 2 (b_risen_row Φ) xs st k ex
  | 29 => runC 2 3 (b_two_rows Φ) xs st k ex
  | 30 => runC 1 2 (b_one_row Φ) xs st k ex
  | 31 => runC 2 12 (b_rows_divided Φ) xs st k ex
  | 32 => runC 1 1 (b_trimmed_row Φ) xs st k ex
  | 33 => runC 2 6 (b_uni_divided Φ) xs st k ex
  | 34 => runC 2 0 (b_uni_divides Φ) xs st k ex
  | 35 => runC 2 3 (b_uni_common Φ) xs st k ex
  | 36 => runC 1 2 (b_uni_single Φ) xs st k ex
  | 37 => runC 1 7 (b_uni_layers Φ) xs st k ex
  | 38 => runC 1 6 (b_uni_parted Φ) xs st k ex
  | 39 => runC 2 7 (b_is_uni_parting Φ) xs st k ex
  | 40 => runC 1 3 (b_are_rows_apart Φ) xs st k ex
  | 41 => runC 2 3 (b_is_covered Φ) xs st k ex
  | 42 => runC 2 1 (b_have_same_roots Φ) xs st k ex
  | 43 => boxF xs st k
  | 44 => takeF xs st k
  | 45 => cellsF xs st k
  | 46 => runC 2 2 (b__law_same Φ) xs st k ex
  | 47 => mixF (n + 1) xs st k
  | 48 => runC 2 3 (b__law_uni Φ) xs st k ex
  | 49 => runC 2 5 (b__law_times Φ) xs st k ex
  | 50 => runC 3 3 (b__law_try Φ) xs st k ex
  | 51 => runC 1 15 (b__law_told_right Φ) xs st k ex
  | 52 => runC 1 9 (b_law Φ) xs st k ex
  | _ => False
def callN : Nat → Fn
  | 0 => fun _ _ _ _ _ => False
  | n + 1 => tbl n (callN n)
structure Df (K : PySem.W.Frag) (mg : Str → Option Value) : Prop where
  d_is_number : ∃ fd, FunD K "is_number" "is_number" (defArgs s_is_number) (defBody s_is_number) (defScope s_is_number) [] [] (He.ga K "is_number") fd
  m_is_number : mg ("is_number" : Str) = some (.ref (He.ga K "is_number"))
  d_is_tuple_of : ∃ fd, FunD K "is_tuple_of" "is_tuple_of" (defArgs s_is_tuple_of) (defBody s_is_tuple_of) (defScope s_is_tuple_of) [] [] (He.ga K "is_tuple_of") fd
  m_is_tuple_of : mg ("is_tuple_of" : Str) = some (.ref (He.ga K "is_tuple_of"))
  d_tuple_of : ∃ fd, FunD K "tuple_of" "tuple_of" (defArgs s_tuple_of) (defBody s_tuple_of) (defScope s_tuple_of) [] [] (He.ga K "tuple_of") fd
  m_tuple_of : mg ("tuple_of" : Str) = some (.ref (He.ga K "tuple_of"))
  d_sure : ∃ fd, FunD K "sure" "sure" (defArgs s_sure) (defBody s_sure) (defScope s_sure) [] [] (He.ga K "sure") fd
  m_sure : mg ("sure" : Str) = some (.ref (He.ga K "sure"))
  d_common_divisor : ∃ fd, FunD K "common_divisor" "common_divisor" (defArgs s_common_divisor) (defBody s_common_divisor) (defScope s_common_divisor) [] [] (He.ga K "common_divisor") fd
  m_common_divisor : mg ("common_divisor" : Str) = some (.ref (He.ga K "common_divisor"))
  d_are_powers : ∃ fd, FunD K "are_powers" "are_powers" (defArgs s_are_powers) (defBody s_are_powers) (defScope s_are_powers) [] [] (He.ga K "are_powers") fd
  m_are_powers : mg ("are_powers" : Str) = some (.ref (He.ga K "are_powers"))
  d_is_poly : ∃ fd, FunD K "is_poly" "is_poly" (defArgs s_is_poly) (defBody s_is_poly) (defScope s_is_poly) [] [] (He.ga K "is_poly") fd
  m_is_poly : mg ("is_poly" : Str) = some (.ref (He.ga K "is_poly"))
  d_sure_poly : ∃ fd, FunD K "sure_poly" "sure_poly" (defArgs s_sure_poly) (defBody s_sure_poly) (defScope s_sure_poly) [] [] (He.ga K "sure_poly") fd
  m_sure_poly : mg ("sure_poly" : Str) = some (.ref (He.ga K "sure_poly"))
  d_told : ∃ fd, FunD K "told" "told" (defArgs s_told) (defBody s_told) (defScope s_told) [] [] (He.ga K "told") fd
  m_told : mg ("told" : Str) = some (.ref (He.ga K "told"))
  d_trimmed_powers : ∃ fd, FunD K "trimmed_powers" "trimmed_powers" (defArgs s_trimmed_powers) (defBody s_trimmed_powers) (defScope s_trimmed_powers) [] [] (He.ga K "trimmed_powers") fd
  m_trimmed_powers : mg ("trimmed_powers" : Str) = some (.ref (He.ga K "trimmed_powers"))
  d_power_in : ∃ fd, FunD K "power_in" "power_in" (defArgs s_power_in) (defBody s_power_in) (defScope s_power_in) [] [] (He.ga K "power_in") fd
  m_power_in : mg ("power_in" : Str) = some (.ref (He.ga K "power_in"))
  d_unknowns_of : ∃ fd, FunD K "unknowns_of" "unknowns_of" (defArgs s_unknowns_of) (defBody s_unknowns_of) (defScope s_unknowns_of) [] [] (He.ga K "unknowns_of") fd
  m_unknowns_of : mg ("unknowns_of" : Str) = some (.ref (He.ga K "unknowns_of"))
  d_degree_of : ∃ fd, FunD K "degree_of" "degree_of" (defArgs s_degree_of) (defBody s_degree_of) (defScope s_degree_of) [] [] (He.ga K "degree_of") fd
  m_degree_of : mg ("degree_of" : Str) = some (.ref (He.ga K "degree_of"))
  d_without : ∃ fd, FunD K "without" "without" (defArgs s_without) (defBody s_without) (defScope s_without) [] [] (He.ga K "without") fd
  m_without : mg ("without" : Str) = some (.ref (He.ga K "without"))
  d_parts_of : ∃ fd, FunD K "parts_of" "parts_of" (defArgs s_parts_of) (defBody s_parts_of) (defScope s_parts_of) [] [] (He.ga K "parts_of") fd
  m_parts_of : mg ("parts_of" : Str) = some (.ref (He.ga K "parts_of"))
  d_by_prime : ∃ fd, FunD K "by_prime" "by_prime" (defArgs s_by_prime) (defBody s_by_prime) (defScope s_by_prime) [] [] (He.ga K "by_prime") fd
  m_by_prime : mg ("by_prime" : Str) = some (.ref (He.ga K "by_prime"))
  d_inverse_of : ∃ fd, FunD K "inverse_of" "inverse_of" (defArgs s_inverse_of) (defBody s_inverse_of) (defScope s_inverse_of) [] [] (He.ga K "inverse_of") fd
  m_inverse_of : mg ("inverse_of" : Str) = some (.ref (He.ga K "inverse_of"))
  d_are_surely_apart : ∃ fd, FunD K "are_surely_apart" "are_surely_apart" (defArgs s_are_surely_apart) (defBody s_are_surely_apart) (defScope s_are_surely_apart) [] [] (He.ga K "are_surely_apart") fd
  m_are_surely_apart : mg ("are_surely_apart" : Str) = some (.ref (He.ga K "are_surely_apart"))
  d_numbers_of : ∃ fd, FunD K "numbers_of" "numbers_of" (defArgs s_numbers_of) (defBody s_numbers_of) (defScope s_numbers_of) [] [] (He.ga K "numbers_of") fd
  m_numbers_of : mg ("numbers_of" : Str) = some (.ref (He.ga K "numbers_of"))
  d_least_row : ∃ fd, FunD K "least_row" "least_row" (defArgs s_least_row) (defBody s_least_row) (defScope s_least_row) [] [] (He.ga K "least_row") fd
  m_least_row : mg ("least_row" : Str) = some (.ref (He.ga K "least_row"))
  d_derived_row : ∃ fd, FunD K "derived_row" "derived_row" (defArgs s_derived_row) (defBody s_derived_row) (defScope s_derived_row) [] [] (He.ga K "derived_row") fd
  m_derived_row : mg ("derived_row" : Str) = some (.ref (He.ga K "derived_row"))
  d_rest_row : ∃ fd, FunD K "rest_row" "rest_row" (defArgs s_rest_row) (defBody s_rest_row) (defScope s_rest_row) [] [] (He.ga K "rest_row") fd
  m_rest_row : mg ("rest_row" : Str) = some (.ref (He.ga K "rest_row"))
  d_common_row : ∃ fd, FunD K "common_row" "common_row" (defArgs s_common_row) (defBody s_common_row) (defScope s_common_row) [] [] (He.ga K "common_row") fd
  m_common_row : mg ("common_row" : Str) = some (.ref (He.ga K "common_row"))
  d_divided_row : ∃ fd, FunD K "divided_row" "divided_row" (defArgs s_divided_row) (defBody s_divided_row) (defScope s_divided_row) [] [] (He.ga K "divided_row") fd
  m_divided_row : mg ("divided_row" : Str) = some (.ref (He.ga K "divided_row"))
  d_single_row : ∃ fd, FunD K "single_row" "single_row" (defArgs s_single_row) (defBody s_single_row) (defScope s_single_row) [] [] (He.ga K "single_row") fd
  m_single_row : mg ("single_row" : Str) = some (.ref (He.ga K "single_row"))
  d_parted_rows : ∃ fd, FunD K "parted_rows" "parted_rows" (defArgs s_parted_rows) (defBody s_parted_rows) (defScope s_parted_rows) [] [] (He.ga K "parted_rows") fd
  m_parted_rows : mg ("parted_rows" : Str) = some (.ref (He.ga K "parted_rows"))
  d_shared_unknown : ∃ fd, FunD K "shared_unknown" "shared_unknown" (defArgs s_shared_unknown) (defBody s_shared_unknown) (defScope s_shared_unknown) [] [] (He.ga K "shared_unknown") fd
  m_shared_unknown : mg ("shared_unknown" : Str) = some (.ref (He.ga K "shared_unknown"))
  d_poly_of_row : ∃ fd, FunD K "poly_of_row" "poly_of_row" (defArgs s_poly_of_row) (defBody s_poly_of_row) (defScope s_poly_of_row) [] [] (He.ga K "poly_of_row") fd
  m_poly_of_row : mg ("poly_of_row" : Str) = some (.ref (He.ga K "poly_of_row"))
  d_risen_row : ∃ fd, FunD K "risen_row" "risen_row" (defArgs s_risen_row) (defBody s_risen_row) (defScope s_risen_row) [] [] (He.ga K "risen_row") fd
  m_risen_row : mg ("risen_row" : Str) = some (.ref (He.ga K "risen_row"))
  d_two_rows : ∃ fd, FunD K "two_rows" "two_rows" (defArgs s_two_rows) (defBody s_two_rows) (defScope s_two_rows) [] [] (He.ga K "two_rows") fd
  m_two_rows : mg ("two_rows" : Str) = some (.ref (He.ga K "two_rows"))
  d_one_row : ∃ fd, FunD K "one_row" "one_row" (defArgs s_one_row) (defBody s_one_row) (defScope s_one_row) [] [] (He.ga K "one_row") fd
  m_one_row : mg ("one_row" : Str) = some (.ref (He.ga K "one_row"))
  d_rows_divided : ∃ fd, FunD K "rows_divided" "rows_divided" (defArgs s_rows_divided) (defBody s_rows_divided) (defScope s_rows_divided) [] [] (He.ga K "rows_divided") fd
  m_rows_divided : mg ("rows_divided" : Str) = some (.ref (He.ga K "rows_divided"))
  d_trimmed_row : ∃ fd, FunD K "trimmed_row" "trimmed_row" (defArgs s_trimmed_row) (defBody s_trimmed_row) (defScope s_trimmed_row) [] [] (He.ga K "trimmed_row") fd
  m_trimmed_row : mg ("trimmed_row" : Str) = some (.ref (He.ga K "trimmed_row"))
  d_uni_divided : ∃ fd, FunD K "uni_divided" "uni_divided" (defArgs s_uni_divided) (defBody s_uni_divided) (defScope s_uni_divided) [] [] (He.ga K "uni_divided") fd
  m_uni_divided : mg ("uni_divided" : Str) = some (.ref (He.ga K "uni_divided"))
  d_uni_divides : ∃ fd, FunD K "uni_divides" "uni_divides" (defArgs s_uni_divides) (defBody s_uni_divides) (defScope s_uni_divides) [] [] (He.ga K "uni_divides") fd
  m_uni_divides : mg ("uni_divides" : Str) = some (.ref (He.ga K "uni_divides"))
  d_uni_common : ∃ fd, FunD K "uni_common" "uni_common" (defArgs s_uni_common) (defBody s_uni_common) (defScope s_uni_common) [] [] (He.ga K "uni_common") fd
  m_uni_common : mg ("uni_common" : Str) = some (.ref (He.ga K "uni_common"))
  d_uni_single : ∃ fd, FunD K "uni_single" "uni_single" (defArgs s_uni_single) (defBody s_uni_single) (defScope s_uni_single) [] [] (He.ga K "uni_single") fd
  m_uni_single : mg ("uni_single" : Str) = some (.ref (He.ga K "uni_single"))
  d_uni_layers : ∃ fd, FunD K "uni_layers" "uni_layers" (defArgs s_uni_layers) (defBody s_uni_layers) (defScope s_uni_layers) [] [] (He.ga K "uni_layers") fd
  m_uni_layers : mg ("uni_layers" : Str) = some (.ref (He.ga K "uni_layers"))
  d_uni_parted : ∃ fd, FunD K "uni_parted" "uni_parted" (defArgs s_uni_parted) (defBody s_uni_parted) (defScope s_uni_parted) [] [] (He.ga K "uni_parted") fd
  m_uni_parted : mg ("uni_parted" : Str) = some (.ref (He.ga K "uni_parted"))
  d_is_uni_parting : ∃ fd, FunD K "is_uni_parting" "is_uni_parting" (defArgs s_is_uni_parting) (defBody s_is_uni_parting) (defScope s_is_uni_parting) [] [] (He.ga K "is_uni_parting") fd
  m_is_uni_parting : mg ("is_uni_parting" : Str) = some (.ref (He.ga K "is_uni_parting"))
  d_are_rows_apart : ∃ fd, FunD K "are_rows_apart" "are_rows_apart" (defArgs s_are_rows_apart) (defBody s_are_rows_apart) (defScope s_are_rows_apart) [] [] (He.ga K "are_rows_apart") fd
  m_are_rows_apart : mg ("are_rows_apart" : Str) = some (.ref (He.ga K "are_rows_apart"))
  d_is_covered : ∃ fd, FunD K "is_covered" "is_covered" (defArgs s_is_covered) (defBody s_is_covered) (defScope s_is_covered) [] [] (He.ga K "is_covered") fd
  m_is_covered : mg ("is_covered" : Str) = some (.ref (He.ga K "is_covered"))
  d_have_same_roots : ∃ fd, FunD K "have_same_roots" "have_same_roots" (defArgs s_have_same_roots) (defBody s_have_same_roots) (defScope s_have_same_roots) [] [] (He.ga K "have_same_roots") fd
  m_have_same_roots : mg ("have_same_roots" : Str) = some (.ref (He.ga K "have_same_roots"))
  d__law_box : ∃ fd, FunD K "_law_box" "_law_box" (defArgs s__law_box) (defBody s__law_box) (defScope s__law_box) [] [] (He.ga K "_law_box") fd
  m__law_box : mg ("_law_box" : Str) = some (.ref (He.ga K "_law_box"))
  d__law_take : ∃ fd, FunD K "_law_take" "_law_take" (defArgs s__law_take) (defBody s__law_take) (defScope s__law_take) [] [] (He.ga K "_law_take") fd
  m__law_take : mg ("_law_take" : Str) = some (.ref (He.ga K "_law_take"))
  d__law_cells : ∃ fd, FunD K "_law_cells" "_law_cells" (defArgs s__law_cells) (defBody s__law_cells) (defScope s__law_cells) [] [] (He.ga K "_law_cells") fd
  m__law_cells : mg ("_law_cells" : Str) = some (.ref (He.ga K "_law_cells"))
  d__law_same : ∃ fd, FunD K "_law_same" "_law_same" (defArgs s__law_same) (defBody s__law_same) (defScope s__law_same) [] [] (He.ga K "_law_same") fd
  m__law_same : mg ("_law_same" : Str) = some (.ref (He.ga K "_law_same"))
  d__law_mixed : ∃ fd, FunD K "_law_mixed" "_law_mixed" (defArgs s__law_mixed) (defBody s__law_mixed) (defScope s__law_mixed) [] [] (He.ga K "_law_mixed") fd
  m__law_mixed : mg ("_law_mixed" : Str) = some (.ref (He.ga K "_law_mixed"))
  d__law_uni : ∃ fd, FunD K "_law_uni" "_law_uni" (defArgs s__law_uni) (defBody s__law_uni) (defScope s__law_uni) [] [] (He.ga K "_law_uni") fd
  m__law_uni : mg ("_law_uni" : Str) = some (.ref (He.ga K "_law_uni"))
  d__law_times : ∃ fd, FunD K "_law_times" "_law_times" (defArgs s__law_times) (defBody s__law_times) (defScope s__law_times) [] [] (He.ga K "_law_times") fd
  m__law_times : mg ("_law_times" : Str) = some (.ref (He.ga K "_law_times"))
  d__law_try : ∃ fd, FunD K "_law_try" "_law_try" (defArgs s__law_try) (defBody s__law_try) (defScope s__law_try) [] [] (He.ga K "_law_try") fd
  m__law_try : mg ("_law_try" : Str) = some (.ref (He.ga K "_law_try"))
  d__law_told_right : ∃ fd, FunD K "_law_told_right" "_law_told_right" (defArgs s__law_told_right) (defBody s__law_told_right) (defScope s__law_told_right) [] [] (He.ga K "_law_told_right") fd
  m__law_told_right : mg ("_law_told_right" : Str) = some (.ref (He.ga K "_law_told_right"))
  d_law : ∃ fd, FunD K "law" "law" (defArgs s_law) (defBody s_law) (defScope s_law) [] [] (He.ga K "law") fd
  m_law : mg ("law" : Str) = some (.ref (He.ga K "law"))
theorem k_is_number {P : Program} {w : World} {K : PySem.W.Frag} {mg : Str → Option Value} {base : Heap} {cl : Nat → Addr} {n : Nat} (F : Fx K mg cl) (O : Ow P w K mg base cl (callN n) n) {fd : FuncData} (FD : FunD K "is_number" "is_number" (defArgs s_is_number) (defBody s_is_number) (defScope s_is_number) [] [] (He.ga K "is_number") fd) : FOk K cl P w mg base (callN (n + 1)) (n + 1) 0 (He.ga K "is_number") fd P_is_number :=
  fok_imp (ΦB := fun _ => runB 1 0 (b_is_number (callN n))) (fok_of FD sc_is_number (e_is_number F O) (fun _ _ _ _ h => h) rfl) (fun vs H Q E h => cut_imp (fun _ _ _ _ h => h) (fun _ _ _ _ h => h) vs H Q E h) fun xs st k ex h => runC_len h
theorem k_is_tuple_of {P : Program} {w : World} {K : PySem.W.Frag} {mg : Str → Option Value} {base : Heap} {cl : Nat → Addr} {n : Nat} (F : Fx K mg cl) (O : Ow P w K mg base cl (callN n) n) {fd : FuncData} (FD : FunD K "is_tuple_of" "is_tuple_of" (defArgs s_is_tuple_of) (defBody s_is_tuple_of) (defScope s_is_tuple_of) [] [] (He.ga K "is_tuple_of") fd) : FOk K cl P w mg base (callN (n + 1)) (n + 1) 1 (He.ga K "is_tuple_of") fd P_is_tuple_of :=
  fok_imp (ΦB := fun _ => runB 2 0 (b_is_tuple_of (callN n))) (fok_of FD sc_is_tuple_of (e_is_tuple_of F O) (fun _ _ _ _ h => h) rfl) (fun vs H Q E h => cut_imp (fun _ _ _ _ h => h) (fun _ _ _ _ h => h) vs H Q E h) fun xs st k ex h => runC_len h
theorem k_tuple_of {P : Program} {w : World} {K : PySem.W.Frag} {mg : Str → Option Value} {base : Heap} {cl : Nat → Addr} {n : Nat} (F : Fx K mg cl) (O : Ow P w K mg base cl (callN n) n) {fd : FuncData} (FD : FunD K "tuple_of" "tuple_of" (defArgs s_tuple_of) (defBody s_tuple_of) (defScope s_tuple_of) [] [] (He.ga K "tuple_of") fd) : FOk K cl P w mg base (callN (n + 1)) (n + 1) 2 (He.ga K "tuple_of") fd P_tuple_of :=
  fok_imp (ΦB := fun _ => runB 1 1 (b_tuple_of (callN n))) (fok_of FD sc_tuple_of (e_tuple_of F O) (fun _ _ _ _ h => h) rfl) (fun vs H Q E h => cut_imp (fun _ _ _ _ h => h) (fun _ _ _ _ h => h) vs H Q E h) fun xs st k ex h => runC_len h
theorem k_sure {P : Program} {w : World} {K : PySem.W.Frag} {mg : Str → Option Value} {base : Heap} {cl : Nat → Addr} {n : Nat} (F : Fx K mg cl) (O : Ow P w K mg base cl (callN n) n) {fd : FuncData} (FD : FunD K "sure" "sure" (defArgs s_sure) (defBody s_sure) (defScope s_sure) [] [] (He.ga K "sure") fd) : FOk K cl P w mg base (callN (n + 1)) (n + 1) 3 (He.ga K "sure") fd P_sure :=
  fok_imp (ΦB := fun _ => runB 1 0 (b_sure (callN n))) (fok_of FD sc_sure (e_sure F O) (fun _ _ _ _ h => h) rfl) (fun vs H Q E h => cut_imp (fun _ _ _ _ h => h) (fun _ _ _ _ h => h) vs H Q E h) fun xs st k ex h => runC_len h
theorem k_common_divisor {P : Program} {w : World} {K : PySem.W.Frag} {mg : Str → Option Value} {base : Heap} {cl : Nat → Addr} {n : Nat} (F : Fx K mg cl) (O : Ow P w K mg base cl (callN n) n) {fd : FuncData} (FD : FunD K "common_divisor" "common_divisor" (defArgs s_common_divisor) (defBody s_common_divisor) (defScope s_common_divisor) [] [] (He.ga K "common_divisor") fd) : FOk K cl P w mg base (callN (n + 1)) (n + 1) 4 (He.ga K "common_divisor") fd P_common_divisor :=
  fok_imp (ΦB := fun _ => runB 2 2 (b_common_divisor (callN n))) (fok_of FD sc_common_divisor (e_common_divisor F O) (fun _ _ _ _ h => h) rfl) (fun vs H Q E h => cut_imp (fun _ _ _ _ h => h) (fun _ _ _ _ h => h) vs H Q E h) fun xs st k ex h => runC_len h
theorem k_are_powers {P : Program} {w : World} {K : PySem.W.Frag} {mg : Str → Option Value} {base : Heap} {cl : Nat → Addr} {n : Nat} (F : Fx K mg cl) (O : Ow P w K mg base cl (callN n) n) {fd : FuncData} (FD : FunD K "are_powers" "are_powers" (defArgs s_are_powers) (defBody s_are_powers) (defScope s_are_powers) [] [] (He.ga K "are_powers") fd) : FOk K cl P w mg base (callN (n + 1)) (n + 1) 5 (He.ga K "are_powers") fd P_are_powers :=
  fok_imp (ΦB := fun _ => runB 1 1 (b_are_powers (callN n))) (fok_of FD sc_are_powers (e_are_powers F O) (fun _ _ _ _ h => h) rfl) (fun vs H Q E h => cut_imp (fun _ _ _ _ h => h) (fun _ _ _ _ h => h) vs H Q E h) fun xs st k ex h => runC_len h
theorem k_is_poly {P : Program} {w : World} {K : PySem.W.Frag} {mg : Str → Option Value} {base : Heap} {cl : Nat → Addr} {n : Nat} (F : Fx K mg cl) (O : Ow P w K mg base cl (callN n) n) {fd : FuncData} (FD : FunD K "is_poly" "is_poly" (defArgs s_is_poly) (defBody s_is_poly) (defScope s_is_poly) [] [] (He.ga K "is_poly") fd) : FOk K cl P w mg base (callN (n + 1)) (n + 1) 6 (He.ga K "is_poly") fd P_is_poly :=
  fok_imp (ΦB := fun _ => runB 1 3 (b_is_poly (callN n))) (fok_of FD sc_is_poly (e_is_poly F O) (fun _ _ _ _ h => h) rfl) (fun vs H Q E h => cut_imp (fun _ _ _ _ h => h) (fun _ _ _ _ h => h) vs H Q E h) fun xs st k ex h => runC_len h
theorem k_sure_poly {P : Program} {w : World} {K : PySem.W.Frag} {mg : Str → Option Value} {base : Heap} {cl : Nat → Addr} {n : Nat} (F : Fx K mg cl) (O : Ow P w K mg base cl (callN n) n) {fd : FuncData} (FD : FunD K "sure_poly" "sure_poly" (defArgs s_sure_poly) (defBody s_sure_poly) (defScope s_sure_poly) [] [] (He.ga K "sure_poly") fd) : FOk K cl P w mg base (callN (n + 1)) (n + 1) 7 (He.ga K "sure_poly") fd P_sure_poly :=
  fok_imp (ΦB := fun _ => runB 1 1 (b_sure_poly (callN n))) (fok_of FD sc_sure_poly (e_sure_poly F O) (fun _ _ _ _ h => h) rfl) (fun vs H Q E h => cut_imp (fun _ _ _ _ h => h) (fun _ _ _ _ h => h) vs H Q E h) fun xs st k ex h => runC_len h
theorem k_told {P : Program} {w : World} {K : PySem.W.Frag} {mg : Str → Option Value} {base : Heap} {cl : Nat → Addr} {n : Nat} (F : Fx K mg cl) (O : Ow P w K mg base cl (callN n) n) {fd : FuncData} (FD : FunD K "told" "told" (defArgs s_told) (defBody s_told) (defScope s_told) [] [] (He.ga K "told") fd) : FOk K cl P w mg base (callN (n + 1)) (n + 1) 8 (He.ga K "told") fd P_told :=
  fok_imp (ΦB := fun _ => runB 1 1 (b_told (callN n))) (fok_of FD sc_told (e_told F O) (fun _ _ _ _ h => h) rfl) (fun vs H Q E h => cut_imp (fun _ _ _ _ h => h) (fun _ _ _ _ h => h) vs H Q E h) fun xs st k ex h => runC_len h
theorem k_trimmed_powers {P : Program} {w : World} {K : PySem.W.Frag} {mg : Str → Option Value} {base : Heap} {cl : Nat → Addr} {n : Nat} (F : Fx K mg cl) (O : Ow P w K mg base cl (callN n) n) {fd : FuncData} (FD : FunD K "trimmed_powers" "trimmed_powers" (defArgs s_trimmed_powers) (defBody s_trimmed_powers) (defScope s_trimmed_powers) [] [] (He.ga K "trimmed_powers") fd) : FOk K cl P w mg base (callN (n + 1)) (n + 1) 9 (He.ga K "trimmed_powers") fd P_trimmed_powers :=
  fok_imp (ΦB := fun _ => runB 1 1 (b_trimmed_powers (callN n))) (fok_of FD sc_trimmed_powers (e_trimmed_powers F O) (fun _ _ _ _ h => h) rfl) (fun vs H Q E h => cut_imp (fun _ _ _ _ h => h) (fun _ _ _ _ h => h) vs H Q E h) fun xs st k ex h => runC_len h
theorem k_power_in {P : Program} {w : World} {K : PySem.W.Frag} {mg : Str → Option Value} {base : Heap} {cl : Nat → Addr} {n : Nat} (F : Fx K mg cl) (O : Ow P w K mg base cl (callN n) n) {fd : FuncData} (FD : FunD K "power_in" "power_in" (defArgs s_power_in) (defBody s_power_in) (defScope s_power_in) [] [] (He.ga K "power_in") fd) : FOk K cl P w mg base (callN (n + 1)) (n + 1) 10 (He.ga K "power_in") fd P_power_in :=
  fok_imp (ΦB := fun _ => runB 2 0 (b_power_in (callN n))) (fok_of FD sc_power_in (e_power_in F O) (fun _ _ _ _ h => h) rfl) (fun vs H Q E h => cut_imp (fun _ _ _ _ h => h) (fun _ _ _ _ h => h) vs H Q E h) fun xs st k ex h => runC_len h
theorem k_unknowns_of {P : Program} {w : World} {K : PySem.W.Frag} {mg : Str → Option Value} {base : Heap} {cl : Nat → Addr} {n : Nat} (F : Fx K mg cl) (O : Ow P w K mg base cl (callN n) n) {fd : FuncData} (FD : FunD K "unknowns_of" "unknowns_of" (defArgs s_unknowns_of) (defBody s_unknowns_of) (defScope s_unknowns_of) [] [] (He.ga K "unknowns_of") fd) : FOk K cl P w mg base (callN (n + 1)) (n + 1) 11 (He.ga K "unknowns_of") fd P_unknowns_of :=
  fok_imp (ΦB := fun _ => runB 1 3 (b_unknowns_of (callN n))) (fok_of FD sc_unknowns_of (e_unknowns_of F O) (fun _ _ _ _ h => h) rfl) (fun vs H Q E h => cut_imp (fun _ _ _ _ h => h) (fun _ _ _ _ h => h) vs H Q E h) fun xs st k ex h => runC_len h
theorem k_degree_of {P : Program} {w : World} {K : PySem.W.Frag} {mg : Str → Option Value} {base : Heap} {cl : Nat → Addr} {n : Nat} (F : Fx K mg cl) (O : Ow P w K mg base cl (callN n) n) {fd : FuncData} (FD : FunD K "degree_of" "degree_of" (defArgs s_degree_of) (defBody s_degree_of) (defScope s_degree_of) [] [] (He.ga K "degree_of") fd) : FOk K cl P w mg base (callN (n + 1)) (n + 1) 12 (He.ga K "degree_of") fd P_degree_of :=
  fok_imp (ΦB := fun _ => runB 2 2 (b_degree_of (callN n))) (fok_of FD sc_degree_of (e_degree_of F O) (fun _ _ _ _ h => h) rfl) (fun vs H Q E h => cut_imp (fun _ _ _ _ h => h) (fun _ _ _ _ h => h) vs H Q E h) fun xs st k ex h => runC_len h
theorem k_without {P : Program} {w : World} {K : PySem.W.Frag} {mg : Str → Option Value} {base : Heap} {cl : Nat → Addr} {n : Nat} (F : Fx K mg cl) (O : Ow P w K mg base cl (callN n) n) {fd : FuncData} (FD : FunD K "without" "without" (defArgs s_without) (defBody s_without) (defScope s_without) [] [] (He.ga K "without") fd) : FOk K cl P w mg base (callN (n + 1)) (n + 1) 13 (He.ga K "without") fd P_without :=
  fok_imp (ΦB := fun _ => runB 2 0 (b_without (callN n))) (fok_of FD sc_without (e_without F O) (fun _ _ _ _ h => h) rfl) (fun vs H Q E h => cut_imp (fun _ _ _ _ h => h) (fun _ _ _ _ h => h) vs H Q E h) fun xs st k ex h => runC_len h
theorem k_parts_of {P : Program} {w : World} {K : PySem.W.Frag} {mg : Str → Option Value} {base : Heap} {cl : Nat → Addr} {n : Nat} (F : Fx K mg cl) (O : Ow P w K mg base cl (callN n) n) {fd : FuncData} (FD : FunD K "parts_of" "parts_of" (defArgs s_parts_of) (defBody s_parts_of) (defScope s_parts_of) [] [] (He.ga K "parts_of") fd) : FOk K cl P w mg base (callN (n + 1)) (n + 1) 14 (He.ga K "parts_of") fd P_parts_of :=
  fok_imp (ΦB := fun _ => runB 2 5 (b_parts_of (callN n))) (fok_of FD sc_parts_of (e_parts_of F O) (fun _ _ _ _ h => h) rfl) (fun vs H Q E h => cut_imp (fun _ _ _ _ h => h) (fun _ _ _ _ h => h) vs H Q E h) fun xs st k ex h => runC_len h
theorem k_by_prime {P : Program} {w : World} {K : PySem.W.Frag} {mg : Str → Option Value} {base : Heap} {cl : Nat → Addr} {n : Nat} (F : Fx K mg cl) (O : Ow P w K mg base cl (callN n) n) {fd : FuncData} (FD : FunD K "by_prime" "by_prime" (defArgs s_by_prime) (defBody s_by_prime) (defScope s_by_prime) [] [] (He.ga K "by_prime") fd) : FOk K cl P w mg base (callN (n + 1)) (n + 1) 15 (He.ga K "by_prime") fd P_by_prime :=
  fok_imp (ΦB := fun _ => runB 1 2 (b_by_prime (callN n))) (fok_of FD sc_by_prime (e_by_prime F O) (fun _ _ _ _ h => h) rfl) (fun vs H Q E h => cut_imp (fun _ _ _ _ h => h) (fun _ _ _ _ h => h) vs H Q E h) fun xs st k ex h => runC_len h
theorem k_inverse_of {P : Program} {w : World} {K : PySem.W.Frag} {mg : Str → Option Value} {base : Heap} {cl : Nat → Addr} {n : Nat} (F : Fx K mg cl) (O : Ow P w K mg base cl (callN n) n) {fd : FuncData} (FD : FunD K "inverse_of" "inverse_of" (defArgs s_inverse_of) (defBody s_inverse_of) (defScope s_inverse_of) [] [] (He.ga K "inverse_of") fd) : FOk K cl P w mg base (callN (n + 1)) (n + 1) 16 (He.ga K "inverse_of") fd P_inverse_of :=
  fok_imp (ΦB := fun _ => runB 1 5 (b_inverse_of (callN n))) (fok_of FD sc_inverse_of (e_inverse_of F O) (fun _ _ _ _ h => h) rfl) (fun vs H Q E h => cut_imp (fun _ _ _ _ h => h) (fun _ _ _ _ h => h) vs H Q E h) fun xs st k ex h => runC_len h
theorem k_are_surely_apart {P : Program} {w : World} {K : PySem.W.Frag} {mg : Str → Option Value} {base : Heap} {cl : Nat → Addr} {n : Nat} (F : Fx K mg cl) (O : Ow P w K mg base cl (callN n) n) {fd : FuncData} (FD : FunD K "are_surely_apart" "are_surely_apart" (defArgs s_are_surely_apart) (defBody s_are_surely_apart) (defScope s_are_surely_apart) [] [] (He.ga K "are_surely_apart") fd) : FOk K cl P w mg base (callN (n + 1)) (n + 1) 17 (He.ga K "are_surely_apart") fd P_are_surely_apart :=
  fok_imp (ΦB := fun _ => runB 2 8 (b_are_surely_apart (callN n))) (fok_of FD sc_are_surely_apart (e_are_surely_apart F O) (fun _ _ _ _ h => h) rfl) (fun vs H Q E h => cut_imp (fun _ _ _ _ h => h) (fun _ _ _ _ h => h) vs H Q E h) fun xs st k ex h => runC_len h
theorem k_numbers_of {P : Program} {w : World} {K : PySem.W.Frag} {mg : Str → Option Value} {base : Heap} {cl : Nat → Addr} {n : Nat} (F : Fx K mg cl) (O : Ow P w K mg base cl (callN n) n) {fd : FuncData} (FD : FunD K "numbers_of" "numbers_of" (defArgs s_numbers_of) (defBody s_numbers_of) (defScope s_numbers_of) [] [] (He.ga K "numbers_of") fd) : FOk K cl P w mg base (callN (n + 1)) (n + 1) 18 (He.ga K "numbers_of") fd P_numbers_of :=
  fok_imp (ΦB := fun _ => runB 2 2 (b_numbers_of (callN n))) (fok_of FD sc_numbers_of (e_numbers_of F O) (fun _ _ _ _ h => h) rfl) (fun vs H Q E h => cut_imp (fun _ _ _ _ h => h) (fun _ _ _ _ h => h) vs H Q E h) fun xs st k ex h => runC_len h
theorem k_least_row {P : Program} {w : World} {K : PySem.W.Frag} {mg : Str → Option Value} {base : Heap} {cl : Nat → Addr} {n : Nat} (F : Fx K mg cl) (O : Ow P w K mg base cl (callN n) n) {fd : FuncData} (FD : FunD K "least_row" "least_row" (defArgs s_least_row) (defBody s_least_row) (defScope s_least_row) [] [] (He.ga K "least_row") fd) : FOk K cl P w mg base (callN (n + 1)) (n + 1) 19 (He.ga K "least_row") fd P_least_row :=
  fok_imp (ΦB := fun _ => runB 1 3 (b_least_row (callN n))) (fok_of FD sc_least_row (e_least_row F O) (fun _ _ _ _ h => h) rfl) (fun vs H Q E h => cut_imp (fun _ _ _ _ h => h) (fun _ _ _ _ h => h) vs H Q E h) fun xs st k ex h => runC_len h
theorem k_derived_row {P : Program} {w : World} {K : PySem.W.Frag} {mg : Str → Option Value} {base : Heap} {cl : Nat → Addr} {n : Nat} (F : Fx K mg cl) (O : Ow P w K mg base cl (callN n) n) {fd : FuncData} (FD : FunD K "derived_row" "derived_row" (defArgs s_derived_row) (defBody s_derived_row) (defScope s_derived_row) [] [] (He.ga K "derived_row") fd) : FOk K cl P w mg base (callN (n + 1)) (n + 1) 20 (He.ga K "derived_row") fd P_derived_row :=
  fok_imp (ΦB := fun _ => runB 1 2 (b_derived_row (callN n))) (fok_of FD sc_derived_row (e_derived_row F O) (fun _ _ _ _ h => h) rfl) (fun vs H Q E h => cut_imp (fun _ _ _ _ h => h) (fun _ _ _ _ h => h) vs H Q E h) fun xs st k ex h => runC_len h
theorem k_rest_row {P : Program} {w : World} {K : PySem.W.Frag} {mg : Str → Option Value} {base : Heap} {cl : Nat → Addr} {n : Nat} (F : Fx K mg cl) (O : Ow P w K mg base cl (callN n) n) {fd : FuncData} (FD : FunD K "rest_row" "rest_row" (defArgs s_rest_row) (defBody s_rest_row) (defScope s_rest_row) [] [] (He.ga K "rest_row") fd) : FOk K cl P w mg base (callN (n + 1)) (n + 1) 21 (He.ga K "rest_row") fd P_rest_row :=
  fok_imp (ΦB := fun _ => runB 2 7 (b_rest_row (callN n))) (fok_of FD sc_rest_row (e_rest_row F O) (fun _ _ _ _ h => h) rfl) (fun vs H Q E h => cut_imp (fun _ _ _ _ h => h) (fun _ _ _ _ h => h) vs H Q E h) fun xs st k ex h => runC_len h
theorem k_common_row {P : Program} {w : World} {K : PySem.W.Frag} {mg : Str → Option Value} {base : Heap} {cl : Nat → Addr} {n : Nat} (F : Fx K mg cl) (O : Ow P w K mg base cl (callN n) n) {fd : FuncData} (FD : FunD K "common_row" "common_row" (defArgs s_common_row) (defBody s_common_row) (defScope s_common_row) [] [] (He.ga K "common_row") fd) : FOk K cl P w mg base (callN (n + 1)) (n + 1) 22 (He.ga K "common_row") fd P_common_row :=
  fok_imp (ΦB := fun _ => runB 2 3 (b_common_row (callN n))) (fok_of FD sc_common_row (e_common_row F O) (fun _ _ _ _ h => h) rfl) (fun vs H Q E h => cut_imp (fun _ _ _ _ h => h) (fun _ _ _ _ h => h) vs H Q E h) fun xs st k ex h => runC_len h
theorem k_divided_row {P : Program} {w : World} {K : PySem.W.Frag} {mg : Str → Option Value} {base : Heap} {cl : Nat → Addr} {n : Nat} (F : Fx K mg cl) (O : Ow P w K mg base cl (callN n) n) {fd : FuncData} (FD : FunD K "divided_row" "divided_row" (defArgs s_divided_row) (defBody s_divided_row) (defScope s_divided_row) [] [] (He.ga K "divided_row") fd) : FOk K cl P w mg base (callN (n + 1)) (n + 1) 23 (He.ga K "divided_row") fd P_divided_row :=
  fok_imp (ΦB := fun _ => runB 2 8 (b_divided_row (callN n))) (fok_of FD sc_divided_row (e_divided_row F O) (fun _ _ _ _ h => h) rfl) (fun vs H Q E h => cut_imp (fun _ _ _ _ h => h) (fun _ _ _ _ h => h) vs H Q E h) fun xs st k ex h => runC_len h
theorem k_single_row {P : Program} {w : World} {K : PySem.W.Frag} {mg : Str → Option Value} {base : Heap} {cl : Nat → Addr} {n : Nat} (F : Fx K mg cl) (O : Ow P w K mg base cl (callN n) n) {fd : FuncData} (FD : FunD K "single_row" "single_row" (defArgs s_single_row) (defBody s_single_row) (defScope s_single_row) [] [] (He.ga K "single_row") fd) : FOk K cl P w mg base (callN (n + 1)) (n + 1) 24 (He.ga K "single_row") fd P_single_row :=
  fok_imp (ΦB := fun _ => runB 1 1 (b_single_row (callN n))) (fok_of FD sc_single_row (e_single_row F O) (fun _ _ _ _ h => h) rfl) (fun vs H Q E h => cut_imp (fun _ _ _ _ h => h) (fun _ _ _ _ h => h) vs H Q E h) fun xs st k ex h => runC_len h
theorem k_parted_rows {P : Program} {w : World} {K : PySem.W.Frag} {mg : Str → Option Value} {base : Heap} {cl : Nat → Addr} {n : Nat} (F : Fx K mg cl) (O : Ow P w K mg base cl (callN n) n) {fd : FuncData} (FD : FunD K "parted_rows" "parted_rows" (defArgs s_parted_rows) (defBody s_parted_rows) (defScope s_parted_rows) [] [] (He.ga K "parted_rows") fd) : FOk K cl P w mg base (callN (n + 1)) (n + 1) 25 (He.ga K "parted_rows") fd P_parted_rows :=
  fok_imp (ΦB := fun _ => runB 1 8 (b_parted_rows (callN n))) (fok_of FD sc_parted_rows (e_parted_rows F O) (fun _ _ _ _ h => h) rfl) (fun vs H Q E h => cut_imp (fun _ _ _ _ h => h) (fun _ _ _ _ h => h) vs H Q E h) fun xs st k ex h => runC_len h
theorem k_shared_unknown {P : Program} {w : World} {K : PySem.W.Frag} {mg : Str → Option Value} {base : Heap} {cl : Nat → Addr} {n : Nat} (F : Fx K mg cl) (O : Ow P w K mg base cl (callN n) n) {fd : FuncData} (FD : FunD K "shared_unknown" "shared_unknown" (defArgs s_shared_unknown) (defBody s_shared_unknown) (defScope s_shared_unknown) [] [] (He.ga K "shared_unknown") fd) : FOk K cl P w mg base (callN (n + 1)) (n + 1) 26 (He.ga K "shared_unknown") fd P_shared_unknown :=
  fok_imp (ΦB := fun _ => runB 1 3 (b_shared_unknown (callN n))) (fok_of FD sc_shared_unknown (e_shared_unknown F O) (fun _ _ _ _ h => h) rfl) (fun vs H Q E h => cut_imp (fun _ _ _ _ h => h) (fun _ _ _ _ h => h) vs H Q E h) fun xs st k ex h => runC_len h
theorem k_poly_of_row {P : Program} {w : World} {K : PySem.W.Frag} {mg : Str → Option Value} {base : Heap} {cl : Nat → Addr} {n : Nat} (F : Fx K mg cl) (O : Ow P w K mg base cl (callN n) n) {fd : FuncData} (FD : FunD K "poly_of_row" "poly_of_row" (defArgs s_poly_of_row) (defBody s_poly_of_row) (defScope s_poly_of_row) [] [] (He.ga K "poly_of_row") fd) : FOk K cl P w mg base (callN (n + 1)) (n + 1) 27 (He.ga K "poly_of_row") fd P_poly_of_row :=
  fok_imp (ΦB := fun _ => runB 2 3 (b_poly_of_row (callN n))) (fok_of FD sc_poly_of_row (e_poly_of_row F O) (fun _ _ _ _ h => h) rfl) (fun vs H Q E h => cut_imp (fun _ _ _ _ h => h) (fun _ _ _ _ h => h) vs H Q E h) fun xs st k ex h => runC_len h
theorem k_risen_row {P : Program} {w : World} {K : PySem.W.Frag} {mg : Str → Option Value} {base : Heap} {cl : Nat → Addr} {n : Nat} (F : Fx K mg cl) (O : Ow P w K mg base cl (callN n) n) {fd : FuncData} (FD : FunD K "risen_row" "risen_row" (defArgs s_risen_row) (defBody s_risen_row) (defScope s_risen_row) [] [] (He.ga K "risen_row") fd) : FOk K cl P w mg base (callN (n + 1)) (n + 1) 28 (He.ga K "risen_row") fd P_risen_row :=
  fok_imp (ΦB := fun _ => runB 1 2 (b_risen_row (callN n))) (fok_of FD sc_risen_row (e_risen_row F O) (fun _ _ _ _ h => h) rfl) (fun vs H Q E h => cut_imp (fun _ _ _ _ h => h) (fun _ _ _ _ h => h) vs H Q E h) fun xs st k ex h => runC_len h
theorem k_two_rows {P : Program} {w : World} {K : PySem.W.Frag} {mg : Str → Option Value} {base : Heap} {cl : Nat → Addr} {n : Nat} (F : Fx K mg cl) (O : Ow P w K mg base cl (callN n) n) {fd : FuncData} (FD : FunD K "two_rows" "two_rows" (defArgs s_two_rows) (defBody s_two_rows) (defScope s_two_rows) [] [] (He.ga K "two_rows") fd) : FOk K cl P w mg base (callN (n + 1)) (n + 1) 29 (He.ga K "two_rows") fd P_two_rows :=
  fok_imp (ΦB := fun _ => runB 2 3 (b_two_rows (callN n))) (fok_of FD sc_two_rows (e_two_rows F O) (fun _ _ _ _ h => h) rfl) (fun vs H Q E h => cut_imp (fun _ _ _ _ h => h) (fun _ _ _ _ h => h) vs H Q E h) fun xs st k ex h => runC_len h
theorem k_one_row {P : Program} {w : World} {K : PySem.W.Frag} {mg : Str → Option Value} {base : Heap} {cl : Nat → Addr} {n : Nat} (F : Fx K mg cl) (O : Ow P w K mg base cl (callN n) n) {fd : FuncData} (FD : FunD K "one_row" "one_row" (defArgs s_one_row) (defBody s_one_row) (defScope s_one_row) [] [] (He.ga K "one_row") fd) : FOk K cl P w mg base (callN (n + 1)) (n + 1) 30 (He.ga K "one_row") fd P_one_row :=
  fok_imp (ΦB := fun _ => runB 1 2 (b_one_row (callN n))) (fok_of FD sc_one_row (e_one_row F O) (fun _ _ _ _ h => h) rfl) (fun vs H Q E h => cut_imp (fun _ _ _ _ h => h) (fun _ _ _ _ h => h) vs H Q E h) fun xs st k ex h => runC_len h
theorem k_rows_divided {P : Program} {w : World} {K : PySem.W.Frag} {mg : Str → Option Value} {base : Heap} {cl : Nat → Addr} {n : Nat} (F : Fx K mg cl) (O : Ow P w K mg base cl (callN n) n) {fd : FuncData} (FD : FunD K "rows_divided" "rows_divided" (defArgs s_rows_divided) (defBody s_rows_divided) (defScope s_rows_divided) [] [] (He.ga K "rows_divided") fd) : FOk K cl P w mg base (callN (n + 1)) (n + 1) 31 (He.ga K "rows_divided") fd P_rows_divided :=
  fok_imp (ΦB := fun _ => runB 2 12 (b_rows_divided (callN n))) (fok_of FD sc_rows_divided (e_rows_divided F O) (fun _ _ _ _ h => h) rfl) (fun vs H Q E h => cut_imp (fun _ _ _ _ h => h) (fun _ _ _ _ h => h) vs H Q E h) fun xs st k ex h => runC_len h
theorem k_trimmed_row {P : Program} {w : World} {K : PySem.W.Frag} {mg : Str → Option Value} {base : Heap} {cl : Nat → Addr} {n : Nat} (F : Fx K mg cl) (O : Ow P w K mg base cl (callN n) n) {fd : FuncData} (FD : FunD K "trimmed_row" "trimmed_row" (defArgs s_trimmed_row) (defBody s_trimmed_row) (defScope s_trimmed_row) [] [] (He.ga K "trimmed_row") fd) : FOk K cl P w mg base (callN (n + 1)) (n + 1) 32 (He.ga K "trimmed_row") fd P_trimmed_row :=
  fok_imp (ΦB := fun _ => runB 1 1 (b_trimmed_row (callN n))) (fok_of FD sc_trimmed_row (e_trimmed_row F O) (fun _ _ _ _ h => h) rfl) (fun vs H Q E h => cut_imp (fun _ _ _ _ h => h) (fun _ _ _ _ h => h) vs H Q E h) fun xs st k ex h => runC_len h
theorem k_uni_divided {P : Program} {w : World} {K : PySem.W.Frag} {mg : Str → Option Value} {base : Heap} {cl : Nat → Addr} {n : Nat} (F : Fx K mg cl) (O : Ow P w K mg base cl (callN n) n) {fd : FuncData} (FD : FunD K "uni_divided" "uni_divided" (defArgs s_uni_divided) (defBody s_uni_divided) (defScope s_uni_divided) [] [] (He.ga K "uni_divided") fd) : FOk K cl P w mg base (callN (n + 1)) (n + 1) 33 (He.ga K "uni_divided") fd P_uni_divided :=
  fok_imp (ΦB := fun _ => runB 2 6 (b_uni_divided (callN n))) (fok_of FD sc_uni_divided (e_uni_divided F O) (fun _ _ _ _ h => h) rfl) (fun vs H Q E h => cut_imp (fun _ _ _ _ h => h) (fun _ _ _ _ h => h) vs H Q E h) fun xs st k ex h => runC_len h
theorem k_uni_divides {P : Program} {w : World} {K : PySem.W.Frag} {mg : Str → Option Value} {base : Heap} {cl : Nat → Addr} {n : Nat} (F : Fx K mg cl) (O : Ow P w K mg base cl (callN n) n) {fd : FuncData} (FD : FunD K "uni_divides" "uni_divides" (defArgs s_uni_divides) (defBody s_uni_divides) (defScope s_uni_divides) [] [] (He.ga K "uni_divides") fd) : FOk K cl P w mg base (callN (n + 1)) (n + 1) 34 (He.ga K "uni_divides") fd P_uni_divides :=
  fok_imp (ΦB := fun _ => runB 2 0 (b_uni_divides (callN n))) (fok_of FD sc_uni_divides (e_uni_divides F O) (fun _ _ _ _ h => h) rfl) (fun vs H Q E h => cut_imp (fun _ _ _ _ h => h) (fun _ _ _ _ h => h) vs H Q E h) fun xs st k ex h => runC_len h
theorem k_uni_common {P : Program} {w : World} {K : PySem.W.Frag} {mg : Str → Option Value} {base : Heap} {cl : Nat → Addr} {n : Nat} (F : Fx K mg cl) (O : Ow P w K mg base cl (callN n) n) {fd : FuncData} (FD : FunD K "uni_common" "uni_common" (defArgs s_uni_common) (defBody s_uni_common) (defScope s_uni_common) [] [] (He.ga K "uni_common") fd) : FOk K cl P w mg base (callN (n + 1)) (n + 1) 35 (He.ga K "uni_common") fd P_uni_common :=
  fok_imp (ΦB := fun _ => runB 2 3 (b_uni_common (callN n))) (fok_of FD sc_uni_common (e_uni_common F O) (fun _ _ _ _ h => h) rfl) (fun vs H Q E h => cut_imp (fun _ _ _ _ h => h) (fun _ _ _ _ h => h) vs H Q E h) fun xs st k ex h => runC_len h
theorem k_uni_single {P : Program} {w : World} {K : PySem.W.Frag} {mg : Str → Option Value} {base : Heap} {cl : Nat → Addr} {n : Nat} (F : Fx K mg cl) (O : Ow P w K mg base cl (callN n) n) {fd : FuncData} (FD : FunD K "uni_single" "uni_single" (defArgs s_uni_single) (defBody s_uni_single) (defScope s_uni_single) [] [] (He.ga K "uni_single") fd) : FOk K cl P w mg base (callN (n + 1)) (n + 1) 36 (He.ga K "uni_single") fd P_uni_single :=
  fok_imp (ΦB := fun _ => runB 1 2 (b_uni_single (callN n))) (fok_of FD sc_uni_single (e_uni_single F O) (fun _ _ _ _ h => h) rfl) (fun vs H Q E h => cut_imp (fun _ _ _ _ h => h) (fun _ _ _ _ h => h) vs H Q E h) fun xs st k ex h => runC_len h
theorem k_uni_layers {P : Program} {w : World} {K : PySem.W.Frag} {mg : Str → Option Value} {base : Heap} {cl : Nat → Addr} {n : Nat} (F : Fx K mg cl) (O : Ow P w K mg base cl (callN n) n) {fd : FuncData} (FD : FunD K "uni_layers" "uni_layers" (defArgs s_uni_layers) (defBody s_uni_layers) (defScope s_uni_layers) [] [] (He.ga K "uni_layers") fd) : FOk K cl P w mg base (callN (n + 1)) (n + 1) 37 (He.ga K "uni_layers") fd P_uni_layers :=
  fok_imp (ΦB := fun _ => runB 1 7 (b_uni_layers (callN n))) (fok_of FD sc_uni_layers (e_uni_layers F O) (fun _ _ _ _ h => h) rfl) (fun vs H Q E h => cut_imp (fun _ _ _ _ h => h) (fun _ _ _ _ h => h) vs H Q E h) fun xs st k ex h => runC_len h
theorem k_uni_parted {P : Program} {w : World} {K : PySem.W.Frag} {mg : Str → Option Value} {base : Heap} {cl : Nat → Addr} {n : Nat} (F : Fx K mg cl) (O : Ow P w K mg base cl (callN n) n) {fd : FuncData} (FD : FunD K "uni_parted" "uni_parted" (defArgs s_uni_parted) (defBody s_uni_parted) (defScope s_uni_parted) [] [] (He.ga K "uni_parted") fd) : FOk K cl P w mg base (callN (n + 1)) (n + 1) 38 (He.ga K "uni_parted") fd P_uni_parted :=
  fok_imp (ΦB := fun _ => runB 1 6 (b_uni_parted (callN n))) (fok_of FD sc_uni_parted (e_uni_parted F O) (fun _ _ _ _ h => h) rfl) (fun vs H Q E h => cut_imp (fun _ _ _ _ h => h) (fun _ _ _ _ h => h) vs H Q E h) fun xs st k ex h => runC_len h
theorem k_is_uni_parting {P : Program} {w : World} {K : PySem.W.Frag} {mg : Str → Option Value} {base : Heap} {cl : Nat → Addr} {n : Nat} (F : Fx K mg cl) (O : Ow P w K mg base cl (callN n) n) {fd : FuncData} (FD : FunD K "is_uni_parting" "is_uni_parting" (defArgs s_is_uni_parting) (defBody s_is_uni_parting) (defScope s_is_uni_parting) [] [] (He.ga K "is_uni_parting") fd) : FOk K cl P w mg base (callN (n + 1)) (n + 1) 39 (He.ga K "is_uni_parting") fd P_is_uni_parting :=
  fok_imp (ΦB := fun _ => runB 2 7 (b_is_uni_parting (callN n))) (fok_of FD sc_is_uni_parting (e_is_uni_parting F O) (fun _ _ _ _ h => h) rfl) (fun vs H Q E h => cut_imp (fun _ _ _ _ h => h) (fun _ _ _ _ h => h) vs H Q E h) fun xs st k ex h => runC_len h
theorem k_are_rows_apart {P : Program} {w : World} {K : PySem.W.Frag} {mg : Str → Option Value} {base : Heap} {cl : Nat → Addr} {n : Nat} (F : Fx K mg cl) (O : Ow P w K mg base cl (callN n) n) {fd : FuncData} (FD : FunD K "are_rows_apart" "are_rows_apart" (defArgs s_are_rows_apart) (defBody s_are_rows_apart) (defScope s_are_rows_apart) [] [] (He.ga K "are_rows_apart") fd) : FOk K cl P w mg base (callN (n + 1)) (n + 1) 40 (He.ga K "are_rows_apart") fd P_are_rows_apart :=
  fok_imp (ΦB := fun _ => runB 1 3 (b_are_rows_apart (callN n))) (fok_of FD sc_are_rows_apart (e_are_rows_apart F O) (fun _ _ _ _ h => h) rfl) (fun vs H Q E h => cut_imp (fun _ _ _ _ h => h) (fun _ _ _ _ h => h) vs H Q E h) fun xs st k ex h => runC_len h
theorem k_is_covered {P : Program} {w : World} {K : PySem.W.Frag} {mg : Str → Option Value} {base : Heap} {cl : Nat → Addr} {n : Nat} (F : Fx K mg cl) (O : Ow P w K mg base cl (callN n) n) {fd : FuncData} (FD : FunD K "is_covered" "is_covered" (defArgs s_is_covered) (defBody s_is_covered) (defScope s_is_covered) [] [] (He.ga K "is_covered") fd) : FOk K cl P w mg base (callN (n + 1)) (n + 1) 41 (He.ga K "is_covered") fd P_is_covered :=
  fok_imp (ΦB := fun _ => runB 2 3 (b_is_covered (callN n))) (fok_of FD sc_is_covered (e_is_covered F O) (fun _ _ _ _ h => h) rfl) (fun vs H Q E h => cut_imp (fun _ _ _ _ h => h) (fun _ _ _ _ h => h) vs H Q E h) fun xs st k ex h => runC_len h
theorem k_have_same_roots {P : Program} {w : World} {K : PySem.W.Frag} {mg : Str → Option Value} {base : Heap} {cl : Nat → Addr} {n : Nat} (F : Fx K mg cl) (O : Ow P w K mg base cl (callN n) n) {fd : FuncData} (FD : FunD K "have_same_roots" "have_same_roots" (defArgs s_have_same_roots) (defBody s_have_same_roots) (defScope s_have_same_roots) [] [] (He.ga K "have_same_roots") fd) : FOk K cl P w mg base (callN (n + 1)) (n + 1) 42 (He.ga K "have_same_roots") fd P_have_same_roots :=
  fok_imp (ΦB := fun _ => runB 2 1 (b_have_same_roots (callN n))) (fok_of FD sc_have_same_roots (e_have_same_roots F O) (fun _ _ _ _ h => h) rfl) (fun vs H Q E h => cut_imp (fun _ _ _ _ h => h) (fun _ _ _ _ h => h) vs H Q E h) fun xs st k ex h => runC_len h
theorem k__law_box {P : Program} {w : World} {K : PySem.W.Frag} {mg : Str → Option Value} {base : Heap} {cl : Nat → Addr} {n : Nat} (F : Fx K mg cl) (O : Ow P w K mg base cl (callN n) n) {fd : FuncData} (FD : FunD K "_law_box" "_law_box" (defArgs s__law_box) (defBody s__law_box) (defScope s__law_box) [] [] (He.ga K "_law_box") fd) : FOk K cl P w mg base (callN (n + 1)) (n + 1) 43 (He.ga K "_law_box") fd P__law_box :=
  fok_imp (ΦB := fun _ => runB 2 1 (bBox 1709975 2305843009213693951 39373)) (fok_of FD sc__law_box (e__law_box F O) (fun _ _ _ _ h => h) rfl) (fun vs H Q E h => box_imp (by decide) (by decide) (by decide) (by decide) (fun _ _ _ _ h => h) (fun _ _ _ _ h => h) vs H Q E h) fun xs st k ex h => by
    obtain ⟨_, rfl, _⟩ := boxF_some h
    rfl
theorem k__law_take {P : Program} {w : World} {K : PySem.W.Frag} {mg : Str → Option Value} {base : Heap} {cl : Nat → Addr} {n : Nat} (F : Fx K mg cl) (O : Ow P w K mg base cl (callN n) n) {fd : FuncData} (FD : FunD K "_law_take" "_law_take" (defArgs s__law_take) (defBody s__law_take) (defScope s__law_take) [] [] (He.ga K "_law_take") fd) : FOk K cl P w mg base (callN (n + 1)) (n + 1) 44 (He.ga K "_law_take") fd P__law_take :=
  fok_imp (ΦB := fun _ => runB 2 4 bTake) (fok_of FD sc__law_take (e__law_take F O) (fun _ _ _ _ h => h) rfl) (fun vs H Q E h => take_imp (fun _ _ _ _ h => h) (fun _ _ _ _ h => h) vs H Q E h) fun xs st k ex h => by
    obtain ⟨_, _, _, rfl, _⟩ := takeF_some h
    rfl
theorem k__law_cells {P : Program} {w : World} {K : PySem.W.Frag} {mg : Str → Option Value} {base : Heap} {cl : Nat → Addr} {n : Nat} (F : Fx K mg cl) (O : Ow P w K mg base cl (callN n) n) {fd : FuncData} (FD : FunD K "_law_cells" "_law_cells" (defArgs s__law_cells) (defBody s__law_cells) (defScope s__law_cells) [] [] (He.ga K "_law_cells") fd) : FOk K cl P w mg base (callN (n + 1)) (n + 1) 45 (He.ga K "_law_cells") fd P__law_cells :=
  fok_imp (ΦB := fun _ => runB 2 4 (bCells (eVar 1))) (fok_of FD sc__law_cells (e__law_cells F O) (fun _ _ _ _ h => h) rfl) (fun vs H Q E h => cells_imp modOk_1 (fun _ _ _ _ h => h) (fun _ _ _ _ h => h) vs H Q E h) fun xs st k ex h => by
    obtain ⟨_, rfl, _⟩ := cellsF_some h
    rfl
theorem k__law_same {P : Program} {w : World} {K : PySem.W.Frag} {mg : Str → Option Value} {base : Heap} {cl : Nat → Addr} {n : Nat} (F : Fx K mg cl) (O : Ow P w K mg base cl (callN n) n) {fd : FuncData} (FD : FunD K "_law_same" "_law_same" (defArgs s__law_same) (defBody s__law_same) (defScope s__law_same) [] [] (He.ga K "_law_same") fd) : FOk K cl P w mg base (callN (n + 1)) (n + 1) 46 (He.ga K "_law_same") fd P__law_same :=
  fok_imp (ΦB := fun _ => runB 2 2 (b__law_same (callN n))) (fok_of FD sc__law_same (e__law_same F O) (fun _ _ _ _ h => h) rfl) (fun vs H Q E h => cut_imp (fun _ _ _ _ h => h) (fun _ _ _ _ h => h) vs H Q E h) fun xs st k ex h => runC_len h
theorem k__law_mixed {P : Program} {w : World} {K : PySem.W.Frag} {mg : Str → Option Value} {base : Heap} {cl : Nat → Addr} {n : Nat} (F : Fx K mg cl) (O : Ow P w K mg base cl (callN n) n) {fd : FuncData} (FD : FunD K "_law_mixed" "_law_mixed" (defArgs s__law_mixed) (defBody s__law_mixed) (defScope s__law_mixed) [] [] (He.ga K "_law_mixed") fd) : FOk K cl P w mg base (callN (n + 1)) (n + 1) 47 (He.ga K "_law_mixed") fd P__law_mixed :=
  fok_of FD sc__law_mixed (e__law_mixed F O) (fun xs st k ex h => mixed_run (n := n) (fun xs st k ex h => by
    cases n with
    | zero =>
      unfold mixF at h
      repeat' split at h
      all_goals first | exact h.elim | exact (show False from h).elim
    | succ n => exact h) (fun hn xs st k ex hz => by
    cases n with
    | zero => exact absurd hn (Nat.lt_irrefl 0)
    | succ n => exact hz) h) rfl
theorem k__law_uni {P : Program} {w : World} {K : PySem.W.Frag} {mg : Str → Option Value} {base : Heap} {cl : Nat → Addr} {n : Nat} (F : Fx K mg cl) (O : Ow P w K mg base cl (callN n) n) {fd : FuncData} (FD : FunD K "_law_uni" "_law_uni" (defArgs s__law_uni) (defBody s__law_uni) (defScope s__law_uni) [] [] (He.ga K "_law_uni") fd) : FOk K cl P w mg base (callN (n + 1)) (n + 1) 48 (He.ga K "_law_uni") fd P__law_uni :=
  fok_imp (ΦB := fun _ => runB 2 3 (b__law_uni (callN n))) (fok_of FD sc__law_uni (e__law_uni F O) (fun _ _ _ _ h => h) rfl) (fun vs H Q E h => cut_imp (fun _ _ _ _ h => h) (fun _ _ _ _ h => h) vs H Q E h) fun xs st k ex h => runC_len h
theorem k__law_times {P : Program} {w : World} {K : PySem.W.Frag} {mg : Str → Option Value} {base : Heap} {cl : Nat → Addr} {n : Nat} (F : Fx K mg cl) (O : Ow P w K mg base cl (callN n) n) {fd : FuncData} (FD : FunD K "_law_times" "_law_times" (defArgs s__law_times) (defBody s__law_times) (defScope s__law_times) [] [] (He.ga K "_law_times") fd) : FOk K cl P w mg base (callN (n + 1)) (n + 1) 49 (He.ga K "_law_times") fd P__law_times :=
  fok_imp (ΦB := fun _ => runB 2 5 (b__law_times (callN n))) (fok_of FD sc__law_times (e__law_times F O) (fun _ _ _ _ h => h) rfl) (fun vs H Q E h => cut_imp (fun _ _ _ _ h => h) (fun _ _ _ _ h => h) vs H Q E h) fun xs st k ex h => runC_len h
theorem k__law_try {P : Program} {w : World} {K : PySem.W.Frag} {mg : Str → Option Value} {base : Heap} {cl : Nat → Addr} {n : Nat} (F : Fx K mg cl) (O : Ow P w K mg base cl (callN n) n) {fd : FuncData} (FD : FunD K "_law_try" "_law_try" (defArgs s__law_try) (defBody s__law_try) (defScope s__law_try) [] [] (He.ga K "_law_try") fd) : FOk K cl P w mg base (callN (n + 1)) (n + 1) 50 (He.ga K "_law_try") fd P__law_try :=
  fok_imp (ΦB := fun _ => runB 3 3 (b__law_try (callN n))) (fok_of FD sc__law_try (e__law_try F O) (fun _ _ _ _ h => h) rfl) (fun vs H Q E h => cut_imp (fun _ _ _ _ h => h) (fun _ _ _ _ h => h) vs H Q E h) fun xs st k ex h => runC_len h
theorem k__law_told_right {P : Program} {w : World} {K : PySem.W.Frag} {mg : Str → Option Value} {base : Heap} {cl : Nat → Addr} {n : Nat} (F : Fx K mg cl) (O : Ow P w K mg base cl (callN n) n) {fd : FuncData} (FD : FunD K "_law_told_right" "_law_told_right" (defArgs s__law_told_right) (defBody s__law_told_right) (defScope s__law_told_right) [] [] (He.ga K "_law_told_right") fd) : FOk K cl P w mg base (callN (n + 1)) (n + 1) 51 (He.ga K "_law_told_right") fd P__law_told_right :=
  fok_imp (ΦB := fun _ => runB 1 15 (b__law_told_right (callN n))) (fok_of FD sc__law_told_right (e__law_told_right F O) (fun _ _ _ _ h => h) rfl) (fun vs H Q E h => cut_imp (fun _ _ _ _ h => h) (fun _ _ _ _ h => h) vs H Q E h) fun xs st k ex h => runC_len h
theorem k_law {P : Program} {w : World} {K : PySem.W.Frag} {mg : Str → Option Value} {base : Heap} {cl : Nat → Addr} {n : Nat} (F : Fx K mg cl) (O : Ow P w K mg base cl (callN n) n) {fd : FuncData} (FD : FunD K "law" "law" (defArgs s_law) (defBody s_law) (defScope s_law) [] [] (He.ga K "law") fd) : FOk K cl P w mg base (callN (n + 1)) (n + 1) 52 (He.ga K "law") fd P_law :=
  fok_imp (ΦB := fun _ => runB 1 9 (b_law (callN n))) (fok_of FD sc_law (e_law F O) (fun _ _ _ _ h => h) rfl) (fun vs H Q E h => cut_imp (fun _ _ _ _ h => h) (fun _ _ _ _ h => h) vs H Q E h) fun xs st k ex h => runC_len h
theorem B_is_number {K : PySem.W.Frag} {fd : FuncData} (FD : FunD K "is_number" "is_number" (defArgs s_is_number) (defBody s_is_number) (defScope s_is_number) [] [] (He.ga K "is_number") fd) : Binds K fd P_is_number [] := FD.bindsN (fun _ _ _ _ _ _ us hl => match us, hl with | [_], _ => rfl)
theorem B_is_tuple_of {K : PySem.W.Frag} {fd : FuncData} (FD : FunD K "is_tuple_of" "is_tuple_of" (defArgs s_is_tuple_of) (defBody s_is_tuple_of) (defScope s_is_tuple_of) [] [] (He.ga K "is_tuple_of") fd) : Binds K fd P_is_tuple_of [] := FD.bindsN (fun _ _ _ _ _ _ us hl => match us, hl with | [_, _], _ => rfl)
theorem B_tuple_of {K : PySem.W.Frag} {fd : FuncData} (FD : FunD K "tuple_of" "tuple_of" (defArgs s_tuple_of) (defBody s_tuple_of) (defScope s_tuple_of) [] [] (He.ga K "tuple_of") fd) : Binds K fd P_tuple_of [] := FD.bindsN (fun _ _ _ _ _ _ us hl => match us, hl with | [_], _ => rfl)
theorem B_sure {K : PySem.W.Frag} {fd : FuncData} (FD : FunD K "sure" "sure" (defArgs s_sure) (defBody s_sure) (defScope s_sure) [] [] (He.ga K "sure") fd) : Binds K fd P_sure [] := FD.bindsN (fun _ _ _ _ _ _ us hl => match us, hl with | [_], _ => rfl)
theorem B_common_divisor {K : PySem.W.Frag} {fd : FuncData} (FD : FunD K "common_divisor" "common_divisor" (defArgs s_common_divisor) (defBody s_common_divisor) (defScope s_common_divisor) [] [] (He.ga K "common_divisor") fd) : Binds K fd P_common_divisor [] := FD.bindsN (fun _ _ _ _ _ _ us hl => match us, hl with | [_, _], _ => rfl)
theorem B_are_powers {K : PySem.W.Frag} {fd : FuncData} (FD : FunD K "are_powers" "are_powers" (defArgs s_are_powers) (defBody s_are_powers) (defScope s_are_powers) [] [] (He.ga K "are_powers") fd) : Binds K fd P_are_powers [] := FD.bindsN (fun _ _ _ _ _ _ us hl => match us, hl with | [_], _ => rfl)
theorem B_is_poly {K : PySem.W.Frag} {fd : FuncData} (FD : FunD K "is_poly" "is_poly" (defArgs s_is_poly) (defBody s_is_poly) (defScope s_is_poly) [] [] (He.ga K "is_poly") fd) : Binds K fd P_is_poly [] := FD.bindsN (fun _ _ _ _ _ _ us hl => match us, hl with | [_], _ => rfl)
theorem B_sure_poly {K : PySem.W.Frag} {fd : FuncData} (FD : FunD K "sure_poly" "sure_poly" (defArgs s_sure_poly) (defBody s_sure_poly) (defScope s_sure_poly) [] [] (He.ga K "sure_poly") fd) : Binds K fd P_sure_poly [] := FD.bindsN (fun _ _ _ _ _ _ us hl => match us, hl with | [_], _ => rfl)
theorem B_told {K : PySem.W.Frag} {fd : FuncData} (FD : FunD K "told" "told" (defArgs s_told) (defBody s_told) (defScope s_told) [] [] (He.ga K "told") fd) : Binds K fd P_told [] := FD.bindsN (fun _ _ _ _ _ _ us hl => match us, hl with | [_], _ => rfl)
theorem B_trimmed_powers {K : PySem.W.Frag} {fd : FuncData} (FD : FunD K "trimmed_powers" "trimmed_powers" (defArgs s_trimmed_powers) (defBody s_trimmed_powers) (defScope s_trimmed_powers) [] [] (He.ga K "trimmed_powers") fd) : Binds K fd P_trimmed_powers [] := FD.bindsN (fun _ _ _ _ _ _ us hl => match us, hl with | [_], _ => rfl)
theorem B_power_in {K : PySem.W.Frag} {fd : FuncData} (FD : FunD K "power_in" "power_in" (defArgs s_power_in) (defBody s_power_in) (defScope s_power_in) [] [] (He.ga K "power_in") fd) : Binds K fd P_power_in [] := FD.bindsN (fun _ _ _ _ _ _ us hl => match us, hl with | [_, _], _ => rfl)
theorem B_unknowns_of {K : PySem.W.Frag} {fd : FuncData} (FD : FunD K "unknowns_of" "unknowns_of" (defArgs s_unknowns_of) (defBody s_unknowns_of) (defScope s_unknowns_of) [] [] (He.ga K "unknowns_of") fd) : Binds K fd P_unknowns_of [] := FD.bindsN (fun _ _ _ _ _ _ us hl => match us, hl with | [_], _ => rfl)
theorem B_degree_of {K : PySem.W.Frag} {fd : FuncData} (FD : FunD K "degree_of" "degree_of" (defArgs s_degree_of) (defBody s_degree_of) (defScope s_degree_of) [] [] (He.ga K "degree_of") fd) : Binds K fd P_degree_of [] := FD.bindsN (fun _ _ _ _ _ _ us hl => match us, hl with | [_, _], _ => rfl)
theorem B_without {K : PySem.W.Frag} {fd : FuncData} (FD : FunD K "without" "without" (defArgs s_without) (defBody s_without) (defScope s_without) [] [] (He.ga K "without") fd) : Binds K fd P_without [] := FD.bindsN (fun _ _ _ _ _ _ us hl => match us, hl with | [_, _], _ => rfl)
theorem B_parts_of {K : PySem.W.Frag} {fd : FuncData} (FD : FunD K "parts_of" "parts_of" (defArgs s_parts_of) (defBody s_parts_of) (defScope s_parts_of) [] [] (He.ga K "parts_of") fd) : Binds K fd P_parts_of [] := FD.bindsN (fun _ _ _ _ _ _ us hl => match us, hl with | [_, _], _ => rfl)
theorem B_by_prime {K : PySem.W.Frag} {fd : FuncData} (FD : FunD K "by_prime" "by_prime" (defArgs s_by_prime) (defBody s_by_prime) (defScope s_by_prime) [] [] (He.ga K "by_prime") fd) : Binds K fd P_by_prime [] := FD.bindsN (fun _ _ _ _ _ _ us hl => match us, hl with | [_], _ => rfl)
theorem B_inverse_of {K : PySem.W.Frag} {fd : FuncData} (FD : FunD K "inverse_of" "inverse_of" (defArgs s_inverse_of) (defBody s_inverse_of) (defScope s_inverse_of) [] [] (He.ga K "inverse_of") fd) : Binds K fd P_inverse_of [] := FD.bindsN (fun _ _ _ _ _ _ us hl => match us, hl with | [_], _ => rfl)
theorem B_are_surely_apart {K : PySem.W.Frag} {fd : FuncData} (FD : FunD K "are_surely_apart" "are_surely_apart" (defArgs s_are_surely_apart) (defBody s_are_surely_apart) (defScope s_are_surely_apart) [] [] (He.ga K "are_surely_apart") fd) : Binds K fd P_are_surely_apart [] := FD.bindsN (fun _ _ _ _ _ _ us hl => match us, hl with | [_, _], _ => rfl)
theorem B_numbers_of {K : PySem.W.Frag} {fd : FuncData} (FD : FunD K "numbers_of" "numbers_of" (defArgs s_numbers_of) (defBody s_numbers_of) (defScope s_numbers_of) [] [] (He.ga K "numbers_of") fd) : Binds K fd P_numbers_of [] := FD.bindsN (fun _ _ _ _ _ _ us hl => match us, hl with | [_, _], _ => rfl)
theorem B_least_row {K : PySem.W.Frag} {fd : FuncData} (FD : FunD K "least_row" "least_row" (defArgs s_least_row) (defBody s_least_row) (defScope s_least_row) [] [] (He.ga K "least_row") fd) : Binds K fd P_least_row [] := FD.bindsN (fun _ _ _ _ _ _ us hl => match us, hl with | [_], _ => rfl)
theorem B_derived_row {K : PySem.W.Frag} {fd : FuncData} (FD : FunD K "derived_row" "derived_row" (defArgs s_derived_row) (defBody s_derived_row) (defScope s_derived_row) [] [] (He.ga K "derived_row") fd) : Binds K fd P_derived_row [] := FD.bindsN (fun _ _ _ _ _ _ us hl => match us, hl with | [_], _ => rfl)
theorem B_rest_row {K : PySem.W.Frag} {fd : FuncData} (FD : FunD K "rest_row" "rest_row" (defArgs s_rest_row) (defBody s_rest_row) (defScope s_rest_row) [] [] (He.ga K "rest_row") fd) : Binds K fd P_rest_row [] := FD.bindsN (fun _ _ _ _ _ _ us hl => match us, hl with | [_, _], _ => rfl)
theorem B_common_row {K : PySem.W.Frag} {fd : FuncData} (FD : FunD K "common_row" "common_row" (defArgs s_common_row) (defBody s_common_row) (defScope s_common_row) [] [] (He.ga K "common_row") fd) : Binds K fd P_common_row [] := FD.bindsN (fun _ _ _ _ _ _ us hl => match us, hl with | [_, _], _ => rfl)
theorem B_divided_row {K : PySem.W.Frag} {fd : FuncData} (FD : FunD K "divided_row" "divided_row" (defArgs s_divided_row) (defBody s_divided_row) (defScope s_divided_row) [] [] (He.ga K "divided_row") fd) : Binds K fd P_divided_row [] := FD.bindsN (fun _ _ _ _ _ _ us hl => match us, hl with | [_, _], _ => rfl)
theorem B_single_row {K : PySem.W.Frag} {fd : FuncData} (FD : FunD K "single_row" "single_row" (defArgs s_single_row) (defBody s_single_row) (defScope s_single_row) [] [] (He.ga K "single_row") fd) : Binds K fd P_single_row [] := FD.bindsN (fun _ _ _ _ _ _ us hl => match us, hl with | [_], _ => rfl)
theorem B_parted_rows {K : PySem.W.Frag} {fd : FuncData} (FD : FunD K "parted_rows" "parted_rows" (defArgs s_parted_rows) (defBody s_parted_rows) (defScope s_parted_rows) [] [] (He.ga K "parted_rows") fd) : Binds K fd P_parted_rows [] := FD.bindsN (fun _ _ _ _ _ _ us hl => match us, hl with | [_], _ => rfl)
theorem B_shared_unknown {K : PySem.W.Frag} {fd : FuncData} (FD : FunD K "shared_unknown" "shared_unknown" (defArgs s_shared_unknown) (defBody s_shared_unknown) (defScope s_shared_unknown) [] [] (He.ga K "shared_unknown") fd) : Binds K fd P_shared_unknown [] := FD.bindsN (fun _ _ _ _ _ _ us hl => match us, hl with | [_], _ => rfl)
theorem B_poly_of_row {K : PySem.W.Frag} {fd : FuncData} (FD : FunD K "poly_of_row" "poly_of_row" (defArgs s_poly_of_row) (defBody s_poly_of_row) (defScope s_poly_of_row) [] [] (He.ga K "poly_of_row") fd) : Binds K fd P_poly_of_row [] := FD.bindsN (fun _ _ _ _ _ _ us hl => match us, hl with | [_, _], _ => rfl)
theorem B_risen_row {K : PySem.W.Frag} {fd : FuncData} (FD : FunD K "risen_row" "risen_row" (defArgs s_risen_row) (defBody s_risen_row) (defScope s_risen_row) [] [] (He.ga K "risen_row") fd) : Binds K fd P_risen_row [] := FD.bindsN (fun _ _ _ _ _ _ us hl => match us, hl with | [_], _ => rfl)
theorem B_two_rows {K : PySem.W.Frag} {fd : FuncData} (FD : FunD K "two_rows" "two_rows" (defArgs s_two_rows) (defBody s_two_rows) (defScope s_two_rows) [] [] (He.ga K "two_rows") fd) : Binds K fd P_two_rows [] := FD.bindsN (fun _ _ _ _ _ _ us hl => match us, hl with | [_, _], _ => rfl)
theorem B_one_row {K : PySem.W.Frag} {fd : FuncData} (FD : FunD K "one_row" "one_row" (defArgs s_one_row) (defBody s_one_row) (defScope s_one_row) [] [] (He.ga K "one_row") fd) : Binds K fd P_one_row [] := FD.bindsN (fun _ _ _ _ _ _ us hl => match us, hl with | [_], _ => rfl)
theorem B_rows_divided {K : PySem.W.Frag} {fd : FuncData} (FD : FunD K "rows_divided" "rows_divided" (defArgs s_rows_divided) (defBody s_rows_divided) (defScope s_rows_divided) [] [] (He.ga K "rows_divided") fd) : Binds K fd P_rows_divided [] := FD.bindsN (fun _ _ _ _ _ _ us hl => match us, hl with | [_, _], _ => rfl)
theorem B_trimmed_row {K : PySem.W.Frag} {fd : FuncData} (FD : FunD K "trimmed_row" "trimmed_row" (defArgs s_trimmed_row) (defBody s_trimmed_row) (defScope s_trimmed_row) [] [] (He.ga K "trimmed_row") fd) : Binds K fd P_trimmed_row [] := FD.bindsN (fun _ _ _ _ _ _ us hl => match us, hl with | [_], _ => rfl)
theorem B_uni_divided {K : PySem.W.Frag} {fd : FuncData} (FD : FunD K "uni_divided" "uni_divided" (defArgs s_uni_divided) (defBody s_uni_divided) (defScope s_uni_divided) [] [] (He.ga K "uni_divided") fd) : Binds K fd P_uni_divided [] := FD.bindsN (fun _ _ _ _ _ _ us hl => match us, hl with | [_, _], _ => rfl)
theorem B_uni_divides {K : PySem.W.Frag} {fd : FuncData} (FD : FunD K "uni_divides" "uni_divides" (defArgs s_uni_divides) (defBody s_uni_divides) (defScope s_uni_divides) [] [] (He.ga K "uni_divides") fd) : Binds K fd P_uni_divides [] := FD.bindsN (fun _ _ _ _ _ _ us hl => match us, hl with | [_, _], _ => rfl)
theorem B_uni_common {K : PySem.W.Frag} {fd : FuncData} (FD : FunD K "uni_common" "uni_common" (defArgs s_uni_common) (defBody s_uni_common) (defScope s_uni_common) [] [] (He.ga K "uni_common") fd) : Binds K fd P_uni_common [] := FD.bindsN (fun _ _ _ _ _ _ us hl => match us, hl with | [_, _], _ => rfl)
theorem B_uni_single {K : PySem.W.Frag} {fd : FuncData} (FD : FunD K "uni_single" "uni_single" (defArgs s_uni_single) (defBody s_uni_single) (defScope s_uni_single) [] [] (He.ga K "uni_single") fd) : Binds K fd P_uni_single [] := FD.bindsN (fun _ _ _ _ _ _ us hl => match us, hl with | [_], _ => rfl)
theorem B_uni_layers {K : PySem.W.Frag} {fd : FuncData} (FD : FunD K "uni_layers" "uni_layers" (defArgs s_uni_layers) (defBody s_uni_layers) (defScope s_uni_layers) [] [] (He.ga K "uni_layers") fd) : Binds K fd P_uni_layers [] := FD.bindsN (fun _ _ _ _ _ _ us hl => match us, hl with | [_], _ => rfl)
theorem B_uni_parted {K : PySem.W.Frag} {fd : FuncData} (FD : FunD K "uni_parted" "uni_parted" (defArgs s_uni_parted) (defBody s_uni_parted) (defScope s_uni_parted) [] [] (He.ga K "uni_parted") fd) : Binds K fd P_uni_parted [] := FD.bindsN (fun _ _ _ _ _ _ us hl => match us, hl with | [_], _ => rfl)
theorem B_is_uni_parting {K : PySem.W.Frag} {fd : FuncData} (FD : FunD K "is_uni_parting" "is_uni_parting" (defArgs s_is_uni_parting) (defBody s_is_uni_parting) (defScope s_is_uni_parting) [] [] (He.ga K "is_uni_parting") fd) : Binds K fd P_is_uni_parting [] := FD.bindsN (fun _ _ _ _ _ _ us hl => match us, hl with | [_, _], _ => rfl)
theorem B_are_rows_apart {K : PySem.W.Frag} {fd : FuncData} (FD : FunD K "are_rows_apart" "are_rows_apart" (defArgs s_are_rows_apart) (defBody s_are_rows_apart) (defScope s_are_rows_apart) [] [] (He.ga K "are_rows_apart") fd) : Binds K fd P_are_rows_apart [] := FD.bindsN (fun _ _ _ _ _ _ us hl => match us, hl with | [_], _ => rfl)
theorem B_is_covered {K : PySem.W.Frag} {fd : FuncData} (FD : FunD K "is_covered" "is_covered" (defArgs s_is_covered) (defBody s_is_covered) (defScope s_is_covered) [] [] (He.ga K "is_covered") fd) : Binds K fd P_is_covered [] := FD.bindsN (fun _ _ _ _ _ _ us hl => match us, hl with | [_, _], _ => rfl)
theorem B_have_same_roots {K : PySem.W.Frag} {fd : FuncData} (FD : FunD K "have_same_roots" "have_same_roots" (defArgs s_have_same_roots) (defBody s_have_same_roots) (defScope s_have_same_roots) [] [] (He.ga K "have_same_roots") fd) : Binds K fd P_have_same_roots [] := FD.bindsN (fun _ _ _ _ _ _ us hl => match us, hl with | [_, _], _ => rfl)
theorem B__law_box {K : PySem.W.Frag} {fd : FuncData} (FD : FunD K "_law_box" "_law_box" (defArgs s__law_box) (defBody s__law_box) (defScope s__law_box) [] [] (He.ga K "_law_box") fd) : Binds K fd P__law_box [] := FD.bindsN (fun _ _ _ _ _ _ us hl => match us, hl with | [_, _], _ => rfl)
theorem B__law_take {K : PySem.W.Frag} {fd : FuncData} (FD : FunD K "_law_take" "_law_take" (defArgs s__law_take) (defBody s__law_take) (defScope s__law_take) [] [] (He.ga K "_law_take") fd) : Binds K fd P__law_take [] := FD.bindsN (fun _ _ _ _ _ _ us hl => match us, hl with | [_, _], _ => rfl)
theorem B__law_cells {K : PySem.W.Frag} {fd : FuncData} (FD : FunD K "_law_cells" "_law_cells" (defArgs s__law_cells) (defBody s__law_cells) (defScope s__law_cells) [] [] (He.ga K "_law_cells") fd) : Binds K fd P__law_cells [] := FD.bindsN (fun _ _ _ _ _ _ us hl => match us, hl with | [_, _], _ => rfl)
theorem B__law_same {K : PySem.W.Frag} {fd : FuncData} (FD : FunD K "_law_same" "_law_same" (defArgs s__law_same) (defBody s__law_same) (defScope s__law_same) [] [] (He.ga K "_law_same") fd) : Binds K fd P__law_same [] := FD.bindsN (fun _ _ _ _ _ _ us hl => match us, hl with | [_, _], _ => rfl)
theorem B__law_mixed {K : PySem.W.Frag} {fd : FuncData} (FD : FunD K "_law_mixed" "_law_mixed" (defArgs s__law_mixed) (defBody s__law_mixed) (defScope s__law_mixed) [] [] (He.ga K "_law_mixed") fd) : Binds K fd P__law_mixed [] := FD.bindsN (fun _ _ _ _ _ _ us hl => match us, hl with | [_, _], _ => rfl)
theorem B__law_uni {K : PySem.W.Frag} {fd : FuncData} (FD : FunD K "_law_uni" "_law_uni" (defArgs s__law_uni) (defBody s__law_uni) (defScope s__law_uni) [] [] (He.ga K "_law_uni") fd) : Binds K fd P__law_uni [] := FD.bindsN (fun _ _ _ _ _ _ us hl => match us, hl with | [_, _], _ => rfl)
theorem B__law_times {K : PySem.W.Frag} {fd : FuncData} (FD : FunD K "_law_times" "_law_times" (defArgs s__law_times) (defBody s__law_times) (defScope s__law_times) [] [] (He.ga K "_law_times") fd) : Binds K fd P__law_times [] := FD.bindsN (fun _ _ _ _ _ _ us hl => match us, hl with | [_, _], _ => rfl)
theorem B__law_try {K : PySem.W.Frag} {fd : FuncData} (FD : FunD K "_law_try" "_law_try" (defArgs s__law_try) (defBody s__law_try) (defScope s__law_try) [] [] (He.ga K "_law_try") fd) : Binds K fd P__law_try [] := FD.bindsN (fun _ _ _ _ _ _ us hl => match us, hl with | [_, _, _], _ => rfl)
theorem B__law_told_right {K : PySem.W.Frag} {fd : FuncData} (FD : FunD K "_law_told_right" "_law_told_right" (defArgs s__law_told_right) (defBody s__law_told_right) (defScope s__law_told_right) [] [] (He.ga K "_law_told_right") fd) : Binds K fd P__law_told_right [] := FD.bindsN (fun _ _ _ _ _ _ us hl => match us, hl with | [_], _ => rfl)
theorem B_law {K : PySem.W.Frag} {fd : FuncData} (FD : FunD K "law" "law" (defArgs s_law) (defBody s_law) (defScope s_law) [] [] (He.ga K "law") fd) : Binds K fd P_law [] := FD.bindsN (fun _ _ _ _ _ _ us hl => match us, hl with | [_], _ => rfl)
theorem Bk_uni_divided_0_other_one {K : PySem.W.Frag} {fd : FuncData} (FD : FunD K "uni_divided" "uni_divided" (defArgs s_uni_divided) (defBody s_uni_divided) (defScope s_uni_divided) [] [] (He.ga K "uni_divided") fd) : KPick fd P_uni_divided 0 ["other", "one"] [1, 0] := kpick_of FD (fun _ _ _ _ _ _ us ws hl hw => match us, hl, ws, hw with | [], _, [_, _], _ => rfl)
theorem Bk_uni_divides_0_other_one {K : PySem.W.Frag} {fd : FuncData} (FD : FunD K "uni_divides" "uni_divides" (defArgs s_uni_divides) (defBody s_uni_divides) (defScope s_uni_divides) [] [] (He.ga K "uni_divides") fd) : KPick fd P_uni_divides 0 ["other", "one"] [1, 0] := kpick_of FD (fun _ _ _ _ _ _ us ws hl hw => match us, hl, ws, hw with | [], _, [_, _], _ => rfl)
theorem Bk_uni_common_0_other_one {K : PySem.W.Frag} {fd : FuncData} (FD : FunD K "uni_common" "uni_common" (defArgs s_uni_common) (defBody s_uni_common) (defScope s_uni_common) [] [] (He.ga K "uni_common") fd) : KPick fd P_uni_common 0 ["other", "one"] [1, 0] := kpick_of FD (fun _ _ _ _ _ _ us ws hl hw => match us, hl, ws, hw with | [], _, [_, _], _ => rfl)
theorem Bk_uni_single_0_poly {K : PySem.W.Frag} {fd : FuncData} (FD : FunD K "uni_single" "uni_single" (defArgs s_uni_single) (defBody s_uni_single) (defScope s_uni_single) [] [] (He.ga K "uni_single") fd) : KPick fd P_uni_single 0 ["poly"] [0] := kpick_of FD (fun _ _ _ _ _ _ us ws hl hw => match us, hl, ws, hw with | [], _, [_], _ => rfl)
theorem Bk_uni_layers_0_poly {K : PySem.W.Frag} {fd : FuncData} (FD : FunD K "uni_layers" "uni_layers" (defArgs s_uni_layers) (defBody s_uni_layers) (defScope s_uni_layers) [] [] (He.ga K "uni_layers") fd) : KPick fd P_uni_layers 0 ["poly"] [0] := kpick_of FD (fun _ _ _ _ _ _ us ws hl hw => match us, hl, ws, hw with | [], _, [_], _ => rfl)
theorem Bk_uni_parted_0_polys {K : PySem.W.Frag} {fd : FuncData} (FD : FunD K "uni_parted" "uni_parted" (defArgs s_uni_parted) (defBody s_uni_parted) (defScope s_uni_parted) [] [] (He.ga K "uni_parted") fd) : KPick fd P_uni_parted 0 ["polys"] [0] := kpick_of FD (fun _ _ _ _ _ _ us ws hl hw => match us, hl, ws, hw with | [], _, [_], _ => rfl)
theorem Bk_is_uni_parting_0_thing_polys {K : PySem.W.Frag} {fd : FuncData} (FD : FunD K "is_uni_parting" "is_uni_parting" (defArgs s_is_uni_parting) (defBody s_is_uni_parting) (defScope s_is_uni_parting) [] [] (He.ga K "is_uni_parting") fd) : KPick fd P_is_uni_parting 0 ["thing", "polys"] [1, 0] := kpick_of FD (fun _ _ _ _ _ _ us ws hl hw => match us, hl, ws, hw with | [], _, [_, _], _ => rfl)
theorem lvl0 {P : Program} {w : World} {K : PySem.W.Frag} {mg : Str → Option Value} {base : Heap} {cl : Nat → Addr} (F : Fx K mg cl) (D : Df K mg) : Ow P w K mg base cl (callN 0) 0 where
  f_is_number := by
    obtain ⟨fd, FD⟩ := D.d_is_number
    exact ⟨_, fd, P_is_number, D.m_is_number, FD.kp, B_is_number FD, fok0 fun _ _ _ _ h => h⟩
  f_is_tuple_of := by
    obtain ⟨fd, FD⟩ := D.d_is_tuple_of
    exact ⟨_, fd, P_is_tuple_of, D.m_is_tuple_of, FD.kp, B_is_tuple_of FD, fok0 fun _ _ _ _ h => h⟩
  f_tuple_of := by
    obtain ⟨fd, FD⟩ := D.d_tuple_of
    exact ⟨_, fd, P_tuple_of, D.m_tuple_of, FD.kp, B_tuple_of FD, fok0 fun _ _ _ _ h => h⟩
  f_sure := by
    obtain ⟨fd, FD⟩ := D.d_sure
    exact ⟨_, fd, P_sure, D.m_sure, FD.kp, B_sure FD, fok0 fun _ _ _ _ h => h⟩
  f_common_divisor := by
    obtain ⟨fd, FD⟩ := D.d_common_divisor
    exact ⟨_, fd, P_common_divisor, D.m_common_divisor, FD.kp, B_common_divisor FD, fok0 fun _ _ _ _ h => h⟩
  f_are_powers := by
    obtain ⟨fd, FD⟩ := D.d_are_powers
    exact ⟨_, fd, P_are_powers, D.m_are_powers, FD.kp, B_are_powers FD, fok0 fun _ _ _ _ h => h⟩
  f_is_poly := by
    obtain ⟨fd, FD⟩ := D.d_is_poly
    exact ⟨_, fd, P_is_poly, D.m_is_poly, FD.kp, B_is_poly FD, fok0 fun _ _ _ _ h => h⟩
  f_sure_poly := by
    obtain ⟨fd, FD⟩ := D.d_sure_poly
    exact ⟨_, fd, P_sure_poly, D.m_sure_poly, FD.kp, B_sure_poly FD, fok0 fun _ _ _ _ h => h⟩
  f_told := by
    obtain ⟨fd, FD⟩ := D.d_told
    exact ⟨_, fd, P_told, D.m_told, FD.kp, B_told FD, fok0 fun _ _ _ _ h => h⟩
  f_trimmed_powers := by
    obtain ⟨fd, FD⟩ := D.d_trimmed_powers
    exact ⟨_, fd, P_trimmed_powers, D.m_trimmed_powers, FD.kp, B_trimmed_powers FD, fok0 fun _ _ _ _ h => h⟩
  f_power_in := by
    obtain ⟨fd, FD⟩ := D.d_power_in
    exact ⟨_, fd, P_power_in, D.m_power_in, FD.kp, B_power_in FD, fok0 fun _ _ _ _ h => h⟩
  f_unknowns_of := by
    obtain ⟨fd, FD⟩ := D.d_unknowns_of
    exact ⟨_, fd, P_unknowns_of, D.m_unknowns_of, FD.kp, B_unknowns_of FD, fok0 fun _ _ _ _ h => h⟩
  f_degree_of := by
    obtain ⟨fd, FD⟩ := D.d_degree_of
    exact ⟨_, fd, P_degree_of, D.m_degree_of, FD.kp, B_degree_of FD, fok0 fun _ _ _ _ h => h⟩
  f_without := by
    obtain ⟨fd, FD⟩ := D.d_without
    exact ⟨_, fd, P_without, D.m_without, FD.kp, B_without FD, fok0 fun _ _ _ _ h => h⟩
  f_parts_of := by
    obtain ⟨fd, FD⟩ := D.d_parts_of
    exact ⟨_, fd, P_parts_of, D.m_parts_of, FD.kp, B_parts_of FD, fok0 fun _ _ _ _ h => h⟩
  f_by_prime := by
    obtain ⟨fd, FD⟩ := D.d_by_prime
    exact ⟨_, fd, P_by_prime, D.m_by_prime, FD.kp, B_by_prime FD, fok0 fun _ _ _ _ h => h⟩
  f_inverse_of := by
    obtain ⟨fd, FD⟩ := D.d_inverse_of
    exact ⟨_, fd, P_inverse_of, D.m_inverse_of, FD.kp, B_inverse_of FD, fok0 fun _ _ _ _ h => h⟩
  f_are_surely_apart := by
    obtain ⟨fd, FD⟩ := D.d_are_surely_apart
    exact ⟨_, fd, P_are_surely_apart, D.m_are_surely_apart, FD.kp, B_are_surely_apart FD, fok0 fun _ _ _ _ h => h⟩
  f_numbers_of := by
    obtain ⟨fd, FD⟩ := D.d_numbers_of
    exact ⟨_, fd, P_numbers_of, D.m_numbers_of, FD.kp, B_numbers_of FD, fok0 fun _ _ _ _ h => h⟩
  f_least_row := by
    obtain ⟨fd, FD⟩ := D.d_least_row
    exact ⟨_, fd, P_least_row, D.m_least_row, FD.kp, B_least_row FD, fok0 fun _ _ _ _ h => h⟩
  f_derived_row := by
    obtain ⟨fd, FD⟩ := D.d_derived_row
    exact ⟨_, fd, P_derived_row, D.m_derived_row, FD.kp, B_derived_row FD, fok0 fun _ _ _ _ h => h⟩
  f_rest_row := by
    obtain ⟨fd, FD⟩ := D.d_rest_row
    exact ⟨_, fd, P_rest_row, D.m_rest_row, FD.kp, B_rest_row FD, fok0 fun _ _ _ _ h => h⟩
  f_common_row := by
    obtain ⟨fd, FD⟩ := D.d_common_row
    exact ⟨_, fd, P_common_row, D.m_common_row, FD.kp, B_common_row FD, fok0 fun _ _ _ _ h => h⟩
  f_divided_row := by
    obtain ⟨fd, FD⟩ := D.d_divided_row
    exact ⟨_, fd, P_divided_row, D.m_divided_row, FD.kp, B_divided_row FD, fok0 fun _ _ _ _ h => h⟩
  f_single_row := by
    obtain ⟨fd, FD⟩ := D.d_single_row
    exact ⟨_, fd, P_single_row, D.m_single_row, FD.kp, B_single_row FD, fok0 fun _ _ _ _ h => h⟩
  f_parted_rows := by
    obtain ⟨fd, FD⟩ := D.d_parted_rows
    exact ⟨_, fd, P_parted_rows, D.m_parted_rows, FD.kp, B_parted_rows FD, fok0 fun _ _ _ _ h => h⟩
  f_shared_unknown := by
    obtain ⟨fd, FD⟩ := D.d_shared_unknown
    exact ⟨_, fd, P_shared_unknown, D.m_shared_unknown, FD.kp, B_shared_unknown FD, fok0 fun _ _ _ _ h => h⟩
  f_poly_of_row := by
    obtain ⟨fd, FD⟩ := D.d_poly_of_row
    exact ⟨_, fd, P_poly_of_row, D.m_poly_of_row, FD.kp, B_poly_of_row FD, fok0 fun _ _ _ _ h => h⟩
  f_risen_row := by
    obtain ⟨fd, FD⟩ := D.d_risen_row
    exact ⟨_, fd, P_risen_row, D.m_risen_row, FD.kp, B_risen_row FD, fok0 fun _ _ _ _ h => h⟩
  f_two_rows := by
    obtain ⟨fd, FD⟩ := D.d_two_rows
    exact ⟨_, fd, P_two_rows, D.m_two_rows, FD.kp, B_two_rows FD, fok0 fun _ _ _ _ h => h⟩
  f_one_row := by
    obtain ⟨fd, FD⟩ := D.d_one_row
    exact ⟨_, fd, P_one_row, D.m_one_row, FD.kp, B_one_row FD, fok0 fun _ _ _ _ h => h⟩
  f_rows_divided := by
    obtain ⟨fd, FD⟩ := D.d_rows_divided
    exact ⟨_, fd, P_rows_divided, D.m_rows_divided, FD.kp, B_rows_divided FD, fok0 fun _ _ _ _ h => h⟩
  f_trimmed_row := by
    obtain ⟨fd, FD⟩ := D.d_trimmed_row
    exact ⟨_, fd, P_trimmed_row, D.m_trimmed_row, FD.kp, B_trimmed_row FD, fok0 fun _ _ _ _ h => h⟩
  f_uni_divided := by
    obtain ⟨fd, FD⟩ := D.d_uni_divided
    exact ⟨_, fd, P_uni_divided, D.m_uni_divided, FD.kp, B_uni_divided FD, fok0 fun _ _ _ _ h => h⟩
  f_uni_divides := by
    obtain ⟨fd, FD⟩ := D.d_uni_divides
    exact ⟨_, fd, P_uni_divides, D.m_uni_divides, FD.kp, B_uni_divides FD, fok0 fun _ _ _ _ h => h⟩
  f_uni_common := by
    obtain ⟨fd, FD⟩ := D.d_uni_common
    exact ⟨_, fd, P_uni_common, D.m_uni_common, FD.kp, B_uni_common FD, fok0 fun _ _ _ _ h => h⟩
  f_uni_single := by
    obtain ⟨fd, FD⟩ := D.d_uni_single
    exact ⟨_, fd, P_uni_single, D.m_uni_single, FD.kp, B_uni_single FD, fok0 fun _ _ _ _ h => h⟩
  f_uni_layers := by
    obtain ⟨fd, FD⟩ := D.d_uni_layers
    exact ⟨_, fd, P_uni_layers, D.m_uni_layers, FD.kp, B_uni_layers FD, fok0 fun _ _ _ _ h => h⟩
  f_uni_parted := by
    obtain ⟨fd, FD⟩ := D.d_uni_parted
    exact ⟨_, fd, P_uni_parted, D.m_uni_parted, FD.kp, B_uni_parted FD, fok0 fun _ _ _ _ h => h⟩
  f_is_uni_parting := by
    obtain ⟨fd, FD⟩ := D.d_is_uni_parting
    exact ⟨_, fd, P_is_uni_parting, D.m_is_uni_parting, FD.kp, B_is_uni_parting FD, fok0 fun _ _ _ _ h => h⟩
  f_are_rows_apart := by
    obtain ⟨fd, FD⟩ := D.d_are_rows_apart
    exact ⟨_, fd, P_are_rows_apart, D.m_are_rows_apart, FD.kp, B_are_rows_apart FD, fok0 fun _ _ _ _ h => h⟩
  f_is_covered := by
    obtain ⟨fd, FD⟩ := D.d_is_covered
    exact ⟨_, fd, P_is_covered, D.m_is_covered, FD.kp, B_is_covered FD, fok0 fun _ _ _ _ h => h⟩
  f_have_same_roots := by
    obtain ⟨fd, FD⟩ := D.d_have_same_roots
    exact ⟨_, fd, P_have_same_roots, D.m_have_same_roots, FD.kp, B_have_same_roots FD, fok0 fun _ _ _ _ h => h⟩
  f__law_box := by
    obtain ⟨fd, FD⟩ := D.d__law_box
    exact ⟨_, fd, P__law_box, D.m__law_box, FD.kp, B__law_box FD, fok0 fun _ _ _ _ h => h⟩
  f__law_take := by
    obtain ⟨fd, FD⟩ := D.d__law_take
    exact ⟨_, fd, P__law_take, D.m__law_take, FD.kp, B__law_take FD, fok0 fun _ _ _ _ h => h⟩
  f__law_cells := by
    obtain ⟨fd, FD⟩ := D.d__law_cells
    exact ⟨_, fd, P__law_cells, D.m__law_cells, FD.kp, B__law_cells FD, fok0 fun _ _ _ _ h => h⟩
  f__law_same := by
    obtain ⟨fd, FD⟩ := D.d__law_same
    exact ⟨_, fd, P__law_same, D.m__law_same, FD.kp, B__law_same FD, fok0 fun _ _ _ _ h => h⟩
  f__law_mixed := by
    obtain ⟨fd, FD⟩ := D.d__law_mixed
    exact ⟨_, fd, P__law_mixed, D.m__law_mixed, FD.kp, B__law_mixed FD, fok0 fun _ _ _ _ h => h⟩
  f__law_uni := by
    obtain ⟨fd, FD⟩ := D.d__law_uni
    exact ⟨_, fd, P__law_uni, D.m__law_uni, FD.kp, B__law_uni FD, fok0 fun _ _ _ _ h => h⟩
  f__law_times := by
    obtain ⟨fd, FD⟩ := D.d__law_times
    exact ⟨_, fd, P__law_times, D.m__law_times, FD.kp, B__law_times FD, fok0 fun _ _ _ _ h => h⟩
  f__law_try := by
    obtain ⟨fd, FD⟩ := D.d__law_try
    exact ⟨_, fd, P__law_try, D.m__law_try, FD.kp, B__law_try FD, fok0 fun _ _ _ _ h => h⟩
  f__law_told_right := by
    obtain ⟨fd, FD⟩ := D.d__law_told_right
    exact ⟨_, fd, P__law_told_right, D.m__law_told_right, FD.kp, B__law_told_right FD, fok0 fun _ _ _ _ h => h⟩
  f_law := by
    obtain ⟨fd, FD⟩ := D.d_law
    exact ⟨_, fd, P_law, D.m_law, FD.kp, B_law FD, fok0 fun _ _ _ _ h => h⟩
  k_uni_divided_0_other_one := by
    obtain ⟨fd, FD⟩ := D.d_uni_divided
    exact ⟨_, fd, P_uni_divided, D.m_uni_divided, FD.kp, Bk_uni_divided_0_other_one FD, fok0 fun _ _ _ _ h => h⟩
  k_uni_divides_0_other_one := by
    obtain ⟨fd, FD⟩ := D.d_uni_divides
    exact ⟨_, fd, P_uni_divides, D.m_uni_divides, FD.kp, Bk_uni_divides_0_other_one FD, fok0 fun _ _ _ _ h => h⟩
  k_uni_common_0_other_one := by
    obtain ⟨fd, FD⟩ := D.d_uni_common
    exact ⟨_, fd, P_uni_common, D.m_uni_common, FD.kp, Bk_uni_common_0_other_one FD, fok0 fun _ _ _ _ h => h⟩
  k_uni_single_0_poly := by
    obtain ⟨fd, FD⟩ := D.d_uni_single
    exact ⟨_, fd, P_uni_single, D.m_uni_single, FD.kp, Bk_uni_single_0_poly FD, fok0 fun _ _ _ _ h => h⟩
  k_uni_layers_0_poly := by
    obtain ⟨fd, FD⟩ := D.d_uni_layers
    exact ⟨_, fd, P_uni_layers, D.m_uni_layers, FD.kp, Bk_uni_layers_0_poly FD, fok0 fun _ _ _ _ h => h⟩
  k_uni_parted_0_polys := by
    obtain ⟨fd, FD⟩ := D.d_uni_parted
    exact ⟨_, fd, P_uni_parted, D.m_uni_parted, FD.kp, Bk_uni_parted_0_polys FD, fok0 fun _ _ _ _ h => h⟩
  k_is_uni_parting_0_thing_polys := by
    obtain ⟨fd, FD⟩ := D.d_is_uni_parting
    exact ⟨_, fd, P_is_uni_parting, D.m_is_uni_parting, FD.kp, Bk_is_uni_parting_0_thing_polys FD, fok0 fun _ _ _ _ h => h⟩
theorem lvl1 {P : Program} {w : World} {K : PySem.W.Frag} {mg : Str → Option Value} {base : Heap} {cl : Nat → Addr} (F : Fx K mg cl) (D : Df K mg) {n : Nat} (O : Ow P w K mg base cl (callN n) n) : Ow P w K mg base cl (callN (n + 1)) (n + 1) where
  f_is_number := by
    obtain ⟨fd, FD⟩ := D.d_is_number
    exact ⟨_, fd, P_is_number, D.m_is_number, FD.kp, B_is_number FD, k_is_number F O FD⟩
  f_is_tuple_of := by
    obtain ⟨fd, FD⟩ := D.d_is_tuple_of
    exact ⟨_, fd, P_is_tuple_of, D.m_is_tuple_of, FD.kp, B_is_tuple_of FD, k_is_tuple_of F O FD⟩
  f_tuple_of := by
    obtain ⟨fd, FD⟩ := D.d_tuple_of
    exact ⟨_, fd, P_tuple_of, D.m_tuple_of, FD.kp, B_tuple_of FD, k_tuple_of F O FD⟩
  f_sure := by
    obtain ⟨fd, FD⟩ := D.d_sure
    exact ⟨_, fd, P_sure, D.m_sure, FD.kp, B_sure FD, k_sure F O FD⟩
  f_common_divisor := by
    obtain ⟨fd, FD⟩ := D.d_common_divisor
    exact ⟨_, fd, P_common_divisor, D.m_common_divisor, FD.kp, B_common_divisor FD, k_common_divisor F O FD⟩
  f_are_powers := by
    obtain ⟨fd, FD⟩ := D.d_are_powers
    exact ⟨_, fd, P_are_powers, D.m_are_powers, FD.kp, B_are_powers FD, k_are_powers F O FD⟩
  f_is_poly := by
    obtain ⟨fd, FD⟩ := D.d_is_poly
    exact ⟨_, fd, P_is_poly, D.m_is_poly, FD.kp, B_is_poly FD, k_is_poly F O FD⟩
  f_sure_poly := by
    obtain ⟨fd, FD⟩ := D.d_sure_poly
    exact ⟨_, fd, P_sure_poly, D.m_sure_poly, FD.kp, B_sure_poly FD, k_sure_poly F O FD⟩
  f_told := by
    obtain ⟨fd, FD⟩ := D.d_told
    exact ⟨_, fd, P_told, D.m_told, FD.kp, B_told FD, k_told F O FD⟩
  f_trimmed_powers := by
    obtain ⟨fd, FD⟩ := D.d_trimmed_powers
    exact ⟨_, fd, P_trimmed_powers, D.m_trimmed_powers, FD.kp, B_trimmed_powers FD, k_trimmed_powers F O FD⟩
  f_power_in := by
    obtain ⟨fd, FD⟩ := D.d_power_in
    exact ⟨_, fd, P_power_in, D.m_power_in, FD.kp, B_power_in FD, k_power_in F O FD⟩
  f_unknowns_of := by
    obtain ⟨fd, FD⟩ := D.d_unknowns_of
    exact ⟨_, fd, P_unknowns_of, D.m_unknowns_of, FD.kp, B_unknowns_of FD, k_unknowns_of F O FD⟩
  f_degree_of := by
    obtain ⟨fd, FD⟩ := D.d_degree_of
    exact ⟨_, fd, P_degree_of, D.m_degree_of, FD.kp, B_degree_of FD, k_degree_of F O FD⟩
  f_without := by
    obtain ⟨fd, FD⟩ := D.d_without
    exact ⟨_, fd, P_without, D.m_without, FD.kp, B_without FD, k_without F O FD⟩
  f_parts_of := by
    obtain ⟨fd, FD⟩ := D.d_parts_of
    exact ⟨_, fd, P_parts_of, D.m_parts_of, FD.kp, B_parts_of FD, k_parts_of F O FD⟩
  f_by_prime := by
    obtain ⟨fd, FD⟩ := D.d_by_prime
    exact ⟨_, fd, P_by_prime, D.m_by_prime, FD.kp, B_by_prime FD, k_by_prime F O FD⟩
  f_inverse_of := by
    obtain ⟨fd, FD⟩ := D.d_inverse_of
    exact ⟨_, fd, P_inverse_of, D.m_inverse_of, FD.kp, B_inverse_of FD, k_inverse_of F O FD⟩
  f_are_surely_apart := by
    obtain ⟨fd, FD⟩ := D.d_are_surely_apart
    exact ⟨_, fd, P_are_surely_apart, D.m_are_surely_apart, FD.kp, B_are_surely_apart FD, k_are_surely_apart F O FD⟩
  f_numbers_of := by
    obtain ⟨fd, FD⟩ := D.d_numbers_of
    exact ⟨_, fd, P_numbers_of, D.m_numbers_of, FD.kp, B_numbers_of FD, k_numbers_of F O FD⟩
  f_least_row := by
    obtain ⟨fd, FD⟩ := D.d_least_row
    exact ⟨_, fd, P_least_row, D.m_least_row, FD.kp, B_least_row FD, k_least_row F O FD⟩
  f_derived_row := by
    obtain ⟨fd, FD⟩ := D.d_derived_row
    exact ⟨_, fd, P_derived_row, D.m_derived_row, FD.kp, B_derived_row FD, k_derived_row F O FD⟩
  f_rest_row := by
    obtain ⟨fd, FD⟩ := D.d_rest_row
    exact ⟨_, fd, P_rest_row, D.m_rest_row, FD.kp, B_rest_row FD, k_rest_row F O FD⟩
  f_common_row := by
    obtain ⟨fd, FD⟩ := D.d_common_row
    exact ⟨_, fd, P_common_row, D.m_common_row, FD.kp, B_common_row FD, k_common_row F O FD⟩
  f_divided_row := by
    obtain ⟨fd, FD⟩ := D.d_divided_row
    exact ⟨_, fd, P_divided_row, D.m_divided_row, FD.kp, B_divided_row FD, k_divided_row F O FD⟩
  f_single_row := by
    obtain ⟨fd, FD⟩ := D.d_single_row
    exact ⟨_, fd, P_single_row, D.m_single_row, FD.kp, B_single_row FD, k_single_row F O FD⟩
  f_parted_rows := by
    obtain ⟨fd, FD⟩ := D.d_parted_rows
    exact ⟨_, fd, P_parted_rows, D.m_parted_rows, FD.kp, B_parted_rows FD, k_parted_rows F O FD⟩
  f_shared_unknown := by
    obtain ⟨fd, FD⟩ := D.d_shared_unknown
    exact ⟨_, fd, P_shared_unknown, D.m_shared_unknown, FD.kp, B_shared_unknown FD, k_shared_unknown F O FD⟩
  f_poly_of_row := by
    obtain ⟨fd, FD⟩ := D.d_poly_of_row
    exact ⟨_, fd, P_poly_of_row, D.m_poly_of_row, FD.kp, B_poly_of_row FD, k_poly_of_row F O FD⟩
  f_risen_row := by
    obtain ⟨fd, FD⟩ := D.d_risen_row
    exact ⟨_, fd, P_risen_row, D.m_risen_row, FD.kp, B_risen_row FD, k_risen_row F O FD⟩
  f_two_rows := by
    obtain ⟨fd, FD⟩ := D.d_two_rows
    exact ⟨_, fd, P_two_rows, D.m_two_rows, FD.kp, B_two_rows FD, k_two_rows F O FD⟩
  f_one_row := by
    obtain ⟨fd, FD⟩ := D.d_one_row
    exact ⟨_, fd, P_one_row, D.m_one_row, FD.kp, B_one_row FD, k_one_row F O FD⟩
  f_rows_divided := by
    obtain ⟨fd, FD⟩ := D.d_rows_divided
    exact ⟨_, fd, P_rows_divided, D.m_rows_divided, FD.kp, B_rows_divided FD, k_rows_divided F O FD⟩
  f_trimmed_row := by
    obtain ⟨fd, FD⟩ := D.d_trimmed_row
    exact ⟨_, fd, P_trimmed_row, D.m_trimmed_row, FD.kp, B_trimmed_row FD, k_trimmed_row F O FD⟩
  f_uni_divided := by
    obtain ⟨fd, FD⟩ := D.d_uni_divided
    exact ⟨_, fd, P_uni_divided, D.m_uni_divided, FD.kp, B_uni_divided FD, k_uni_divided F O FD⟩
  f_uni_divides := by
    obtain ⟨fd, FD⟩ := D.d_uni_divides
    exact ⟨_, fd, P_uni_divides, D.m_uni_divides, FD.kp, B_uni_divides FD, k_uni_divides F O FD⟩
  f_uni_common := by
    obtain ⟨fd, FD⟩ := D.d_uni_common
    exact ⟨_, fd, P_uni_common, D.m_uni_common, FD.kp, B_uni_common FD, k_uni_common F O FD⟩
  f_uni_single := by
    obtain ⟨fd, FD⟩ := D.d_uni_single
    exact ⟨_, fd, P_uni_single, D.m_uni_single, FD.kp, B_uni_single FD, k_uni_single F O FD⟩
  f_uni_layers := by
    obtain ⟨fd, FD⟩ := D.d_uni_layers
    exact ⟨_, fd, P_uni_layers, D.m_uni_layers, FD.kp, B_uni_layers FD, k_uni_layers F O FD⟩
  f_uni_parted := by
    obtain ⟨fd, FD⟩ := D.d_uni_parted
    exact ⟨_, fd, P_uni_parted, D.m_uni_parted, FD.kp, B_uni_parted FD, k_uni_parted F O FD⟩
  f_is_uni_parting := by
    obtain ⟨fd, FD⟩ := D.d_is_uni_parting
    exact ⟨_, fd, P_is_uni_parting, D.m_is_uni_parting, FD.kp, B_is_uni_parting FD, k_is_uni_parting F O FD⟩
  f_are_rows_apart := by
    obtain ⟨fd, FD⟩ := D.d_are_rows_apart
    exact ⟨_, fd, P_are_rows_apart, D.m_are_rows_apart, FD.kp, B_are_rows_apart FD, k_are_rows_apart F O FD⟩
  f_is_covered := by
    obtain ⟨fd, FD⟩ := D.d_is_covered
    exact ⟨_, fd, P_is_covered, D.m_is_covered, FD.kp, B_is_covered FD, k_is_covered F O FD⟩
  f_have_same_roots := by
    obtain ⟨fd, FD⟩ := D.d_have_same_roots
    exact ⟨_, fd, P_have_same_roots, D.m_have_same_roots, FD.kp, B_have_same_roots FD, k_have_same_roots F O FD⟩
  f__law_box := by
    obtain ⟨fd, FD⟩ := D.d__law_box
    exact ⟨_, fd, P__law_box, D.m__law_box, FD.kp, B__law_box FD, k__law_box F O FD⟩
  f__law_take := by
    obtain ⟨fd, FD⟩ := D.d__law_take
    exact ⟨_, fd, P__law_take, D.m__law_take, FD.kp, B__law_take FD, k__law_take F O FD⟩
  f__law_cells := by
    obtain ⟨fd, FD⟩ := D.d__law_cells
    exact ⟨_, fd, P__law_cells, D.m__law_cells, FD.kp, B__law_cells FD, k__law_cells F O FD⟩
  f__law_same := by
    obtain ⟨fd, FD⟩ := D.d__law_same
    exact ⟨_, fd, P__law_same, D.m__law_same, FD.kp, B__law_same FD, k__law_same F O FD⟩
  f__law_mixed := by
    obtain ⟨fd, FD⟩ := D.d__law_mixed
    exact ⟨_, fd, P__law_mixed, D.m__law_mixed, FD.kp, B__law_mixed FD, k__law_mixed F O FD⟩
  f__law_uni := by
    obtain ⟨fd, FD⟩ := D.d__law_uni
    exact ⟨_, fd, P__law_uni, D.m__law_uni, FD.kp, B__law_uni FD, k__law_uni F O FD⟩
  f__law_times := by
    obtain ⟨fd, FD⟩ := D.d__law_times
    exact ⟨_, fd, P__law_times, D.m__law_times, FD.kp, B__law_times FD, k__law_times F O FD⟩
  f__law_try := by
    obtain ⟨fd, FD⟩ := D.d__law_try
    exact ⟨_, fd, P__law_try, D.m__law_try, FD.kp, B__law_try FD, k__law_try F O FD⟩
  f__law_told_right := by
    obtain ⟨fd, FD⟩ := D.d__law_told_right
    exact ⟨_, fd, P__law_told_right, D.m__law_told_right, FD.kp, B__law_told_right FD, k__law_told_right F O FD⟩
  f_law := by
    obtain ⟨fd, FD⟩ := D.d_law
    exact ⟨_, fd, P_law, D.m_law, FD.kp, B_law FD, k_law F O FD⟩
  k_uni_divided_0_other_one := by
    obtain ⟨fd, FD⟩ := D.d_uni_divided
    exact ⟨_, fd, P_uni_divided, D.m_uni_divided, FD.kp, Bk_uni_divided_0_other_one FD, k_uni_divided F O FD⟩
  k_uni_divides_0_other_one := by
    obtain ⟨fd, FD⟩ := D.d_uni_divides
    exact ⟨_, fd, P_uni_divides, D.m_uni_divides, FD.kp, Bk_uni_divides_0_other_one FD, k_uni_divides F O FD⟩
  k_uni_common_0_other_one := by
    obtain ⟨fd, FD⟩ := D.d_uni_common
    exact ⟨_, fd, P_uni_common, D.m_uni_common, FD.kp, Bk_uni_common_0_other_one FD, k_uni_common F O FD⟩
  k_uni_single_0_poly := by
    obtain ⟨fd, FD⟩ := D.d_uni_single
    exact ⟨_, fd, P_uni_single, D.m_uni_single, FD.kp, Bk_uni_single_0_poly FD, k_uni_single F O FD⟩
  k_uni_layers_0_poly := by
    obtain ⟨fd, FD⟩ := D.d_uni_layers
    exact ⟨_, fd, P_uni_layers, D.m_uni_layers, FD.kp, Bk_uni_layers_0_poly FD, k_uni_layers F O FD⟩
  k_uni_parted_0_polys := by
    obtain ⟨fd, FD⟩ := D.d_uni_parted
    exact ⟨_, fd, P_uni_parted, D.m_uni_parted, FD.kp, Bk_uni_parted_0_polys FD, k_uni_parted F O FD⟩
  k_is_uni_parting_0_thing_polys := by
    obtain ⟨fd, FD⟩ := D.d_is_uni_parting
    exact ⟨_, fd, P_is_uni_parting, D.m_is_uni_parting, FD.kp, Bk_is_uni_parting_0_thing_polys FD, k_is_uni_parting F O FD⟩
theorem lvl {P : Program} {w : World} {K : PySem.W.Frag} {mg : Str → Option Value} {base : Heap} {cl : Nat → Addr} (F : Fx K mg cl) (D : Df K mg) : ∀ n, Ow P w K mg base cl (callN n) n
  | 0 => lvl0 F D
  | n + 1 => lvl1 F D (lvl F D n)
/-! ### the head -/
def fa0 : List He.Fa := [.glo "is_number", .glo "is_tuple_of", .glo "tuple_of", .glo "sure", .glo "common_divisor", .glo "are_powers", .glo "is_poly", .glo "sure_poly", .glo "told", .glo "trimmed_powers", .glo "power_in", .glo "unknowns_of", .glo "degree_of", .glo "without", .glo "parts_of", .glo "by_prime", .glo "inverse_of", .glo "are_surely_apart", .glo "numbers_of", .glo "least_row"]
def fa1 : List He.Fa := [.glo "derived_row", .glo "rest_row", .glo "common_row", .glo "divided_row", .glo "single_row", .glo "parted_rows", .glo "shared_unknown", .glo "poly_of_row", .glo "risen_row", .glo "two_rows", .glo "one_row", .glo "rows_divided", .glo "trimmed_row", .glo "uni_divided", .glo "uni_divides", .glo "uni_common", .glo "uni_single", .glo "uni_layers", .glo "uni_parted", .glo "is_uni_parting"]
def fa2 : List He.Fa := [.glo "are_rows_apart", .glo "is_covered", .glo "have_same_roots", .glo "_law_box", .glo "_law_take", .glo "_law_cells", .glo "_law_same", .glo "_law_mixed", .glo "_law_uni", .glo "_law_times", .glo "_law_try", .glo "_law_told_right", .glo "law", .glo "CanNot", .glo "TooMuch", .glo "Unfit", .free "ValueError", .free "abs", .free "all", .free "any"]
def fa3 : List He.Fa := [.free "bool", .free "enumerate", .free "int", .free "isinstance", .free "len", .free "list", .free "max", .free "range", .free "set", .free "sorted", .free "str", .free "tuple", .free "zip", .int "MOST_DEGREE" 80, .int "PRIME" 2147483647, .int "UNKNOWNS" 6]
def fa : List He.Fa := fa0 ++ (fa1 ++ (fa2 ++ (fa3)))
def d_is_number : He.DefD := ⟨("is_number", none), "is_number", "is_number", defArgs s_is_number, defBody s_is_number, defScope s_is_number, [], []⟩
def d_is_tuple_of : He.DefD := ⟨("is_tuple_of", none), "is_tuple_of", "is_tuple_of", defArgs s_is_tuple_of, defBody s_is_tuple_of, defScope s_is_tuple_of, [], []⟩
def d_tuple_of : He.DefD := ⟨("tuple_of", none), "tuple_of", "tuple_of", defArgs s_tuple_of, defBody s_tuple_of, defScope s_tuple_of, [], []⟩
def d_sure : He.DefD := ⟨("sure", none), "sure", "sure", defArgs s_sure, defBody s_sure, defScope s_sure, [], []⟩
def d_common_divisor : He.DefD := ⟨("common_divisor", none), "common_divisor", "common_divisor", defArgs s_common_divisor, defBody s_common_divisor, defScope s_common_divisor, [], []⟩
def d_are_powers : He.DefD := ⟨("are_powers", none), "are_powers", "are_powers", defArgs s_are_powers, defBody s_are_powers, defScope s_are_powers, [], []⟩
def d_is_poly : He.DefD := ⟨("is_poly", none), "is_poly", "is_poly", defArgs s_is_poly, defBody s_is_poly, defScope s_is_poly, [], []⟩
def d_sure_poly : He.DefD := ⟨("sure_poly", none), "sure_poly", "sure_poly", defArgs s_sure_poly, defBody s_sure_poly, defScope s_sure_poly, [], []⟩
def d_told : He.DefD := ⟨("told", none), "told", "told", defArgs s_told, defBody s_told, defScope s_told, [], []⟩
def d_trimmed_powers : He.DefD := ⟨("trimmed_powers", none), "trimmed_powers", "trimmed_powers", defArgs s_trimmed_powers, defBody s_trimmed_powers, defScope s_trimmed_powers, [], []⟩
def d_power_in : He.DefD := ⟨("power_in", none), "power_in", "power_in", defArgs s_power_in, defBody s_power_in, defScope s_power_in, [], []⟩
def d_unknowns_of : He.DefD := ⟨("unknowns_of", none), "unknowns_of", "unknowns_of", defArgs s_unknowns_of, defBody s_unknowns_of, defScope s_unknowns_of, [], []⟩
def d_degree_of : He.DefD := ⟨("degree_of", none), "degree_of", "degree_of", defArgs s_degree_of, defBody s_degree_of, defScope s_degree_of, [], []⟩
def d_without : He.DefD := ⟨("without", none), "without", "without", defArgs s_without, defBody s_without, defScope s_without, [], []⟩
def d_parts_of : He.DefD := ⟨("parts_of", none), "parts_of", "parts_of", defArgs s_parts_of, defBody s_parts_of, defScope s_parts_of, [], []⟩
def d_by_prime : He.DefD := ⟨("by_prime", none), "by_prime", "by_prime", defArgs s_by_prime, defBody s_by_prime, defScope s_by_prime, [], []⟩
def d_inverse_of : He.DefD := ⟨("inverse_of", none), "inverse_of", "inverse_of", defArgs s_inverse_of, defBody s_inverse_of, defScope s_inverse_of, [], []⟩
def d_are_surely_apart : He.DefD := ⟨("are_surely_apart", none), "are_surely_apart", "are_surely_apart", defArgs s_are_surely_apart, defBody s_are_surely_apart, defScope s_are_surely_apart, [], []⟩
def d_numbers_of : He.DefD := ⟨("numbers_of", none), "numbers_of", "numbers_of", defArgs s_numbers_of, defBody s_numbers_of, defScope s_numbers_of, [], []⟩
def d_least_row : He.DefD := ⟨("least_row", none), "least_row", "least_row", defArgs s_least_row, defBody s_least_row, defScope s_least_row, [], []⟩
def d_derived_row : He.DefD := ⟨("derived_row", none), "derived_row", "derived_row", defArgs s_derived_row, defBody s_derived_row, defScope s_derived_row, [], []⟩
def d_rest_row : He.DefD := ⟨("rest_row", none), "rest_row", "rest_row", defArgs s_rest_row, defBody s_rest_row, defScope s_rest_row, [], []⟩
def d_common_row : He.DefD := ⟨("common_row", none), "common_row", "common_row", defArgs s_common_row, defBody s_common_row, defScope s_common_row, [], []⟩
def d_divided_row : He.DefD := ⟨("divided_row", none), "divided_row", "divided_row", defArgs s_divided_row, defBody s_divided_row, defScope s_divided_row, [], []⟩
def d_single_row : He.DefD := ⟨("single_row", none), "single_row", "single_row", defArgs s_single_row, defBody s_single_row, defScope s_single_row, [], []⟩
def d_parted_rows : He.DefD := ⟨("parted_rows", none), "parted_rows", "parted_rows", defArgs s_parted_rows, defBody s_parted_rows, defScope s_parted_rows, [], []⟩
def d_shared_unknown : He.DefD := ⟨("shared_unknown", none), "shared_unknown", "shared_unknown", defArgs s_shared_unknown, defBody s_shared_unknown, defScope s_shared_unknown, [], []⟩
def d_poly_of_row : He.DefD := ⟨("poly_of_row", none), "poly_of_row", "poly_of_row", defArgs s_poly_of_row, defBody s_poly_of_row, defScope s_poly_of_row, [], []⟩
def d_risen_row : He.DefD := ⟨("risen_row", none), "risen_row", "risen_row", defArgs s_risen_row, defBody s_risen_row, defScope s_risen_row, [], []⟩
def d_two_rows : He.DefD := ⟨("two_rows", none), "two_rows", "two_rows", defArgs s_two_rows, defBody s_two_rows, defScope s_two_rows, [], []⟩
def d_one_row : He.DefD := ⟨("one_row", none), "one_row", "one_row", defArgs s_one_row, defBody s_one_row, defScope s_one_row, [], []⟩
def d_rows_divided : He.DefD := ⟨("rows_divided", none), "rows_divided", "rows_divided", defArgs s_rows_divided, defBody s_rows_divided, defScope s_rows_divided, [], []⟩
def d_trimmed_row : He.DefD := ⟨("trimmed_row", none), "trimmed_row", "trimmed_row", defArgs s_trimmed_row, defBody s_trimmed_row, defScope s_trimmed_row, [], []⟩
def d_uni_divided : He.DefD := ⟨("uni_divided", none), "uni_divided", "uni_divided", defArgs s_uni_divided, defBody s_uni_divided, defScope s_uni_divided, [], []⟩
def d_uni_divides : He.DefD := ⟨("uni_divides", none), "uni_divides", "uni_divides", defArgs s_uni_divides, defBody s_uni_divides, defScope s_uni_divides, [], []⟩
def d_uni_common : He.DefD := ⟨("uni_common", none), "uni_common", "uni_common", defArgs s_uni_common, defBody s_uni_common, defScope s_uni_common, [], []⟩
def d_uni_single : He.DefD := ⟨("uni_single", none), "uni_single", "uni_single", defArgs s_uni_single, defBody s_uni_single, defScope s_uni_single, [], []⟩
def d_uni_layers : He.DefD := ⟨("uni_layers", none), "uni_layers", "uni_layers", defArgs s_uni_layers, defBody s_uni_layers, defScope s_uni_layers, [], []⟩
def d_uni_parted : He.DefD := ⟨("uni_parted", none), "uni_parted", "uni_parted", defArgs s_uni_parted, defBody s_uni_parted, defScope s_uni_parted, [], []⟩
def d_is_uni_parting : He.DefD := ⟨("is_uni_parting", none), "is_uni_parting", "is_uni_parting", defArgs s_is_uni_parting, defBody s_is_uni_parting, defScope s_is_uni_parting, [], []⟩
def d_are_rows_apart : He.DefD := ⟨("are_rows_apart", none), "are_rows_apart", "are_rows_apart", defArgs s_are_rows_apart, defBody s_are_rows_apart, defScope s_are_rows_apart, [], []⟩
def d_is_covered : He.DefD := ⟨("is_covered", none), "is_covered", "is_covered", defArgs s_is_covered, defBody s_is_covered, defScope s_is_covered, [], []⟩
def d_have_same_roots : He.DefD := ⟨("have_same_roots", none), "have_same_roots", "have_same_roots", defArgs s_have_same_roots, defBody s_have_same_roots, defScope s_have_same_roots, [], []⟩
def d__law_box : He.DefD := ⟨("_law_box", none), "_law_box", "_law_box", defArgs s__law_box, defBody s__law_box, defScope s__law_box, [], []⟩
def d__law_take : He.DefD := ⟨("_law_take", none), "_law_take", "_law_take", defArgs s__law_take, defBody s__law_take, defScope s__law_take, [], []⟩
def d__law_cells : He.DefD := ⟨("_law_cells", none), "_law_cells", "_law_cells", defArgs s__law_cells, defBody s__law_cells, defScope s__law_cells, [], []⟩
def d__law_same : He.DefD := ⟨("_law_same", none), "_law_same", "_law_same", defArgs s__law_same, defBody s__law_same, defScope s__law_same, [], []⟩
def d__law_mixed : He.DefD := ⟨("_law_mixed", none), "_law_mixed", "_law_mixed", defArgs s__law_mixed, defBody s__law_mixed, defScope s__law_mixed, [], []⟩
def d__law_uni : He.DefD := ⟨("_law_uni", none), "_law_uni", "_law_uni", defArgs s__law_uni, defBody s__law_uni, defScope s__law_uni, [], []⟩
def d__law_times : He.DefD := ⟨("_law_times", none), "_law_times", "_law_times", defArgs s__law_times, defBody s__law_times, defScope s__law_times, [], []⟩
def d__law_try : He.DefD := ⟨("_law_try", none), "_law_try", "_law_try", defArgs s__law_try, defBody s__law_try, defScope s__law_try, [], []⟩
def d__law_told_right : He.DefD := ⟨("_law_told_right", none), "_law_told_right", "_law_told_right", defArgs s__law_told_right, defBody s__law_told_right, defScope s__law_told_right, [], []⟩
def d_law : He.DefD := ⟨("law", none), "law", "law", defArgs s_law, defBody s_law, defScope s_law, [], []⟩
def fn0 : List He.DefD := [d_is_number, d_is_tuple_of, d_tuple_of, d_sure, d_common_divisor, d_are_powers, d_is_poly, d_sure_poly, d_told, d_trimmed_powers, d_power_in, d_unknowns_of, d_degree_of, d_without, d_parts_of, d_by_prime, d_inverse_of, d_are_surely_apart, d_numbers_of, d_least_row]
def fn1 : List He.DefD := [d_derived_row, d_rest_row, d_common_row, d_divided_row, d_single_row, d_parted_rows, d_shared_unknown, d_poly_of_row, d_risen_row, d_two_rows, d_one_row, d_rows_divided, d_trimmed_row, d_uni_divided, d_uni_divides, d_uni_common, d_uni_single, d_uni_layers, d_uni_parted, d_is_uni_parting]
def fn2 : List He.DefD := [d_are_rows_apart, d_is_covered, d_have_same_roots, d__law_box, d__law_take, d__law_cells, d__law_same, d__law_mixed, d__law_uni, d__law_times, d__law_try, d__law_told_right, d_law]
def fn : List He.DefD := fn0 ++ (fn1 ++ (fn2))
abbrev loose0 : List Str := ["CanNot", "TooMuch", "Unfit", "is_number", "is_tuple_of", "tuple_of", "sure", "common_divisor", "UNKNOWNS", "are_powers", "is_poly", "sure_poly", "told", "trimmed_powers", "power_in", "unknowns_of", "degree_of", "without", "parts_of", "PRIME"]
abbrev loose1 : List Str := ["by_prime", "inverse_of", "are_surely_apart", "MOST_DEGREE", "numbers_of", "least_row", "derived_row", "rest_row", "common_row", "divided_row", "single_row", "parted_rows", "shared_unknown", "poly_of_row", "risen_row", "two_rows", "one_row", "rows_divided", "trimmed_row", "uni_divided"]
abbrev loose2 : List Str := ["uni_divides", "uni_common", "uni_single", "uni_layers", "uni_parted", "is_uni_parting", "are_rows_apart", "is_covered", "have_same_roots", "_law_box", "_law_take", "_law_cells", "_law_same", "_law_mixed", "_law_uni", "_law_times", "_law_try", "_law_told_right"]
abbrev loose : List Str := loose0 ++ loose1 ++ loose2
abbrev R : PySem.W.OpenRow := PySem.W.OpenLaw.row PySem.Challenge.rw_rootsaid_k06_polynomials_of_one_unknown
abbrev hk : PySem.W.Hook := hookR 4 fa fn (exOk cns 3)
def ob (s : PySem.W.SharedT) : AlR := obsRG 4 fa fn (exOk cns 3) (HandSHeadRun.getT s)
theorem ob_eq (s : PySem.W.SharedT) : ob s = hk.obs s.abs := obsRG_eq (HandSHeadRun.getT_eq s)
theorem run (w : World) : HandSHeadRun.RunEq R (PySem.W.view R.prog [65]) hk ob 4000 loose w := by
  intro os
  kernel_rfl
theorem facts {K : PySem.W.Frag} {h : Heap} {mg : Str → Option Value} (X : K.In h) (G : h.Ns mainGlobals mg) (c : He.SaysD fa fn K) (cx : exOk cns 3 K = true) : Fx K mg (clOf K cns) ∧ Df K mg := by
  refine ⟨⟨?_, ?_, ?_, ?_, ?_, ?_, ?_, ?_, ?_, ?_, ?_, ?_, ?_, ?_, ?_, ?_, ?_, ?_, ?_, ?_, ?_, ?_, ?_, ?_, ?_, ?_, exT_of (ns := cns) cx⟩, ⟨?_, ?_, ?_, ?_, ?_, ?_, ?_, ?_, ?_, ?_, ?_, ?_, ?_, ?_, ?_, ?_, ?_, ?_, ?_, ?_, ?_, ?_, ?_, ?_, ?_, ?_, ?_, ?_, ?_, ?_, ?_, ?_, ?_, ?_, ?_, ?_, ?_, ?_, ?_, ?_, ?_, ?_, ?_, ?_, ?_, ?_, ?_, ?_, ?_, ?_, ?_, ?_, ?_, ?_, ?_, ?_, ?_, ?_, ?_, ?_, ?_, ?_, ?_, ?_, ?_, ?_, ?_, ?_, ?_, ?_, ?_, ?_, ?_, ?_, ?_, ?_, ?_, ?_, ?_, ?_, ?_, ?_, ?_, ?_, ?_, ?_, ?_, ?_, ?_, ?_, ?_, ?_, ?_, ?_, ?_, ?_, ?_, ?_, ?_, ?_, ?_, ?_, ?_, ?_, ?_, ?_⟩⟩
  · exact He.free_ok X G (c.fact 56 (f := .free "ValueError") rfl)
  · exact He.free_ok X G (c.fact 57 (f := .free "abs") rfl)
  · exact He.free_ok X G (c.fact 58 (f := .free "all") rfl)
  · exact He.free_ok X G (c.fact 59 (f := .free "any") rfl)
  · exact He.free_ok X G (c.fact 60 (f := .free "bool") rfl)
  · exact He.free_ok X G (c.fact 61 (f := .free "enumerate") rfl)
  · exact He.free_ok X G (c.fact 62 (f := .free "int") rfl)
  · exact He.free_ok X G (c.fact 63 (f := .free "isinstance") rfl)
  · exact He.free_ok X G (c.fact 64 (f := .free "len") rfl)
  · exact He.free_ok X G (c.fact 65 (f := .free "list") rfl)
  · exact He.free_ok X G (c.fact 66 (f := .free "max") rfl)
  · exact He.free_ok X G (c.fact 67 (f := .free "range") rfl)
  · exact He.free_ok X G (c.fact 68 (f := .free "set") rfl)
  · exact He.free_ok X G (c.fact 69 (f := .free "sorted") rfl)
  · exact He.free_ok X G (c.fact 70 (f := .free "str") rfl)
  · exact He.free_ok X G (c.fact 71 (f := .free "tuple") rfl)
  · exact He.free_ok X G (c.fact 72 (f := .free "zip") rfl)
  · exact He.glo_ok X G (c.fact 53 (f := .glo "CanNot") rfl)
  · exact He.glo_ok X G (c.fact 54 (f := .glo "TooMuch") rfl)
  · exact He.glo_ok X G (c.fact 55 (f := .glo "Unfit") rfl)
  · exact exK_of cx (by decide) (He.glo_ok X G (c.fact 53 (f := .glo "CanNot") rfl))
  · exact exK_of cx (by decide) (He.glo_ok X G (c.fact 54 (f := .glo "TooMuch") rfl))
  · exact exK_of cx (by decide) (He.glo_ok X G (c.fact 55 (f := .glo "Unfit") rfl))
  · exact He.int_ok X G (c.fact 73 (f := .int "MOST_DEGREE" 80) rfl)
  · exact He.int_ok X G (c.fact 74 (f := .int "PRIME" 2147483647) rfl)
  · exact He.int_ok X G (c.fact 75 (f := .int "UNKNOWNS" 6) rfl)
  · exact c.def_ 0 (d := d_is_number) rfl
  · exact He.glo_ok X G (c.fact 0 (f := .glo "is_number") rfl)
  · exact c.def_ 1 (d := d_is_tuple_of) rfl
  · exact He.glo_ok X G (c.fact 1 (f := .glo "is_tuple_of") rfl)
  · exact c.def_ 2 (d := d_tuple_of) rfl
  · exact He.glo_ok X G (c.fact 2 (f := .glo "tuple_of") rfl)
  · exact c.def_ 3 (d := d_sure) rfl
  · exact He.glo_ok X G (c.fact 3 (f := .glo "sure") rfl)
  · exact c.def_ 4 (d := d_common_divisor) rfl
  · exact He.glo_ok X G (c.fact 4 (f := .glo "common_divisor") rfl)
  · exact c.def_ 5 (d := d_are_powers) rfl
  · exact He.glo_ok X G (c.fact 5 (f := .glo "are_powers") rfl)
  · exact c.def_ 6 (d := d_is_poly) rfl
  · exact He.glo_ok X G (c.fact 6 (f := .glo "is_poly") rfl)
  · exact c.def_ 7 (d := d_sure_poly) rfl
  · exact He.glo_ok X G (c.fact 7 (f := .glo "sure_poly") rfl)
  · exact c.def_ 8 (d := d_told) rfl
  · exact He.glo_ok X G (c.fact 8 (f := .glo "told") rfl)
  · exact c.def_ 9 (d := d_trimmed_powers) rfl
  · exact He.glo_ok X G (c.fact 9 (f := .glo "trimmed_powers") rfl)
  · exact c.def_ 10 (d := d_power_in) rfl
  · exact He.glo_ok X G (c.fact 10 (f := .glo "power_in") rfl)
  · exact c.def_ 11 (d := d_unknowns_of) rfl
  · exact He.glo_ok X G (c.fact 11 (f := .glo "unknowns_of") rfl)
  · exact c.def_ 12 (d := d_degree_of) rfl
  · exact He.glo_ok X G (c.fact 12 (f := .glo "degree_of") rfl)
  · exact c.def_ 13 (d := d_without) rfl
  · exact He.glo_ok X G (c.fact 13 (f := .glo "without") rfl)
  · exact c.def_ 14 (d := d_parts_of) rfl
  · exact He.glo_ok X G (c.fact 14 (f := .glo "parts_of") rfl)
  · exact c.def_ 15 (d := d_by_prime) rfl
  · exact He.glo_ok X G (c.fact 15 (f := .glo "by_prime") rfl)
  · exact c.def_ 16 (d := d_inverse_of) rfl
  · exact He.glo_ok X G (c.fact 16 (f := .glo "inverse_of") rfl)
  · exact c.def_ 17 (d := d_are_surely_apart) rfl
  · exact He.glo_ok X G (c.fact 17 (f := .glo "are_surely_apart") rfl)
  · exact c.def_ 18 (d := d_numbers_of) rfl
  · exact He.glo_ok X G (c.fact 18 (f := .glo "numbers_of") rfl)
  · exact c.def_ 19 (d := d_least_row) rfl
  · exact He.glo_ok X G (c.fact 19 (f := .glo "least_row") rfl)
  · exact c.def_ 20 (d := d_derived_row) rfl
  · exact He.glo_ok X G (c.fact 20 (f := .glo "derived_row") rfl)
  · exact c.def_ 21 (d := d_rest_row) rfl
  · exact He.glo_ok X G (c.fact 21 (f := .glo "rest_row") rfl)
  · exact c.def_ 22 (d := d_common_row) rfl
  · exact He.glo_ok X G (c.fact 22 (f := .glo "common_row") rfl)
  · exact c.def_ 23 (d := d_divided_row) rfl
  · exact He.glo_ok X G (c.fact 23 (f := .glo "divided_row") rfl)
  · exact c.def_ 24 (d := d_single_row) rfl
  · exact He.glo_ok X G (c.fact 24 (f := .glo "single_row") rfl)
  · exact c.def_ 25 (d := d_parted_rows) rfl
  · exact He.glo_ok X G (c.fact 25 (f := .glo "parted_rows") rfl)
  · exact c.def_ 26 (d := d_shared_unknown) rfl
  · exact He.glo_ok X G (c.fact 26 (f := .glo "shared_unknown") rfl)
  · exact c.def_ 27 (d := d_poly_of_row) rfl
  · exact He.glo_ok X G (c.fact 27 (f := .glo "poly_of_row") rfl)
  · exact c.def_ 28 (d := d_risen_row) rfl
  · exact He.glo_ok X G (c.fact 28 (f := .glo "risen_row") rfl)
  · exact c.def_ 29 (d := d_two_rows) rfl
  · exact He.glo_ok X G (c.fact 29 (f := .glo "two_rows") rfl)
  · exact c.def_ 30 (d := d_one_row) rfl
  · exact He.glo_ok X G (c.fact 30 (f := .glo "one_row") rfl)
  · exact c.def_ 31 (d := d_rows_divided) rfl
  · exact He.glo_ok X G (c.fact 31 (f := .glo "rows_divided") rfl)
  · exact c.def_ 32 (d := d_trimmed_row) rfl
  · exact He.glo_ok X G (c.fact 32 (f := .glo "trimmed_row") rfl)
  · exact c.def_ 33 (d := d_uni_divided) rfl
  · exact He.glo_ok X G (c.fact 33 (f := .glo "uni_divided") rfl)
  · exact c.def_ 34 (d := d_uni_divides) rfl
  · exact He.glo_ok X G (c.fact 34 (f := .glo "uni_divides") rfl)
  · exact c.def_ 35 (d := d_uni_common) rfl
  · exact He.glo_ok X G (c.fact 35 (f := .glo "uni_common") rfl)
  · exact c.def_ 36 (d := d_uni_single) rfl
  · exact He.glo_ok X G (c.fact 36 (f := .glo "uni_single") rfl)
  · exact c.def_ 37 (d := d_uni_layers) rfl
  · exact He.glo_ok X G (c.fact 37 (f := .glo "uni_layers") rfl)
  · exact c.def_ 38 (d := d_uni_parted) rfl
  · exact He.glo_ok X G (c.fact 38 (f := .glo "uni_parted") rfl)
  · exact c.def_ 39 (d := d_is_uni_parting) rfl
  · exact He.glo_ok X G (c.fact 39 (f := .glo "is_uni_parting") rfl)
  · exact c.def_ 40 (d := d_are_rows_apart) rfl
  · exact He.glo_ok X G (c.fact 40 (f := .glo "are_rows_apart") rfl)
  · exact c.def_ 41 (d := d_is_covered) rfl
  · exact He.glo_ok X G (c.fact 41 (f := .glo "is_covered") rfl)
  · exact c.def_ 42 (d := d_have_same_roots) rfl
  · exact He.glo_ok X G (c.fact 42 (f := .glo "have_same_roots") rfl)
  · exact c.def_ 43 (d := d__law_box) rfl
  · exact He.glo_ok X G (c.fact 43 (f := .glo "_law_box") rfl)
  · exact c.def_ 44 (d := d__law_take) rfl
  · exact He.glo_ok X G (c.fact 44 (f := .glo "_law_take") rfl)
  · exact c.def_ 45 (d := d__law_cells) rfl
  · exact He.glo_ok X G (c.fact 45 (f := .glo "_law_cells") rfl)
  · exact c.def_ 46 (d := d__law_same) rfl
  · exact He.glo_ok X G (c.fact 46 (f := .glo "_law_same") rfl)
  · exact c.def_ 47 (d := d__law_mixed) rfl
  · exact He.glo_ok X G (c.fact 47 (f := .glo "_law_mixed") rfl)
  · exact c.def_ 48 (d := d__law_uni) rfl
  · exact He.glo_ok X G (c.fact 48 (f := .glo "_law_uni") rfl)
  · exact c.def_ 49 (d := d__law_times) rfl
  · exact He.glo_ok X G (c.fact 49 (f := .glo "_law_times") rfl)
  · exact c.def_ 50 (d := d__law_try) rfl
  · exact He.glo_ok X G (c.fact 50 (f := .glo "_law_try") rfl)
  · exact c.def_ 51 (d := d__law_told_right) rfl
  · exact He.glo_ok X G (c.fact 51 (f := .glo "_law_told_right") rfl)
  · exact c.def_ 52 (d := d_law) rfl
  · exact He.glo_ok X G (c.fact 52 (f := .glo "law") rfl)
/-! ### the run -/
theorem ev_eq (ns : List Int) : callN 200 52 [.fz ns] ⟨0, []⟩ (fun v _ => yes v) (fun _ _ => False) = (((True) ∧ ((((((∀ b1 : Bool, ∀ b2 : Bool, ∀ b3 : Bool, ∀ b4 : Bool, ∀ b5 : Bool, ∀ b6 : Bool, ∀ b7 : Bool, ∀ b8 : Bool, ∀ b9 : Bool, ∀ b10 : Bool, ∀ b11 : Bool, ∀ b12 : Bool, ∀ b13 : Bool, ∀ b14 : Bool, ∀ b15 : Bool, ∀ b16 : Bool, ∀ b17 : Bool, ∀ b18 : Bool, ∀ b19 : Bool, ∀ b20 : Bool, ∀ b21 : Bool, ∀ b22 : Bool, ∀ b23 : Bool, ∀ b24 : Bool, ∀ b25 : Bool, ∀ b26 : Bool, ∀ b27 : Bool, ∀ b28 : Bool, ∀ b29 : Bool, True) ∧ (∀ b1 : Bool, ∀ b2 : Bool, ∀ b3 : Bool, ∀ b4 : Bool, ∀ b5 : Bool, ∀ b6 : Bool, ∀ b7 : Bool, ∀ b8 : Bool, ∀ b9 : Bool, ∀ b10 : Bool, ∀ b11 : Bool, ∀ b12 : Bool, ∀ b13 : Bool, ∀ b14 : Bool, ∀ b15 : Bool, ∀ b16 : Bool, ∀ b17 : Bool, ∀ b18 : Bool, ∀ b19 : Bool, ∀ b20 : Bool, ∀ b21 : Bool, ∀ b22 : Bool, ∀ b23 : Bool, ∀ b24 : Bool, ∀ b25 : Bool, ∀ b26 : Bool, ∀ b27 : Bool, ∀ b28 : Bool, ∀ b29 : Bool, True)) ∧ (∀ b1 : Bool, ∀ b2 : Bool, ∀ b3 : Bool, ∀ b4 : Bool, ∀ b5 : Bool, ∀ b6 : Bool, ∀ b7 : Bool, ∀ b8 : Bool, ∀ b9 : Bool, ∀ b10 : Bool, ∀ b11 : Bool, ∀ b12 : Bool, ∀ b13 : Bool, ∀ b14 : Bool, ∀ b15 : Bool, ∀ b16 : Bool, ∀ b17 : Bool, ∀ b18 : Bool, ∀ b19 : Bool, ∀ b20 : Bool, ∀ b21 : Bool, ∀ b22 : Bool, ∀ b23 : Bool, ∀ b24 : Bool, ∀ b25 : Bool, ∀ b26 : Bool, ∀ b27 : Bool, ∀ b28 : Bool, ∀ b29 : Bool, True)) ∧ (∀ b1 : Bool, ∀ b2 : Bool, ∀ b3 : Bool, ∀ b4 : Bool, ∀ b5 : Bool, ∀ b6 : Bool, ∀ b7 : Bool, ∀ b8 : Bool, ∀ b9 : Bool, ∀ b10 : Bool, ∀ b11 : Bool, ∀ b12 : Bool, ∀ b13 : Bool, ∀ b14 : Bool, ∀ b15 : Bool, ∀ b16 : Bool, ∀ b17 : Bool, ∀ b18 : Bool, ∀ b19 : Bool, ∀ b20 : Bool, ∀ b21 : Bool, ∀ b22 : Bool, ∀ b23 : Bool, ∀ b24 : Bool, ∀ b25 : Bool, ∀ b26 : Bool, ∀ b27 : Bool, ∀ b28 : Bool, ∀ b29 : Bool, True)) ∧ (∀ b1 : Bool, ∀ b2 : Bool, ∀ b3 : Bool, ∀ b4 : Bool, ∀ b5 : Bool, ∀ b6 : Bool, ∀ b7 : Bool, ∀ b8 : Bool, ∀ b9 : Bool, ∀ b10 : Bool, ∀ b11 : Bool, ∀ b12 : Bool, ∀ b13 : Bool, ∀ b14 : Bool, ∀ b15 : Bool, ∀ b16 : Bool, ∀ b17 : Bool, ∀ b18 : Bool, ∀ b19 : Bool, ∀ b20 : Bool, ∀ b21 : Bool, ∀ b22 : Bool, ∀ b23 : Bool, ∀ b24 : Bool, ∀ b25 : Bool, ∀ b26 : Bool, ∀ b27 : Bool, ∀ b28 : Bool, ∀ b29 : Bool, True)) ∧ (∀ b1 : Bool, ∀ b2 : Bool, ∀ b3 : Bool, ∀ b4 : Bool, ∀ b5 : Bool, ∀ b6 : Bool, ∀ b7 : Bool, ∀ b8 : Bool, ∀ b9 : Bool, ∀ b10 : Bool, ∀ b11 : Bool, ∀ b12 : Bool, ∀ b13 : Bool, ∀ b14 : Bool, ∀ b15 : Bool, ∀ b16 : Bool, ∀ b17 : Bool, ∀ b18 : Bool, ∀ b19 : Bool, ∀ b20 : Bool, ∀ b21 : Bool, ∀ b22 : Bool, ∀ b23 : Bool, ∀ b24 : Bool, ∀ b25 : Bool, ∀ b26 : Bool, ∀ b27 : Bool, ∀ b28 : Bool, ∀ b29 : Bool, True))) ∧ ((((((∀ b1 : Bool, ∀ b2 : Bool, ∀ b3 : Bool, ∀ b4 : Bool, ∀ b5 : Bool, ∀ b6 : Bool, ∀ b7 : Bool, ∀ b8 : Bool, ∀ b9 : Bool, ∀ b10 : Bool, ∀ b11 : Bool, ∀ b12 : Bool, ∀ b13 : Bool, ∀ b14 : Bool, ∀ b15 : Bool, ∀ b16 : Bool, ∀ b17 : Bool, ∀ b18 : Bool, ∀ b19 : Bool, ∀ b20 : Bool, ∀ b21 : Bool, ∀ b22 : Bool, ∀ b23 : Bool, ∀ b24 : Bool, ∀ b25 : Bool, ∀ b26 : Bool, ∀ b27 : Bool, ∀ b28 : Bool, ∀ b29 : Bool, True) ∧ (∀ b1 : Bool, ∀ b2 : Bool, ∀ b3 : Bool, ∀ b4 : Bool, ∀ b5 : Bool, ∀ b6 : Bool, ∀ b7 : Bool, ∀ b8 : Bool, ∀ b9 : Bool, ∀ b10 : Bool, ∀ b11 : Bool, ∀ b12 : Bool, ∀ b13 : Bool, ∀ b14 : Bool, ∀ b15 : Bool, ∀ b16 : Bool, ∀ b17 : Bool, ∀ b18 : Bool, ∀ b19 : Bool, ∀ b20 : Bool, ∀ b21 : Bool, ∀ b22 : Bool, ∀ b23 : Bool, ∀ b24 : Bool, ∀ b25 : Bool, ∀ b26 : Bool, ∀ b27 : Bool, ∀ b28 : Bool, ∀ b29 : Bool, True)) ∧ (∀ b1 : Bool, ∀ b2 : Bool, ∀ b3 : Bool, ∀ b4 : Bool, ∀ b5 : Bool, ∀ b6 : Bool, ∀ b7 : Bool, ∀ b8 : Bool, ∀ b9 : Bool, ∀ b10 : Bool, ∀ b11 : Bool, ∀ b12 : Bool, ∀ b13 : Bool, ∀ b14 : Bool, ∀ b15 : Bool, ∀ b16 : Bool, ∀ b17 : Bool, ∀ b18 : Bool, ∀ b19 : Bool, ∀ b20 : Bool, ∀ b21 : Bool, ∀ b22 : Bool, ∀ b23 : Bool, ∀ b24 : Bool, ∀ b25 : Bool, ∀ b26 : Bool, ∀ b27 : Bool, ∀ b28 : Bool, ∀ b29 : Bool, True)) ∧ (∀ b1 : Bool, ∀ b2 : Bool, ∀ b3 : Bool, ∀ b4 : Bool, ∀ b5 : Bool, ∀ b6 : Bool, ∀ b7 : Bool, ∀ b8 : Bool, ∀ b9 : Bool, ∀ b10 : Bool, ∀ b11 : Bool, ∀ b12 : Bool, ∀ b13 : Bool, ∀ b14 : Bool, ∀ b15 : Bool, ∀ b16 : Bool, ∀ b17 : Bool, ∀ b18 : Bool, ∀ b19 : Bool, ∀ b20 : Bool, ∀ b21 : Bool, ∀ b22 : Bool, ∀ b23 : Bool, ∀ b24 : Bool, ∀ b25 : Bool, ∀ b26 : Bool, ∀ b27 : Bool, ∀ b28 : Bool, ∀ b29 : Bool, True)) ∧ (∀ b1 : Bool, ∀ b2 : Bool, ∀ b3 : Bool, ∀ b4 : Bool, ∀ b5 : Bool, ∀ b6 : Bool, ∀ b7 : Bool, ∀ b8 : Bool, ∀ b9 : Bool, ∀ b10 : Bool, ∀ b11 : Bool, ∀ b12 : Bool, ∀ b13 : Bool, ∀ b14 : Bool, ∀ b15 : Bool, ∀ b16 : Bool, ∀ b17 : Bool, ∀ b18 : Bool, ∀ b19 : Bool, ∀ b20 : Bool, ∀ b21 : Bool, ∀ b22 : Bool, ∀ b23 : Bool, ∀ b24 : Bool, ∀ b25 : Bool, ∀ b26 : Bool, ∀ b27 : Bool, ∀ b28 : Bool, ∀ b29 : Bool, True)) ∧ (∀ b1 : Bool, ∀ b2 : Bool, ∀ b3 : Bool, ∀ b4 : Bool, ∀ b5 : Bool, ∀ b6 : Bool, ∀ b7 : Bool, ∀ b8 : Bool, ∀ b9 : Bool, ∀ b10 : Bool, ∀ b11 : Bool, ∀ b12 : Bool, ∀ b13 : Bool, ∀ b14 : Bool, ∀ b15 : Bool, ∀ b16 : Bool, ∀ b17 : Bool, ∀ b18 : Bool, ∀ b19 : Bool, ∀ b20 : Bool, ∀ b21 : Bool, ∀ b22 : Bool, ∀ b23 : Bool, ∀ b24 : Bool, ∀ b25 : Bool, ∀ b26 : Bool, ∀ b27 : Bool, ∀ b28 : Bool, ∀ b29 : Bool, True))) := by
  kernel_rfl
theorem ev (ns : List Int) : callN 200 52 [.fz ns] ⟨0, []⟩ (fun v _ => yes v) (fun _ _ => False) := by
  rw [ev_eq]
  repeat' first | exact trivial | intro _ | constructor
end KX
open PySem PySem.W PySem.Calls PyProof.Rows
theorem PySem.Challenge.cw_rootsaid_k06_polynomials_of_one_unknown_holds : PySem.Challenge.rw_rootsaid_k06_polynomials_of_one_unknown.Holds := by
  w_on; o_law
  refine HandSHeadRun.head_any (r := OpenLaw.row PySem.Challenge.rw_rootsaid_k06_polynomials_of_one_unknown) (q := view (OpenLaw.row PySem.Challenge.rw_rootsaid_k06_polynomials_of_one_unknown).prog [65]) (H := KX.hk) (ob := KX.ob) (M := 4000) (loose := KX.loose) (d := HandSHeadRun.topDef (OpenLaw.row PySem.Challenge.rw_rootsaid_k06_polynomials_of_one_unknown).prog 65) (kwd := []) KX.ob_eq
    (by kernel_rfl) (fun s => by kernel_rfl) KX.run (by kernel_rfl) (by kernel_rfl) (by kernel_rfl) (by rfl) (by first | assumption | decide +kernel) (by decide +kernel) ⟨rfl, rfl, rfl, rfl, rfl, by decide +kernel⟩ ?hw ?hc
  case hw => w_witness2
  case hc =>
    refine L2.walk_ofE (l := PySem.Challenge.rw_rootsaid_k06_polynomials_of_one_unknown) (n := 63) (k := 200) (x := "script") (CX := RS.CXw (PySem.Challenge.rw_rootsaid_k06_polynomials_of_one_unknown).prog) rfl (by decide) (by kernel_rfl) ⟨rfl, by decide, by decide⟩ ?F ?G
    case F =>
      intro w mg fa h Y G hmg0
      obtain ⟨K, KX_, c, cx⟩ := Y
      have hmg : mg ("law" : PySem.Str) = some (.ref fa) := by
        have e : (HandSHeadRun.topDef (OpenLaw.row PySem.Challenge.rw_rootsaid_k06_polynomials_of_one_unknown).prog 65).name = ("law" : PySem.Str) := by kernel_rfl
        rw [← e]
        exact hmg0
      obtain ⟨FX, D⟩ := KX.facts KX_ G c cx
      obtain ⟨fd, FD⟩ := D.d_law
      have e := hmg.symm.trans D.m_law
      cases e
      have b := FD.bindsA (ps := ["script"]) fun _ _ _ _ _ _ us hl => match us, hl with | [_], _ => rfl
      refine ⟨K, fd, RS.spOf K (RS.clOf K KX.cns) (KX.callN 200) 52, KX_, fun s v => b s [v] rfl, fun H a ns _ hO hS => RS.sp_law2 KX.ev H a ns hO hS, fun base _ _ => RS.fn_cxw (KX.k_law FX (KX.lvl FX D 199) FD).ok⟩
    case G => exact fun H s e s' z => RS.cxw_none H s e s' z
