import PyProof.Rows.All
import Wide.All
import OpenK.AllK
import Wide.FinOn
import HandS.ForMost
import HandS.Exc
import HandS.TupAny
import HandS.TupMul
import HandS.Conv
import HandS.Strs
import HandS.TryOnly
import HandS.ExcOwn
import HandS.WordsExc
import HandS.Defaults
import HandS.IsInst
import HandS.Deep
import HandS.Wide
import HandS.Style
import HandS.SortInts
import HandS.Flow
import HandS.CallSlots
import KE.KTupSum
import HandS.Zip
import HandS.SetFor
import HandS.Walk
import HandS.DictComp
import KE.GoesMore
import HandS.MakeKwOnly
import KE.KStateDown
import Lean
import HandS.Head0
import HandS.Head1
import HandS.Head2
import HandS.HeadEnd
import HandS.HeadHook1
import HandS.HeadHook2
import HandS.HeadHook3
import HandS.HeadHook4
import HandS.HeadWalk
import HandS.EndBits
import PySem.Challenge.RW_swaprow_k53_whole_rings_decided
set_option Elab.async false
set_option linter.all false
set_option maxRecDepth 100000
set_option maxHeartbeats 1000000
/-! The D-layer, part T: new tuples whose very object is known to bear no dict of its own (so that their methods may be called). -/
namespace DL
open PySem PySem.Spec PyProof.Rows L2
/-- an object of the class tuple itself, without a dict -/
def TO (o : Obj) : Prop := o.cls = .type "tuple" ∧ o.dict = none
/-- a plain tuple that is read -/
def SqP (K : PySem.W.Frag) (H : Hp) (a : Addr) (xs : List V) : Prop :=
  (∃ o, H a = some (.frz o (.tup xs)) ∧ TO o) ∨
    ∃ (o : Obj) (its : Array Value) (n : Nat), K.lookup a = some o ∧ TO o ∧ o.data = .seq its n ∧ its.size ≤ sizeLine ∧ Vals xs its.toList
theorem SqP.t {K : PySem.W.Frag} {H : Hp} {a : Addr} {xs : List V} (h : SqP K H a xs) : SqT K H a xs := by
  rcases h with ⟨o, h, _⟩ | ⟨o, its, n, h1, h2, h3⟩
  · exact .inl (.inr ⟨o, h⟩)
  · exact .inr ⟨o, its, n, h1, h2.1, h3⟩
/-- what is wanted of a new tuple -/
def NewT (H : Hp) (Q : VK) (xs : List V) : Prop := ∀ p o, H p = none → TO o → Q (.ref p) (upd H p (.frz o (.tup xs)))
section
variable {X : Cx} {pins : List (Addr × Obj)} {σ : L2.St} {H : Hp} {s : Shared} {ys : List V}
theorem Inv.tnew {its : List Value} {t' : Nat} {Q : VK} (I : L2.Inv X pins σ H s) (hv : Vals ys its) (hz : ys.length ≤ sizeLine) (q : NewT H Q ys) :
    L2.EP X pins σ Q (.ref s.heap.objs.size) { s with heap := s.heap.push { cls := .type "tuple", data := .seq its.toArray }, toks := t' } :=
  ⟨.ref s.heap.objs.size, _, I.laid (t' := t') (o := .frz { cls := .type "tuple", data := .seq its.toArray } (.tup ys)) (fun _ _ z => Heap.get?_push_of_some _ z) (Nat.le_refl _)
    ⟨Heap.get?_push_size _ rfl, hz, its, hv, IsTup.new _ _⟩, rfl, q _ _ (I.hok.fresh (Nat.le_refl _)) ⟨rfl, rfl⟩⟩
end
section
variable {X : Cx} {es : List Expr} {t : TA} {pos : Pos}
theorem pe_tupF {x1} (h : PA X es t) : PE X (.Tuple es x1 pos) (fun σ H Q => t σ H fun xs H1 => xs.length ≤ sizeLine ∧ NewT H1 Q xs) :=
  ⟨fun pins s σ H Q I hq => wpAny_Tuple_spliced (thn (h.run pos pins s σ H _ I hq) fun us s1 ⟨xs, H1, I1, r, z, q⟩ => ⟨by rw [← r.length]; exact z, Inv.tnew (t' := s1.toks) I1 r z q⟩)⟩
/-- tuple(a list), tuple(a tuple) -/
theorem call_tupleF : CallR X (.type "tuple") (fun xs H Q => ∃ p ys, xs = [.ref p] ∧ ((SqL X.K H p ys ∧ NewT H Q ys) ∨ (SqT X.K H p ys ∧ Q (.ref p) H))) := by
  intro pins s σ H xs us Q I r ⟨p, ys, e, h⟩
  subst e
  obtain ⟨u, rfl, rx⟩ := vals1 r
  cases rx
  rcases h with ⟨hq, q⟩ | ⟨hq, q⟩
  · obtain ⟨its, r', pl, hz⟩ := I.list hq
    have hlen := r'.length
    exact call_tuple_list pl.isList (fun h' kp => Inv.tnew (t' := s.toks) (I.kept (t' := s.toks) kp) r' hz q) (by simp only [List.size_toArray] <;> omega)
  · obtain ⟨its, r', pl, hz⟩ := I.tuple hq
    exact call_tuple_same pl ⟨.ref p, H, I, rfl, q⟩
theorem pe_tupRgF {e : Expr} {te : L2.St → Hp → (Int → Int → Hp → Prop) → Prop} {p : Pos} (hc : X.calm = true) (hg : Gl X "tuple") (hm : X.mg "tuple" = none) (he : PRg X e te) (na : starEach [e] X.env = (false, eval e X.env) :: starEach [] X.env := by rfl) :
    PE X (.Call (.Name "tuple" p) [e] [] pos) (fun σ H Q => te σ H fun a b H1 => RgOk a b ∧ NewT H1 Q (rgV a b)) := by
  refine ⟨fun pins s σ H Q I h => Call_ (ld_blt I hg hm boot_tuple (PyProof.Rows.callWith_type1 (args_cons (thn (he pins s σ H _ I h) fun x s1 ⟨r, a, b, t, u, v, H1, ex, hr, I1, ok, q⟩ => args_nil ?_) na) na))⟩
  subst ex
  obtain ⟨b1, b2, b3, b4, b5⟩ := ok
  refine call_tuple_range (n := (b - a).toNat) (I1.ok.hd hc) hr (small_one b1 b2 b3 b4) (rangeSize_nat a b) b5 fun h' tk acc hk hi => ?_
  have e2 := Inv.tnew (t' := tk) (its := acc.toList) (I1.kept (t' := tk) hk) (vals_rg hi) (by rw [rgV_length, sizeLine_eq]; omega) q
  rw [Array.toArray_toList] at e2
  exact e2
/-- t + u -/
theorem op_catF : OpR X (binaryOp .Add) (fun x y H Q => ∃ a b xs ys, x = .ref a ∧ y = .ref b ∧ SqT X.K H a xs ∧ SqT X.K H b ys ∧ xs.length + ys.length ≤ sizeLine ∧
    (xs = [] → Q (.ref b) H) ∧ (xs ≠ [] → ys = [] → Q (.ref a) H) ∧ NewT H Q (xs ++ ys)) := by
  intro pins s σ H x y v u Q I rx ry ⟨a, b, xs, ys, e1, e2, ha, hb, hz, q0, q1, q2⟩
  subst e1 e2
  cases rx
  cases ry
  obtain ⟨its, r1, p1, _⟩ := I.tuple ha
  obtain ⟨its2, r2, p2, _⟩ := I.tuple hb
  by_cases hx : xs = []
  · subst hx
    cases r1
    exact cat_tup0 p1 p2 ⟨.ref b, H, I, rfl, q0 rfl⟩
  · refine HT.cat_tup p1 p2 (fun z => hx (r1.nil_iff.mp z)) (fun z => ⟨.ref a, H, I, rfl, q1 hx (r2.nil_iff.mp z)⟩) (fun z => Inv.tnew (t' := s.toks) I (r1.append r2) (by rw [List.length_append]; exact hz) q2) (by rw [← r1.length, ← r2.length]; exact hz)
/-- t[lo:hi] -/
theorem sl_tupF : SlR X (fun x lo hi H Q => ∃ a xs, x = .ref a ∧ SqT X.K H a xs ∧ (HT.sIx xs.length 0 lo = 0 ∧ HT.sIx xs.length xs.length hi = xs.length → Q (.ref a) H) ∧ NewT H Q (cutV xs lo hi)) := by
  intro pins s σ H x v vl vu lo hi sl Q I rx hs pl pu ⟨a, xs, e, hx, q1, q2⟩
  subst e
  cases rx
  obtain ⟨its, r, ht, hz⟩ := I.tuple hx
  have hlen : its.toArray.size = xs.length := by rw [List.size_toArray]; exact r.length.symm
  refine ⟨"tuple", _, PyProof.Rows.slot_tuple_getitem.lookup, ht.typeIs, ?_⟩
  by_cases hw : HT.sIx xs.length 0 lo = 0 ∧ HT.sIx xs.length xs.length hi = xs.length
  · exact getItem_tuple_whole ht hs pl pu (by rw [hlen]; exact hw) ⟨.ref a, H, I, rfl, q1 hw⟩
  · refine HT.getItem_tuple_cut ht hs pl pu (by rw [hlen]; exact hw) ?_ (by rw [hlen]; exact hz)
    rw [hlen]
    exact Inv.tnew (t' := s.toks) I ((r.drop _).take _) (Nat.le_trans (cutV_length xs lo hi) hz) q2
/-- t * k -/
theorem op_repF : OpR X (binaryOp .Mult) (fun x y H Q => ∃ l k xs, x = .ref l ∧ y = .int k ∧ SqT X.K H l xs ∧ xs ≠ [] ∧ 2 ≤ k ∧ k ≤ 1000 ∧ xs.length ≤ 1000 ∧ NewT H Q (List.replicate k.toNat xs).flatten) := by
  intro pins s σ H x y v u Q I rx ry ⟨l, k, xs, e1, e2, hT, hne, h1, h2, hz, q⟩
  subst e1 e2
  cases rx
  obtain ⟨t, rfl⟩ := ry
  obtain ⟨its, r, ⟨⟨cls, dd, data, sl⟩, ho, hc, n, hd⟩, hs⟩ := I.tuple hT
  simp only at hc hd
  subst hc hd
  have hle : its.length = xs.length := r.length.symm
  have hn : its ≠ [] := fun e => hne (List.eq_nil_of_length_eq_zero (by rw [← hle, e]; rfl))
  have hi : its.toArray.isEmpty = false := by cases its with
    | nil => exact absurd rfl hn
    | cons a b => rfl
  have hsz0 : its.toArray.size = xs.length := by rw [List.size_toArray, hle]
  have hm : ((its.toArray.size : Nat) : Int) * k ≤ 1000000 := by
    have a1 : ((xs.length : Nat) : Int) * k ≤ 1000 * k := Int.mul_le_mul_of_nonneg_right (by omega) (by omega)
    rw [hsz0]
    omega
  have a2 : k.toNat * xs.length ≤ 1000 * 1000 := Nat.mul_le_mul (by omega) hz
  have flen : (List.replicate k.toNat its).flatten.length ≤ sizeLine := by rw [PyProof.Rows.lm_len_rep_flat, hle, sizeLine_eq]; omega
  have c0 : (decide (k < -(2 ^ 63)) || decide (k ≥ 2 ^ 63)) = false := by rw [decide_eq_false (by omega), decide_eq_false (by omega)] <;> rfl
  have c1 : (its.toArray.isEmpty || k == 1) = false := by rw [hi, Bool.false_or]; exact beq_eq_false_iff_ne.mpr (by omega)
  have c2 : (decide (k ≤ 0) || its.toArray.isEmpty) = false := by rw [hi, Bool.or_false]; exact decide_eq_false (by omega)
  have c4 : Builtin.Tuple.tupleTooMany (((its.toArray.size : Nat) : Int) * k) = false := by unfold Builtin.Tuple.tupleTooMany; rw [sizeLine_eq]; exact decide_eq_false (by omega)
  refine wpAny_binaryOp_repeat_ref (T := "tuple") (U := "int") (by decide) ⟨_, ho, rfl⟩ (fun s' => typeIs_int s' k t) noFill_tuple_mul F.fills_int_mul F.slot_int_rmul repeat_tuple F.slot_int_index.lookup ?_
  refine call_meets F.slot_int_rmul (typeIs_int s k t) F.entry_int_rmul (F.args_int_rmul_2 _ _) (int_rmul_tuple k t l its.toArray n dd sl) ⟨ho, rfl, ⟨_, ho, rfl⟩, ?_⟩
  refine call_meets F.slot_tuple_mul ⟨_, ho, rfl⟩ F.entry_tuple_mul (F.args_tuple_mul_2 _ _) (tuple_mulW l its.toArray n dd sl k t c0 c1 c2 (by omega) c4 (by rw [size_rep, List.size_toArray]; exact flen)) ⟨ho, ?_⟩
  rw [size_rep]
  exact Inv.tnew (t' := s.toks) I (r.rep k.toNat) (by rw [PyProof.Rows.lm_len_rep_flat, sizeLine_eq]; omega) q
/-- a method of a plain tuple -/
theorem pe_bmT {o e : Expr} {es : List Expr} {to : TE} {name : Str} {apos cpos : Pos} {id : String} {r : V → List V → Hp → VK → Prop} (slot : Slot "tuple" name id) (hty : typeOf (.builtin id) = pure (.type "method_descriptor")) (hm : MtR X id r) (ho : PE X o to) (ha : PA X (e :: es) t)
    (hbase : attributeBase o name X.env (eval o X.env) = eval o X.env := by rfl)
    (hfew : ((backTo cpos (starEach (e :: es) X.env)).all (fun x => !x.1) && (backToKw cpos (keywordEach [] X.env)).all (fun x => x.1.isSome)
      && decide ((e :: es).length + ([] : List Keyword).length + (if ([] : List Keyword).isEmpty then 0 else 1) < 30)) = true := by rfl)
    (hline : (apos.endLine == cpos.line) = true := by rfl) (hs : starEach (e :: es) X.env = (false, eval e X.env) :: starEach es X.env := by rfl) (hplain : (backTo cpos (starEach es X.env)).any (·.1) = false := by rfl) :
    PE X (.Call (.Attribute o name apos) (e :: es) [] cpos) (fun σ H Q => to σ H fun x H1 => (∃ p ys, x = .ref p ∧ SqP X.K H1 p ys) ∧ t σ H1 fun xs H2 => r x xs H2 Q) := by
  refine ⟨fun pins s σ H Q I h => wpAny_Call_method_late hbase hfew hline rfl (thn (ho.run pins s σ H _ I h) fun v s1 ⟨x, H1, I1, r1, ⟨p, ys, ex, hp⟩, q1⟩ => ?_)⟩
  subst ex
  cases r1
  have h12 : ∃ ob, s1.heap.get? p = some ob ∧ TO ob := by
    rcases hp with ⟨ob, h, z⟩ | ⟨ob, its, n, h, z, _⟩
    · exact ⟨ob, (I1.hok p _ h).1, z⟩
    · exact ⟨ob, I1.kIn p ob h, z⟩
  obtain ⟨ob, h1, h2⟩ := h12
  refine ⟨"tuple", id, PySem.F.plainAttrs_tuple, slot, hty, ⟨ob, h1, h2.1⟩, fun a e2 => by cases e2; exact ⟨ob, h1, h2.2⟩, ?_⟩
  have hA := ha.run cpos pins s1 σ H1 _ I1 q1
  rw [hs] at hA ⊢
  refine Calls.callWith_builtin (by show (false || (backTo cpos (starEach es X.env)).any (·.1)) = false; rw [hplain] <;> rfl) (Calls.evalArgs_plain (thn hA fun us s2 ⟨vs, H2, I2, r2, q2⟩ => hm pins s2 σ H2 (V.ref p) vs _ us Q I2 (show RelV (V.ref p) (Value.ref p) from rfl) r2 q2))
/-- t.index(x), flat items -/
theorem mt_tupIx : MtR X "tuple.index" (fun x xs H Q => ∃ p ys y j z, x = .ref p ∧ xs = [y] ∧ SqT X.K H p ys ∧ flatV y = true ∧ ys.all flatV = true ∧ ys[j]? = some z ∧ eqV z y = true ∧
    (∀ (m : Nat) z', m < j → ys[m]? = some z' → eqV z' y = false) ∧ Q (.int (j : Nat)) H) := by
  intro pins s σ H x xs v us Q I rx rxs ⟨p, ys, y, j, z, e1, e2, hq, fy, fs, hj, hz, hno, q⟩
  subst e1 e2
  cases rx
  obtain ⟨uy, rfl, ry⟩ := vals1 rxs
  obtain ⟨its, r, ⟨⟨cls, dd, data, sl⟩, ho, hc, n, hd⟩, hsz⟩ := I.tuple hq
  simp only at hc hd
  subst hc hd
  have hl := r.length
  have hjl : j < ys.length := (List.getElem?_eq_some_iff.mp hj).1
  have hjs : j < its.toArray.size := by rw [List.size_toArray]; omega
  have at_ : ∀ (m : Nat) (hm : m < its.toArray.size) z', ys[m]? = some z' → eqU y its.toArray[m] = eqV z' y := by
    intro m hm z' hz'
    obtain ⟨w, h1, h2⟩ := r.get hz'
    have hml : m < its.length := by simpa using hm
    have e3 : its.toArray[m] = w := by
      rw [List.getElem?_eq_getElem hml] at h1
      simpa using Option.some.inj h1
    rw [e3]
    exact eqU_of h2 (flat_at fs hz')
  refine call_meets PySem.F.slot_tuple_index ⟨_, ho, rfl⟩ PySem.F.entry_tuple_index (PySem.F.args_tuple_index_2 _ _) (TI.tuple_indexAt p its.toArray n dd sl uy (eqU y) j hjs ?_ ?_) ⟨ho, ?_, ?_⟩
  · rw [at_ j hjs z hj]; exact hz
  · intro m hm hmj
    have hml : m < ys.length := by omega
    have e3 : ys[m]? = some ys[m] := List.getElem?_eq_getElem hml
    rw [at_ m hm _ e3]
    exact hno m _ hmj e3
  · intro u hu
    exact mem_eqAt ry fy r fs u (by simpa using hu)
  · exact ⟨.int (j : Nat), H, I.tok _, ⟨_, rfl⟩, q⟩

/-! ### t[::-1] -/
theorem rev_adjust (n : Nat) : Builtin.Slice.sliceAdjust none none (-1) (n : Int) = ((n : Int) - 1, -1) := by
  unfold Builtin.Slice.sliceAdjust
  simp
theorem rev_places (n : Nat) : Builtin.Slice.slicePlaces ((n : Int) - 1) (-1) (-1) = n := by
  unfold Builtin.Slice.slicePlaces
  rw [if_neg (by decide)]
  by_cases h : n = 0
  · subst h; rfl
  · rw [if_pos (by omega)]
    have : ((n : Int) - 1 - -1 - 1) / (- -1) + 1 = n := by
      rw [show (- -1 : Int) = 1 by decide, Int.ediv_one]; omega
    rw [this]
    exact Int.toNat_natCast n
theorem fm_map {α β : Type} {f : α → Option β} {g : α → β} : ∀ {l : List α}, (∀ k ∈ l, f k = some (g k)) → l.filterMap f = l.map g
  | [], _ => rfl
  | x :: l, h => by
    rw [List.filterMap_cons_some (h x List.mem_cons_self), List.map_cons, fm_map fun k hk => h k (List.mem_cons_of_mem _ hk)]
theorem rev_pick (xs : Array Value) : ((List.range xs.size).filterMap fun (k : Nat) => xs[((xs.size : Int) - 1 + (k : Int) * -1).toNat]?).toArray = xs.toList.reverse.toArray := by
  congr 1
  apply List.ext_getElem?
  intro i
  have key : (List.range xs.size).filterMap (fun (k : Nat) => xs[((xs.size : Int) - 1 + (k : Int) * -1).toNat]?) = (List.range xs.size).map fun k => xs.toList.getD (xs.size - 1 - k) .none := by
    refine fm_map fun k hk => ?_
    have hk := List.mem_range.mp hk
    have e : ((xs.size : Int) - 1 + (k : Int) * -1).toNat = xs.size - 1 - k := by omega
    have hl : xs.size - 1 - k < xs.size := by omega
    rw [e]
    simp [List.getD, hl]
  rw [key, List.getElem?_map]
  by_cases h : i < xs.size
  · rw [List.getElem?_range h, List.getElem?_reverse (by simpa using h)]
    have hl : xs.size - 1 - i < xs.size := by omega
    simp [List.getD, hl]
  · rw [List.getElem?_eq_none (by simpa using h), List.getElem?_eq_none (by simpa using h)]
    rfl
theorem getItem_tuple_rev {prog : Program} {w : World} {A : Around} {E : Value → Shared → Prop} {s : Shared} {t sl : Addr} {items : Array Value} {vs : Value} {Q : Value → Shared → Prop} (ht : IsTup s.heap t items) (hs : s.heap.IsSliceOf sl .none .none vs) (ps : IsPart vs (some (-1)))
    (h : Q (.ref s.heap.objs.size) { s with heap := s.heap.push { cls := .type "tuple", data := .seq items.toList.reverse.toArray } })
    (hsz : items.size ≤ sizeLine) : wpAny (model prog w) A (getItem (.ref t) (.ref sl)) Q E s := by
  have htake : sizeOk (.seq items.toList.reverse.toArray) := by
    show items.toList.reverse.toArray.size ≤ sizeLine
    simpa using hsz
  obtain ⟨os, hos, hcs, hds⟩ := id hs
  have hTs : s.TypeIs (.ref sl) "slice" := ⟨os, hos, hcs⟩
  unfold getItem
  try with_reducible refine wpAny_holding ?_
  first | refine wpAny_bind (wpAny_pure ?_) | skip
  refine wpAny_bind (wpAny_sequenceKey ht.typeIs (by decide) (wpAny_bind (wpAny_callSpecial?_slot (name := Str.ofString "__getitem__") ht.typeIs PyProof.Rows.slot_tuple_getitem
    (wpAny_call_entry PyProof.Rows.slot_tuple_getitem ht.typeIs entry_tuple_getitem ?_ (args_tuple_getitem _ _)))))
  show wpAny _ _ (Builtin.Tuple.tupleItemsOf (.ref t) >>= _) _ _ s
  refine wpAny_bind (tupleItemsOf_ ht (wpAny_bind (wpAny_typeOf hTs ?_)))
  rw [if_pos (by decide)]
  refine wpAny_bind ?_
  unfold Builtin.Slice.sliceApplied Builtin.Slice.sliceFields
  refine wpAny_bind (wpAny_bind (wpAny_field hos hds (x := .none) rfl (wpAny_bind (wpAny_field hos hds (x := .none) rfl (wpAny_bind (wpAny_field hos hds (x := vs) rfl (wpAny_pure ?_)))))))
  refine wpAny_bind (HT.slicePart_ ps ?_)
  show wpAny _ _ (if ((-1 : Int) == 0) = true then _ else _) _ _ s
  rw [if_neg (by decide)]
  refine wpAny_bind (slicePart_none (wpAny_bind (slicePart_none (wpAny_bind (wpAny_pure ?_)))))
  show wpAny _ _ (match Builtin.Slice.sliceAdjust none none (-1) (items.size : Int) with | (lo, hi) => pure (lo, (-1 : Int), Builtin.Slice.slicePlaces lo hi (-1))) _ _ s
  rw [rev_adjust]
  show wpAny _ _ (pure ((items.size : Int) - 1, (-1 : Int), Builtin.Slice.slicePlaces ((items.size : Int) - 1) (-1) (-1))) _ _ s
  rw [rev_places]
  refine wpAny_pure ?_
  have hno : ¬ ((((items.size : Int) - 1) == 0 && (-1 : Int) == 1 && items.size == items.size) = true) := by simp
  show wpAny _ _ (if (((items.size : Int) - 1) == 0 && (-1 : Int) == 1 && items.size == items.size) = true then _ else _) _ _ s
  rw [if_neg hno, rev_pick]
  first
    | exact wpAny_bind (m := Builtin.Tuple.tupleExact _) (wpAny_newObj_type (wpAny_pure ⟨_, rfl, wpAny_pure h⟩) htake)
    | exact wpAny_bind (m := Builtin.Tuple.tupleExact _) (wpAny_newObj_type (wpAny_bind (wpAny_pure (wpAny_pure ⟨_, rfl, wpAny_pure h⟩))) htake)
    | exact wpAny_bind (wpAny_bind (m := Builtin.Tuple.tupleExact _) (wpAny_newObj_type (wpAny_pure (wpAny_pure ⟨_, rfl, wpAny_pure h⟩)) htake))
    | exact wpAny_bind (wpAny_bind (m := Builtin.Tuple.tupleExact _) (wpAny_newObj_type (wpAny_pure ⟨_, rfl, wpAny_pure h⟩) htake))
/-- e[::-1], a list or a tuple -/
theorem pe_revB {e : Expr} {te : TE} {k : Nat} {p1 p2 p3 : Pos} (he : PE X e te) : PE X (.Subscript e (.Slice none none (some (.UnaryOp .USub (.Constant (.int 1) k p1) p2)) p3) pos)
    (fun σ H Q => te σ H fun x H1 => ∃ a xs, x = .ref a ∧ ((SqL X.K H1 a xs ∧ ∀ p, H1 p = none → Q (.ref p) (upd H1 p (.lst xs.reverse))) ∨ (SqT X.K H1 a xs ∧ NewT H1 Q xs.reverse))) := by
  refine ⟨fun pins s σ H Q I h => Subscript_ (thn (he.run pins s σ H _ I h) fun v s1 ⟨x, H1, I1, r1, a, xs, ex, q⟩ => ?_)⟩
  subst ex
  cases r1
  have hst : PO X (some (.UnaryOp .USub (.Constant (.int 1) k p1) p2)) (tPart (tUn (rU fun i => .int (-i)) (tC (.int 1)))) := po_some (pe_un un_neg pe_int)
  refine wpAny_Slice (thn (po_none.run pins s1 σ H1 (fun o H2 => o = none ∧ H2 = H1) I1 ⟨rfl, rfl⟩) fun vl s2 ⟨l, H2, I2, pl, el, e2⟩ => ?_)
  subst el e2
  refine thn (po_none.run pins s2 σ H2 (fun o H3 => o = none ∧ H3 = H2) I2 ⟨rfl, rfl⟩) fun vu s3 ⟨u, H3, I3, pu, eu, e3⟩ => ?_
  subst eu e3
  refine thn (hst.run pins s3 σ H3 (fun o H4 => o = some (-1) ∧ H4 = H3) I3 ⟨1, rfl, -1, rfl, rfl, rfl⟩) fun vs s4 ⟨o, H4, I4, ps, eo, e4⟩ => ?_
  subst eo e4
  have I5 : L2.Inv X pins σ H4 { s4 with heap := s4.heap.push { cls := .type "slice", data := .fields #[vl, vu, vs] } } := I4.kept (t' := s4.toks) fun b ob q => Heap.get?_push_of_some _ q
  show wpAny (model X.prog X.w) X.A (subscriptTail e (.Slice none none (some (.UnaryOp .USub (.Constant (.int 1) k p1) p2)) p3) (.ref a) (.ref s4.heap.objs.size)) (L2.EP X pins σ Q) X.xe { s4 with heap := s4.heap.push { cls := .type "slice", data := .fields #[vl, vu, vs] } }
  cases pl
  cases pu
  rcases q with ⟨hx, q⟩ | ⟨hx, q⟩
  · obtain ⟨its, r, ht, hz⟩ := I5.list hx
    have hlen := r.length
    refine tail_any (ops := [.ref a, .ref s4.heap.objs.size]) ht.isList.typeIs (PySem.slot_list_getitem.lookup) ?_ (by with_unfolding_all rfl)
    refine wpAny_getItem_list_slice ht.isList (Heap.IsSliceOf.new _ .none .none vs) .none .none ps (by decide) ?_ (by rw [List.size_toArray]; omega)
    rw [PySem.W.krv_pick]
    exact ⟨.ref _, _, I5.laid (t' := s4.toks) (o := .lst xs.reverse) (fun b ob q => Heap.get?_push_of_some _ q) (Nat.le_refl _) ⟨by rw [List.length_reverse]; exact hz, _, 0, r.reverse, Heap.get?_push_size _ rfl⟩, rfl, q _ (I5.hok.fresh (Nat.le_refl _))⟩
  · obtain ⟨its, r, ht, hz⟩ := I5.tuple hx
    have hlen := r.length
    refine tail_any (ops := [.ref a, .ref s4.heap.objs.size]) ht.typeIs (PyProof.Rows.slot_tuple_getitem.lookup) ?_ (by with_unfolding_all rfl)
    refine getItem_tuple_rev ht (Heap.IsSliceOf.new _ .none .none vs) ps ?_ (by rw [List.size_toArray]; omega)
    all_goals exact Inv.tnew (t' := s4.toks) I5 r.reverse (by rw [List.length_reverse]; exact hz) q
end
end DL

set_option Elab.async false
set_option linter.all false
set_option maxRecDepth 100000
set_option maxHeartbeats 1000000
/-! The D-layer, part 0: values as trees (immutable data), a map of what is mutable, and how both lie in the hand layer's abstract heap. -/
namespace DL
open PySem PySem.Spec PyProof.Rows L2

/-- a value: immutable data as a tree; anything mutable by its address -/
inductive D where
  | non | bl (b : Bool) | int (i : Int) | str (x : Str) | ref (a : Addr) | ty (n : String) | tup (ds : List D) | wtup (ds : List D) | flst (ds : List D)

/-- a list that nothing writes -/
def FL (K : PySem.W.Frag) (H : Hp) (a : Addr) (xs : List V) : Prop :=
  (∃ o, H a = some (.frz o (.lst xs))) ∨ ∃ (o : Obj) (its : Array Value) (n : Nat), K.lookup a = some o ∧ o.cls = .type "list" ∧ o.dict = none ∧ o.data = .seq its n ∧ its.size ≤ sizeLine ∧ Vals xs its.toList
theorem FL.l {K : PySem.W.Frag} {H : Hp} {a : Addr} {xs : List V} (h : FL K H a xs) : SqL K H a xs := by
  rcases h with ⟨o, h⟩ | h
  · exact .inl (.inr ⟨o, h⟩)
  · exact .inr h
section
variable (K : PySem.W.Frag) (H : Hp)
mutual
def Den : D → V → Prop
  | .non, v => v = .non
  | .bl b, v => v = .bl b
  | .int i, v => v = .int i
  | .str x, v => v = .str x
  | .ref a, v => v = .ref a
  | .ty n, v => v = .ty n
  | .tup ds, v => ∃ a xs, v = .ref a ∧ SqP K H a xs ∧ Dens ds xs
  | .wtup ds, v => ∃ a xs, v = .ref a ∧ SqT K H a xs ∧ Dens ds xs
  | .flst ds, v => ∃ a xs, v = .ref a ∧ FL K H a xs ∧ Dens ds xs
def Dens : List D → List V → Prop
  | [], xs => xs = []
  | d :: ds, xs => ∃ v vs, xs = v :: vs ∧ Den d v ∧ Dens ds vs
end
end

/-! ### tuples stay -/
structure TK (H H' : Hp) : Prop where
  w : ∀ a xs, Rd H a (.tup xs) → Rd H' a (.tup xs)
  f : ∀ a o v, H a = some (.frz o v) → H' a = some (.frz o v)
section
variable {K : PySem.W.Frag} {H H' H'' : Hp} {p : Addr} {o o' : HO}
theorem TK.refl (H : Hp) : TK H H := ⟨fun _ _ h => h, fun _ _ _ h => h⟩
theorem TK.trans (a : TK H H') (b : TK H' H'') : TK H H'' := ⟨fun c xs h => b.w c xs (a.w c xs h), fun c o xs h => b.f c o xs (a.f c o xs h)⟩
theorem TK.sqT (t : TK H H') {a : Addr} {xs : List V} (h : SqT K H a xs) : SqT K H' a xs := by
  rcases h with h | h
  · exact .inl (t.w a xs h)
  · exact .inr h
theorem TK.sqP (t : TK H H') {a : Addr} {xs : List V} (h : SqP K H a xs) : SqP K H' a xs := by
  rcases h with ⟨o, h, z⟩ | h
  · exact .inl ⟨o, t.f a o _ h, z⟩
  · exact .inr h
theorem TK.fl (t : TK H H') {a : Addr} {xs : List V} (h : FL K H a xs) : FL K H' a xs := by
  rcases h with ⟨o, h⟩ | h
  · exact .inl ⟨o, t.f a o _ h⟩
  · exact .inr h
theorem TK.of (h : ∀ a u, H a = some u → (∀ xs, u ≠ .tup xs) ∧ (∀ ob v, u ≠ .frz ob v) ∨ H' a = some u) : TK H H' := by
  refine ⟨fun a xs r => ?_, fun a o xs r => ?_⟩
  · rcases r with r | ⟨ob, r⟩
    · rcases h a _ r with ⟨z, _⟩ | z
      · exact absurd rfl (z xs)
      · exact .inl z
    · rcases h a _ r with ⟨_, z⟩ | z
      · exact absurd rfl (z ob _)
      · exact .inr ⟨ob, z⟩
  · rcases h a _ r with ⟨_, z⟩ | z
    · exact absurd rfl (z o _)
    · exact z
theorem TK.new (h : H p = none) : TK H (upd H p o) := TK.of fun a u e => .inr (by rw [upd_ne (ne_of_none e h)]; exact e)
theorem TK.wr (h : H p = some o) (h1 : ∀ xs, o ≠ .tup xs) (h2 : ∀ ob u, o ≠ .frz ob u) : TK H (upd H p o') := TK.of fun a u e => by
  by_cases z : a = p
  · rw [z, h] at e
    cases e
    exact .inl ⟨h1, h2⟩
  · exact .inr (by rw [upd_ne z]; exact e)
theorem TK.lst {xs : List V} (h : H p = some (.lst xs)) : TK H (upd H p o') := TK.wr h (fun _ z => by cases z) (fun _ _ z => by cases z)
theorem TK.dK {kvs : List (Key × V)} (h : H p = some (.dK kvs)) : TK H (upd H p o') := TK.wr h (fun _ z => by cases z) (fun _ _ z => by cases z)
theorem TK.ins {C dx : Addr} {fs : List (Str × V)} (h : H p = some (.ins C dx fs)) : TK H (upd H p o') := TK.wr h (fun _ z => by cases z) (fun _ _ z => by cases z)
mutual
theorem Den.keep (t : TK H H') : ∀ {d : D} {v : V}, Den K H d v → Den K H' d v
  | .non, _, h => by simpa [Den] using h
  | .bl _, _, h => by simpa [Den] using h
  | .int _, _, h => by simpa [Den] using h
  | .str _, _, h => by simpa [Den] using h
  | .ref _, _, h => by simpa [Den] using h
  | .ty _, _, h => by simpa [Den] using h
  | .tup ds, v, h => by
    simp only [Den] at h ⊢
    obtain ⟨a, xs, e, hs, hd⟩ := h
    exact ⟨a, xs, e, t.sqP hs, Dens.keep t hd⟩
  | .wtup ds, v, h => by
    simp only [Den] at h ⊢
    obtain ⟨a, xs, e, hs, hd⟩ := h
    exact ⟨a, xs, e, t.sqT hs, Dens.keep t hd⟩
  | .flst ds, v, h => by
    simp only [Den] at h ⊢
    obtain ⟨a, xs, e, hs, hd⟩ := h
    exact ⟨a, xs, e, t.fl hs, Dens.keep t hd⟩
theorem Dens.keep (t : TK H H') : ∀ {ds : List D} {vs : List V}, Dens K H ds vs → Dens K H' ds vs
  | [], _, h => by simpa [Dens] using h
  | d :: ds, vs, h => by
    simp only [Dens] at h ⊢
    obtain ⟨v, r, e, h1, h2⟩ := h
    exact ⟨v, r, e, Den.keep t h1, Dens.keep t h2⟩
end
theorem Den.non {v : V} : Den K H .non v ↔ v = .non := by simp [Den]
theorem Den.bl {b : Bool} {v : V} : Den K H (.bl b) v ↔ v = .bl b := by simp [Den]
theorem Den.int {b : Int} {v : V} : Den K H (.int b) v ↔ v = .int b := by simp [Den]
theorem Den.str {b : Str} {v : V} : Den K H (.str b) v ↔ v = .str b := by simp [Den]
theorem Den.ref {b : Addr} {v : V} : Den K H (.ref b) v ↔ v = .ref b := by simp [Den]
theorem Den.ty {b : String} {v : V} : Den K H (.ty b) v ↔ v = .ty b := by simp [Den]
theorem Den.tup {ds : List D} {v : V} : Den K H (.tup ds) v ↔ ∃ a xs, v = .ref a ∧ SqP K H a xs ∧ Dens K H ds xs := by simp only [Den]
theorem Den.wtup {ds : List D} {v : V} : Den K H (.wtup ds) v ↔ ∃ a xs, v = .ref a ∧ SqT K H a xs ∧ Dens K H ds xs := by simp only [Den]
theorem Den.flst {ds : List D} {v : V} : Den K H (.flst ds) v ↔ ∃ a xs, v = .ref a ∧ FL K H a xs ∧ Dens K H ds xs := by simp only [Den]
theorem Den.newTup {ds : List D} {vs : List V} {ob : Obj} (h : H p = Option.none) (z : TO ob) (d : Dens K H ds vs) : Den K (upd H p (.frz ob (.tup vs))) (.tup ds) (.ref p) :=
  Den.tup.mpr ⟨p, vs, rfl, .inl ⟨ob, upd_same, z⟩, d.keep (TK.new h)⟩
theorem Dens.nil {vs : List V} : Dens K H [] vs ↔ vs = [] := by simp [Dens]
theorem Dens.cons {d : D} {ds : List D} {vs : List V} : Dens K H (d :: ds) vs ↔ ∃ v r, vs = v :: r ∧ Den K H d v ∧ Dens K H ds r := by simp only [Dens]
theorem Dens.mk {d : D} {ds : List D} {v : V} {r : List V} (h1 : Den K H d v) (h2 : Dens K H ds r) : Dens K H (d :: ds) (v :: r) := Dens.cons.mpr ⟨v, r, rfl, h1, h2⟩
theorem Dens.length : ∀ {ds : List D} {vs : List V}, Dens K H ds vs → ds.length = vs.length
  | [], _, h => by rw [Dens.nil.mp h] <;> rfl
  | d :: ds, _, h => by
    obtain ⟨v, r, rfl, _, h2⟩ := Dens.cons.mp h
    simp [Dens.length h2]
theorem Dens.get : ∀ {ds : List D} {vs : List V} {i : Nat} {d : D}, Dens K H ds vs → ds[i]? = some d → ∃ v, vs[i]? = some v ∧ Den K H d v
  | [], _, _, _, _, e => by simp at e
  | d :: ds, _, 0, x, h, e => by
    obtain ⟨v, r, rfl, h1, h2⟩ := Dens.cons.mp h
    simp at e
    subst e
    exact ⟨v, rfl, h1⟩
  | d :: ds, _, i + 1, x, h, e => by
    obtain ⟨v, r, rfl, h1, h2⟩ := Dens.cons.mp h
    obtain ⟨u, e1, e2⟩ := Dens.get (i := i) h2 (by simpa using e)
    exact ⟨u, by simpa using e1, e2⟩
theorem Dens.getV : ∀ {ds : List D} {vs : List V} {i : Nat} {v : V}, Dens K H ds vs → vs[i]? = some v → ∃ d, ds[i]? = some d ∧ Den K H d v
  | [], _, _, _, h, e => by rw [Dens.nil.mp h] at e; simp at e
  | d :: ds, _, 0, x, h, e => by
    obtain ⟨v, r, rfl, h1, h2⟩ := Dens.cons.mp h
    simp at e
    subst e
    exact ⟨d, rfl, h1⟩
  | d :: ds, _, i + 1, x, h, e => by
    obtain ⟨v, r, rfl, h1, h2⟩ := Dens.cons.mp h
    obtain ⟨u, e1, e2⟩ := Dens.getV (i := i) h2 (by simpa using e)
    exact ⟨u, by simpa using e1, e2⟩
theorem Dens.app : ∀ {ds es : List D} {vs us : List V}, Dens K H ds vs → Dens K H es us → Dens K H (ds ++ es) (vs ++ us)
  | [], _, _, _, h, g => by rw [Dens.nil.mp h]; exact g
  | d :: ds, _, _, _, h, g => by
    obtain ⟨v, r, rfl, h1, h2⟩ := Dens.cons.mp h
    exact Dens.mk h1 (Dens.app h2 g)
theorem Dens.take : ∀ {ds : List D} {vs : List V} (n : Nat), Dens K H ds vs → Dens K H (ds.take n) (vs.take n)
  | _, _, 0, _ => by simp [Dens]
  | [], _, n + 1, h => by rw [Dens.nil.mp h]; simp [Dens]
  | d :: ds, _, n + 1, h => by
    obtain ⟨v, r, rfl, h1, h2⟩ := Dens.cons.mp h
    exact Dens.mk h1 (Dens.take n h2)
theorem Dens.drop : ∀ {ds : List D} {vs : List V} (n : Nat), Dens K H ds vs → Dens K H (ds.drop n) (vs.drop n)
  | _, _, 0, h => h
  | [], _, n + 1, h => by rw [Dens.nil.mp h]; simp [Dens]
  | d :: ds, _, n + 1, h => by
    obtain ⟨v, r, rfl, h1, h2⟩ := Dens.cons.mp h
    exact Dens.drop n h2
theorem Dens.set : ∀ {ds : List D} {vs : List V} (n : Nat) {d : D} {v : V}, Dens K H ds vs → Den K H d v → Dens K H (ds.set n d) (vs.set n v)
  | [], _, n, _, _, h, _ => by rw [Dens.nil.mp h]; simp [Dens]
  | d :: ds, _, 0, _, _, h, g => by
    obtain ⟨v, r, rfl, h1, h2⟩ := Dens.cons.mp h
    exact Dens.mk g h2
  | d :: ds, _, n + 1, _, _, h, g => by
    obtain ⟨v, r, rfl, h1, h2⟩ := Dens.cons.mp h
    exact Dens.mk h1 (Dens.set n h2 g)
theorem Dens.eraseIdx : ∀ {ds : List D} {vs : List V} (n : Nat), Dens K H ds vs → Dens K H (ds.eraseIdx n) (vs.eraseIdx n)
  | [], _, n, h => by rw [Dens.nil.mp h]; simp [Dens]
  | d :: ds, _, 0, h => by
    obtain ⟨v, r, rfl, h1, h2⟩ := Dens.cons.mp h
    exact h2
  | d :: ds, _, n + 1, h => by
    obtain ⟨v, r, rfl, h1, h2⟩ := Dens.cons.mp h
    exact Dens.mk h1 (Dens.eraseIdx n h2)
theorem Dens.reverse : ∀ {ds : List D} {vs : List V}, Dens K H ds vs → Dens K H ds.reverse vs.reverse
  | [], _, h => by rw [Dens.nil.mp h]; simp [Dens]
  | d :: ds, _, h => by
    obtain ⟨v, r, rfl, h1, h2⟩ := Dens.cons.mp h
    rw [List.reverse_cons, List.reverse_cons]
    exact (Dens.reverse h2).app (Dens.mk h1 (Dens.nil.mpr rfl))
theorem Dens.rep {ds : List D} {vs : List V} (h : Dens K H ds vs) : ∀ k : Nat, Dens K H (List.replicate k ds).flatten (List.replicate k vs).flatten
  | 0 => by simp [Dens]
  | k + 1 => by
    rw [List.replicate_succ, List.replicate_succ, List.flatten_cons, List.flatten_cons]
    exact h.app (Dens.rep h k)
theorem Dens.dropLast {ds : List D} {vs : List V} (h : Dens K H ds vs) : Dens K H ds.dropLast vs.dropLast := by
  rw [List.dropLast_eq_take, List.dropLast_eq_take, h.length]
  exact h.take _
theorem Dens.ints : ∀ {ns : List Int} {vs : List V}, Dens K H (ns.map D.int) vs ↔ vs = ns.map V.int
  | [], vs => by simp [Dens]
  | n :: ns, vs => by
    rw [List.map_cons, List.map_cons, Dens.cons]
    constructor
    · rintro ⟨v, r, rfl, h1, h2⟩
      rw [Den.int.mp h1, Dens.ints.mp h2]
    · rintro rfl
      exact ⟨_, _, rfl, Den.int.mpr rfl, Dens.ints.mpr rfl⟩
theorem Dens.bls : ∀ {ns : List Bool} {vs : List V}, Dens K H (ns.map D.bl) vs ↔ vs = ns.map V.bl
  | [], vs => by simp [Dens]
  | n :: ns, vs => by
    rw [List.map_cons, List.map_cons, Dens.cons]
    constructor
    · rintro ⟨v, r, rfl, h1, h2⟩
      rw [Den.bl.mp h1, Dens.bls.mp h2]
    · rintro rfl
      exact ⟨_, _, rfl, Den.bl.mpr rfl, Dens.bls.mpr rfl⟩
theorem Dens.strs : ∀ {ns : List Str} {vs : List V}, Dens K H (ns.map D.str) vs ↔ vs = ns.map V.str
  | [], vs => by simp [Dens]
  | n :: ns, vs => by
    rw [List.map_cons, List.map_cons, Dens.cons]
    constructor
    · rintro ⟨v, r, rfl, h1, h2⟩
      rw [Den.str.mp h1, Dens.strs.mp h2]
    · rintro rfl
      exact ⟨_, _, rfl, Den.str.mpr rfl, Dens.strs.mpr rfl⟩
theorem Dens.atI {ds : List D} {vs : List V} {i : Int} {d : D} (h : Dens K H ds vs) (e : L2.atI ds i = some d) : ∃ v, L2.atI vs i = some v ∧ Den K H d v := by
  unfold L2.atI at e ⊢
  rw [← h.length]
  cases q : ixN ds.length i with
  | none => rw [q] at e; cases e
  | some j =>
    rw [q] at e
    exact h.get (i := j) e
end

/-! ### the mutable things -/
inductive DO where
  | lst (ds : List D) | rol (ds : List D) | dic (kvs : List (Key × D)) | ins (C : Addr) (fs : List (Str × D)) | raw (o : HO)
abbrev Mu := Addr → Option DO
def updM (μ : Mu) (a : Addr) (o : DO) : Mu := fun b => if b = a then some o else μ b
theorem updM_same {μ : Mu} {a : Addr} {o : DO} : updM μ a o a = some o := if_pos rfl
theorem updM_ne {μ : Mu} {a b : Addr} {o : DO} (h : b ≠ a) : updM μ a o b = μ b := if_neg h
theorem updM_updM {μ : Mu} {a : Addr} {o u : DO} : updM (updM μ a o) a u = updM μ a u := by
  funext b; unfold updM; split <;> rfl
theorem mu_ne {μ : Mu} {a b : Addr} {o : DO} (h : μ a = some o) (h' : μ b = none) : a ≠ b := fun e => by rw [e, h'] at h; cases h
theorem mu_ne2 {μ : Mu} {a b : Addr} {o u : DO} (h : μ a = some o) (h' : μ b = some u) (d : o ≠ u) : a ≠ b := fun e => by
  rw [e, h'] at h; exact d (Option.some.inj h).symm

section
variable (K : PySem.W.Frag) (H : Hp)
def DenKV {κ : Type} (ps : List (κ × D)) (qs : List (κ × V)) : Prop := Paired (fun (p : κ × D) (q : κ × V) => p.1 = q.1 ∧ Den K H p.2 q.2) ps qs
def DOk (a : Addr) : DO → Prop
  | .lst ds => ∃ xs, H a = some (.lst xs) ∧ Dens K H ds xs
  | .rol ds => ∃ xs, Rd H a (.lst xs) ∧ Dens K H ds xs
  | .dic kvs => ∃ qs, H a = some (.dK qs) ∧ DenKV K H kvs qs
  | .ins C fs => ∃ dx gs, H a = some (.ins C dx gs) ∧ DenKV K H fs gs
  | .raw o => H a = some o
def Rep (μ : Mu) : Prop := ∀ a o, μ a = some o → DOk K H a o
abbrev DSt := List (Option D)
def Sts (δ : DSt) (σ : L2.St) : Prop := δ.length = σ.length ∧ ∀ (i : Nat) (d : D), δ[i]? = some (some d) → ∃ v, σ[i]? = some (some v) ∧ Den K H d v
end
section
variable {K : PySem.W.Frag} {H H' : Hp} {μ : Mu} {p a : Addr} {o o' : HO} {u : DO} {δ : DSt} {σ : L2.St}
theorem DenKV.keep {κ : Type} {ps : List (κ × D)} {qs : List (κ × V)} (t : TK H H') (h : DenKV K H ps qs) : DenKV K H' ps qs := Paired.mapP h fun _ _ x => ⟨x.1, x.2.keep t⟩
theorem DenKV.length {κ : Type} {ps : List (κ × D)} {qs : List (κ × V)} (h : DenKV K H ps qs) : ps.length = qs.length := Paired.length h
theorem Rep.none (r : Rep K H μ) (h : H p = none) : μ p = none := by
  cases e : μ p with
  | none => rfl
  | some w =>
    have := r p w e
    cases w with
    | lst ds => obtain ⟨xs, q, _⟩ := this; rw [h] at q; cases q
    | rol ds =>
      obtain ⟨xs, q, _⟩ := this
      rcases q with q | ⟨ob, q⟩
      · rw [h] at q; cases q
      · rw [h] at q; cases q
    | dic kvs => obtain ⟨xs, q, _⟩ := this; rw [h] at q; cases q
    | ins C fs => obtain ⟨dx, xs, q, _⟩ := this; rw [h] at q; cases q
    | raw w => have q : H p = some w := this; rw [h] at q; cases q
/-- what one μ-entry leans on is its own cell and the tuples -/
theorem DOk.stay {w : DO} (x : DOk K H a w) (t : TK H H') (e : ∀ o, H a = some o → H' a = some o) : DOk K H' a w := by
  cases w with
  | lst ds => obtain ⟨xs, q, d⟩ := x; exact ⟨xs, e _ q, d.keep t⟩
  | rol ds =>
    obtain ⟨xs, q, d⟩ := x
    refine ⟨xs, ?_, d.keep t⟩
    rcases q with q | ⟨ob, q⟩
    · exact .inl (e _ q)
    · exact .inr ⟨ob, e _ q⟩
  | dic kvs => obtain ⟨xs, q, d⟩ := x; exact ⟨xs, e _ q, d.keep t⟩
  | ins C fs => obtain ⟨dx, xs, q, d⟩ := x; exact ⟨dx, xs, e _ q, d.keep t⟩
  | raw w => exact e _ x
theorem DOk.cell {w : DO} (x : DOk K H a w) : ∃ o, H a = some o := by
  cases w with
  | lst ds => obtain ⟨xs, q, _⟩ := x; exact ⟨_, q⟩
  | rol ds =>
    obtain ⟨xs, q, _⟩ := x
    rcases q with q | ⟨ob, q⟩
    · exact ⟨_, q⟩
    · exact ⟨_, q⟩
  | dic kvs => obtain ⟨xs, q, _⟩ := x; exact ⟨_, q⟩
  | ins C fs => obtain ⟨dx, xs, q, _⟩ := x; exact ⟨_, q⟩
  | raw w => exact ⟨_, x⟩
/-- one cell of H changes (a new one, or one that is written) -/
theorem Rep.put (r : Rep K H μ) (t : TK H (upd H p o)) (x : DOk K (upd H p o) p u) : Rep K (upd H p o) (updM μ p u) := fun b w e => by
  by_cases hb : b = p
  · subst hb; rw [updM_same] at e; cases e; exact x
  · rw [updM_ne hb] at e
    exact (r b w e).stay t fun ob q => by rw [upd_ne hb]; exact q
/-- a cell is new and not told of -/
theorem Rep.more (r : Rep K H μ) (h : H p = Option.none) : Rep K (upd H p o) μ := fun b w e => by
  have hb : b ≠ p := fun z => by rw [z, r.none h] at e; cases e
  exact (r b w e).stay (TK.new h) fun ob q => by rw [upd_ne hb]; exact q
/-- forgetting -/
theorem Rep.weak {μ' : Mu} (r : Rep K H μ) (h : ∀ a o, μ' a = some o → μ a = some o) : Rep K H μ' := fun a o e => r a o (h a o e)
theorem Rep.newLst {ds : List D} {xs : List V} (r : Rep K H μ) (h : H p = Option.none) (d : Dens K H ds xs) : Rep K (upd H p (.lst xs)) (updM μ p (.lst ds)) :=
  r.put (TK.new h) ⟨xs, upd_same, d.keep (TK.new h)⟩
theorem Rep.setLst {ds : List D} {xs ys : List V} (r : Rep K H μ) (h : H p = some (.lst ys)) (d : Dens K H ds xs) : Rep K (upd H p (.lst xs)) (updM μ p (.lst ds)) :=
  r.put (TK.lst h) ⟨xs, upd_same, d.keep (TK.lst h)⟩
theorem Rep.lst {ds : List D} (r : Rep K H μ) (e : μ p = some (.lst ds)) : ∃ xs, H p = some (.lst xs) ∧ Dens K H ds xs := r p _ e
theorem Rep.dic {ds : List (Key × D)} (r : Rep K H μ) (e : μ p = some (.dic ds)) : ∃ xs, H p = some (.dK xs) ∧ DenKV K H ds xs := r p _ e
theorem Rep.ins {C : Addr} {fs : List (Str × D)} (r : Rep K H μ) (e : μ p = some (.ins C fs)) : ∃ dx xs, H p = some (.ins C dx xs) ∧ DenKV K H fs xs := r p _ e
theorem Rep.raw (r : Rep K H μ) (e : μ p = some (.raw o)) : H p = some o := r p _ e
/-- a list that is read -/
def LsM (μ : Mu) (a : Addr) (ds : List D) : Prop := μ a = some (.lst ds) ∨ μ a = some (.rol ds)
theorem Rep.ls {ds : List D} (r : Rep K H μ) (e : LsM μ p ds) : ∃ xs, SqL K H p xs ∧ Dens K H ds xs := by
  rcases e with e | e
  · obtain ⟨xs, q, d⟩ := r p _ e; exact ⟨xs, .inl (.inl q), d⟩
  · obtain ⟨xs, q, d⟩ := r p _ e; exact ⟨xs, .inl q, d⟩
theorem Sts.keep (t : TK H H') (h : Sts K H δ σ) : Sts K H' δ σ := ⟨h.1, fun i d e => by
  obtain ⟨v, e1, e2⟩ := h.2 i d e
  exact ⟨v, e1, e2.keep t⟩⟩
theorem Sts.set {i : Nat} {d : D} {v : V} (h : Sts K H δ σ) (hd : Den K H d v) : Sts K H (δ.set i (some d)) (σ.set i (some v)) := by
  refine ⟨by simp [h.1], fun j e he => ?_⟩
  by_cases hj : i = j
  · subst hj
    by_cases hl : i < δ.length
    · rw [List.getElem?_set_self hl] at he
      cases he
      exact ⟨v, List.getElem?_set_self (by rw [← h.1]; exact hl), hd⟩
    · rw [List.getElem?_eq_none (by simpa using hl)] at he; cases he
  · rw [List.getElem?_set_ne hj] at he ⊢
    exact h.2 j e he
theorem Sts.unset {i : Nat} {o : Option V} (h : Sts K H δ σ) : Sts K H (δ.set i Option.none) (σ.set i o) := by
  refine ⟨by simp [h.1], fun j e he => ?_⟩
  by_cases hj : i = j
  · subst hj
    by_cases hl : i < δ.length
    · rw [List.getElem?_set_self hl] at he; cases he
    · rw [List.getElem?_eq_none (by simpa using hl)] at he; cases he
  · rw [List.getElem?_set_ne hj] at he ⊢
    exact h.2 j e he
theorem Sts.start {N : List Str} {ds : List D} {vs : List V} (h : Dens K H ds vs) : Sts K H (ds.map some ++ List.replicate (N.length - ds.length) Option.none) (L2.start N vs) := by
  unfold L2.start
  have hl := h.length
  refine ⟨by simp [hl], fun i d e => ?_⟩
  by_cases hi : i < ds.length
  · rw [List.getElem?_append_left (by simpa using hi), List.getElem?_map] at e
    rw [List.getElem?_append_left (by simpa [← hl] using hi), List.getElem?_map]
    cases q : ds[i]? with
    | none => rw [q] at e; cases e
    | some x =>
      rw [q] at e
      have e' : x = d := by simpa using e
      subst e'
      obtain ⟨v, e1, e2⟩ := h.get q
      exact ⟨v, by rw [e1]; rfl, e2⟩
  · rw [List.getElem?_append_right (by simpa using hi), List.getElem?_replicate] at e
    split at e <;> cases e
end
end DL

set_option Elab.async false
set_option linter.all false
set_option maxRecDepth 100000
set_option maxHeartbeats 1000000
/-! The D-layer, part 1: readings over the tree values, and the rules of expressions. -/
namespace DL
open PySem PySem.Spec PyProof.Rows L2

abbrev DK := D → Mu → Prop
abbrev DX := Addr → List (Str × D) → DSt → Mu → Prop
abbrev DX0 := Addr → List (Str × D) → Mu → Prop
abbrev DE := DSt → Mu → DX → DK → Prop
abbrev DT := DSt → Mu → DX → (Bool → Mu → Prop) → Prop
abbrev DA := DSt → Mu → DX → (List D → Mu → Prop) → Prop
abbrev DSp := List D → Mu → DX0 → DK → Prop
abbrev DR2 := D → D → Mu → DK → Prop
abbrev DR1 := D → Mu → DK → Prop
abbrev DRs := List D → Mu → DK → Prop
structure DEnds where
  nx : DSt → Mu → Prop
  rt : DK
  bk : DSt → Mu → Prop := fun _ _ => False
  ct : DSt → Mu → Prop := fun _ _ => False
  ex : DX := fun _ _ _ _ => False
abbrev DS := DEnds → DSt → Mu → Prop

section
variable (K : PySem.W.Frag) (W : WX)
def XL (σ : L2.St) (δ : DSt) (H : Hp) (RX : DX) : Prop := ∀ C fs μ' d gs H', RX C fs δ μ' → TK H H' → Rep K H' μ' → H' d = some (.xd gs) → DenKV K H' fs gs → W (.ref C) (some d) σ H'
def QL (H : Hp) (R : DK) (Q : VK) : Prop := ∀ d μ' v H', R d μ' → TK H H' → Den K H' d v → Rep K H' μ' → Q v H'
def upE (m : DE) : TE := fun σ H Q => ∃ δ μ RX R, Sts K H δ σ ∧ Rep K H μ ∧ m δ μ RX R ∧ XL K W σ δ H RX ∧ QL K H R Q
def upT (m : DT) : TT := fun σ H Q => ∃ δ μ RX R, Sts K H δ σ ∧ Rep K H μ ∧ m δ μ RX R ∧ XL K W σ δ H RX ∧ ∀ b μ' H', R b μ' → TK H H' → Rep K H' μ' → Q b H'
def upA (m : DA) : TA := fun σ H Q => ∃ δ μ RX R, Sts K H δ σ ∧ Rep K H μ ∧ m δ μ RX R ∧ XL K W σ δ H RX ∧ ∀ ds μ' vs H', R ds μ' → TK H H' → Dens K H' ds vs → Rep K H' μ' → Q vs H'
def upR2 (r : DR2) : R2 := fun x y H Q => ∃ dx dy μ R, Den K H dx x ∧ Den K H dy y ∧ Rep K H μ ∧ r dx dy μ R ∧ QL K H R Q
def upR1 (r : DR1) : V → Hp → VK → Prop := fun x H Q => ∃ dx μ R, Den K H dx x ∧ Rep K H μ ∧ r dx μ R ∧ QL K H R Q
def upRs (r : DRs) : List V → Hp → VK → Prop := fun xs H Q => ∃ ds μ R, Dens K H ds xs ∧ Rep K H μ ∧ r ds μ R ∧ QL K H R Q
def upRm (r : D → List D → Mu → DK → Prop) : V → List V → Hp → VK → Prop := fun x xs H Q => ∃ dx ds μ R, Den K H dx x ∧ Dens K H ds xs ∧ Rep K H μ ∧ r dx ds μ R ∧ QL K H R Q
def upSp (s : DSp) : Sp := fun vs H Q E => ∃ ds μ RX R, Dens K H ds vs ∧ Rep K H μ ∧ s ds μ RX R ∧ QL K H R Q ∧
  ∀ C fs μ' d gs H', RX C fs μ' → TK H H' → Rep K H' μ' → H' d = some (.xd gs) → DenKV K H' fs gs → E (.ref C) (some d) H'
structure Link (Δ : DEnds) (E : Ends) (H : Hp) : Prop where
  nx : ∀ δ' μ' σ' H', Δ.nx δ' μ' → TK H H' → Sts K H' δ' σ' → Rep K H' μ' → E.nx σ' H'
  rt : ∀ d μ' v H', Δ.rt d μ' → TK H H' → Den K H' d v → Rep K H' μ' → E.rt v H'
  bk : ∀ δ' μ' σ' H', Δ.bk δ' μ' → TK H H' → Sts K H' δ' σ' → Rep K H' μ' → E.bk σ' H'
  ct : ∀ δ' μ' σ' H', Δ.ct δ' μ' → TK H H' → Sts K H' δ' σ' → Rep K H' μ' → E.ct σ' H'
  ex : ∀ C fs δ' μ' d gs σ' H', Δ.ex C fs δ' μ' → TK H H' → Sts K H' δ' σ' → Rep K H' μ' → H' d = some (.xd gs) → DenKV K H' fs gs → W (.ref C) (some d) σ' H'
def upS (m : DS) : TS := fun E σ H => ∃ δ μ Δ, Sts K H δ σ ∧ Rep K H μ ∧ m Δ δ μ ∧ Link K W Δ E H
end
section
variable {K : PySem.W.Frag} {W : WX} {H H' : Hp} {σ : L2.St} {δ : DSt} {RX : DX} {R : DK} {Q : VK} {Δ : DEnds} {E : Ends}
theorem XL.keep (x : XL K W σ δ H RX) (t : TK H H') : XL K W σ δ H' RX := fun C fs μ' d gs H2 h t2 => x C fs μ' d gs H2 h (t.trans t2)
theorem QL.keep (x : QL K H R Q) (t : TK H H') : QL K H' R Q := fun d μ' v H2 h t2 => x d μ' v H2 h (t.trans t2)
theorem Link.keep (x : Link K W Δ E H) (t : TK H H') : Link K W Δ E H' :=
  ⟨fun a b c d h t2 => x.nx a b c d h (t.trans t2), fun a b c d h t2 => x.rt a b c d h (t.trans t2), fun a b c d h t2 => x.bk a b c d h (t.trans t2), fun a b c d h t2 => x.ct a b c d h (t.trans t2),
   fun a b c d e f g i h t2 => x.ex a b c d e f g i h (t.trans t2)⟩
end
theorem PE.imp {X : Cx} {e : Expr} {t t' : TE} (h : PE X e t) (i : ∀ σ H Q, t' σ H Q → t σ H Q) : PE X e t' := ⟨fun pins s σ H Q I h' => h.run pins s σ H Q I (i _ _ _ h')⟩
theorem PE.or {X : Cx} {e : Expr} {t t' : TE} (h : PE X e t) (h' : PE X e t') : PE X e (fun σ H Q => t σ H Q ∨ t' σ H Q) := ⟨fun pins s σ H Q I q => q.elim (h.run pins s σ H Q I) (h'.run pins s σ H Q I)⟩
theorem PT.imp {X : Cx} {e : Expr} {t t' : TT} (h : PT X e t) (i : ∀ σ H Q, t' σ H Q → t σ H Q) : PT X e t' := ⟨fun pins s σ H Q I h' => h.run pins s σ H Q I (i _ _ _ h')⟩
theorem PW.imp {X : Cx} {e : Expr} {t t' : TT} (h : PW X e t) (i : ∀ σ H Q, t' σ H Q → t σ H Q) : PW X e t' := ⟨fun wh pins s σ H Q I h' => h.run wh pins s σ H Q I (i _ _ _ h')⟩
theorem PA.imp {X : Cx} {e : List Expr} {t t' : TA} (h : PA X e t) (i : ∀ σ H Q, t' σ H Q → t σ H Q) : PA X e t' := ⟨fun pos pins s σ H Q I h' => h.run pos pins s σ H Q I (i _ _ _ h')⟩
theorem PS.imp {X : Cx} {e : Stmt} {t t' : TS} (h : PS X e t) (i : ∀ D σ H, t' D σ H → t D σ H) : PS X e t' := ⟨fun pins s σ H D I h' => h.run pins s σ H D I (i _ _ _ h')⟩
theorem PSs.imp {X : Cx} {e : List Stmt} {t t' : TS} (h : PSs X e t) (i : ∀ D σ H, t' D σ H → t D σ H) : PSs X e t' := ⟨fun pins s σ H D I h' => h.run pins s σ H D I (i _ _ _ h')⟩

/-- what a body's derivation leans on -/
structure Ctx (X : Cx) (W : WX) (m : Nat) : Prop where
  calm : X.calm = true
  tk : Takes X W
  po : PassesOwn (model X.prog X.w) X.A X.env X.xe
  nd : X.N.Nodup
  rm : Room (m + 1) X.A
abbrev W0 : WX := fun _ _ _ _ => False
theorem Ctx.hu {X : Cx} {W : WX} {m : Nat} (c : Ctx X W m) : X.A.units + 65 < cLine := by have := c.rm.un; omega
theorem Ctx.hu1 {X : Cx} {W : WX} {m : Nat} (c : Ctx X W m) : X.A.units + 1 < cLine := by have := c.hu; omega
theorem Ctx.blk {X : Cx} {W : WX} {m : Nat} (c : Ctx X W m) {s : Shared} {H : Hp} {scope : Scope} {cenv : Env} {fp : List Addr} : Ctx (X.blk s H scope cenv fp) W0 m :=
  ⟨c.calm, L2.takes0, PassesOwn.never, c.nd, c.rm⟩
theorem Ctx.tr {X : Cx} {W W' : WX} {m : Nat} (c : Ctx X W m) {pn : List (Addr × Obj)} {xe : Value → Shared → Prop} (tk : Takes (X.tr pn xe) W') (po : PassesOwn (model X.prog X.w) X.A X.env xe) : Ctx (X.tr pn xe) W' m :=
  ⟨c.calm, tk, po, c.nd, c.rm⟩

def ME (X : Cx) (W : WX) (e : Expr) (m : DE) : Prop := PE X e (upE X.K W m)
def MT (X : Cx) (W : WX) (e : Expr) (m : DT) : Prop := PT X e (upT X.K W m)
def MW (X : Cx) (W : WX) (e : Expr) (m : DT) : Prop := PW X e (upT X.K W m)
def MA (X : Cx) (W : WX) (es : List Expr) (m : DA) : Prop := PA X es (upA X.K W m)
def MS (X : Cx) (W : WX) (s : Stmt) (m : DS) : Prop := PS X s (upS X.K W m)
def MSs (X : Cx) (W : WX) (s : List Stmt) (m : DS) : Prop := PSs X s (upS X.K W m)

section
variable {X : Cx} {W : WX} {pos : Pos} {m : Nat} {a b e : Expr} {es : List Expr}

/-! ### names, constants -/
def mVar (i : Nat) : DE := fun δ μ _ R => ∃ d, δ[i]? = some (some d) ∧ R d μ
def mC (d : D) : DE := fun _ μ _ R => R d μ
theorem me_of {t : TE} {n : DE} (h : PE X e t) (i : ∀ σ H Q, upE X.K W n σ H Q → t σ H Q) : ME X W e n := PE.imp h i
theorem me_v (i : Nat) {x : Str} (hN : X.N[i]? = some x := by rfl) (hv : Vis X.env.scope x := by first | exact Or.inl rfl | exact Or.inr (Or.inl rfl) | exact Or.inr (Or.inr rfl)) (hd : (x == ("__debug__" : Str)) = false := by decide)
    (hcd : (x == ("__classdict__" : Str)) = false := by decide) : ME X W (.Name x pos) (mVar i) :=
  me_of (pe_var hN hv hd hcd) fun σ H Q ⟨δ, μ, RX, R, st, rp, ⟨d, h1, h2⟩, xl, q⟩ => by
    obtain ⟨v, e1, e2⟩ := st.2 i d h1
    exact ⟨v, e1, q d μ v H h2 (TK.refl H) e2 rp⟩
theorem me_c {v : V} {d : D} (h : PE X e (tC v)) (hd : ∀ K H, Den K H d v) : ME X W e (mC d) :=
  me_of h fun σ H Q ⟨δ, μ, RX, R, st, rp, h, xl, q⟩ => q d μ v H h (TK.refl H) (hd _ _) rp
theorem me_int {i j} : ME X W (.Constant (.int i) j pos) (mC (.int i)) := me_c pe_int fun _ _ => Den.int.mpr rfl
theorem me_bl {i j} : ME X W (.Constant (.bool i) j pos) (mC (.bl i)) := me_c pe_bl fun _ _ => Den.bl.mpr rfl
theorem me_str {i j} : ME X W (.Constant (.str i) j pos) (mC (.str i)) := me_c pe_str fun _ _ => Den.str.mpr rfl
theorem me_non {j} : ME X W (.Constant .none j pos) (mC .non) := me_c pe_non fun _ _ => Den.non.mpr rfl
/-- a module's int -/
theorem me_gint {x : Str} {i : Int} (hm : ∃ t, X.mg x = some (.int i t)) (hg : Gl X x := by rfl) (hd : (x == ("__debug__" : Str)) = false := by decide) : ME X W (.Name x pos) (mC (.int i)) := by
  obtain ⟨t, hm⟩ := hm
  exact me_c (pe_glob (v := .int i) hg hm ⟨t, rfl⟩ hd) fun _ _ => Den.int.mpr rfl
theorem me_gstr {x : Str} {i : Str} (hm : ∃ t, X.mg x = some (.str i t)) (hg : Gl X x := by rfl) (hd : (x == ("__debug__" : Str)) = false := by decide) : ME X W (.Name x pos) (mC (.str i)) := by
  obtain ⟨t, hm⟩ := hm
  exact me_c (pe_glob (v := .str i) hg hm ⟨t, rfl⟩ hd) fun _ _ => Den.str.mpr rfl
/-- a module's class or function as a value -/
theorem me_gref {x : Str} {p : Addr} (hm : X.mg x = some (.ref p)) (hg : Gl X x := by rfl) (hd : (x == ("__debug__" : Str)) = false := by decide) : ME X W (.Name x pos) (mC (.ref p)) :=
  me_c (pe_glob hg hm (show RelV (.ref p) (.ref p) from rfl) hd) fun _ _ => Den.ref.mpr rfl
/-- a module's tuple -/
theorem me_gtup {x : Str} {p : Addr} {ds : List D} (hm : X.mg x = some (.ref p)) (ht : ∀ H, Den X.K H (.tup ds) (.ref p)) (hg : Gl X x := by rfl) (hd : (x == ("__debug__" : Str)) = false := by decide) : ME X W (.Name x pos) (mC (.tup ds)) :=
  me_of (pe_glob hg hm (show RelV (.ref p) (.ref p) from rfl) hd) fun σ H Q ⟨δ, μ, RX, R, st, rp, h, xl, q⟩ => q _ μ _ H h (TK.refl H) (ht H) rp
theorem me_bty {x : Str} {n : String} (hm : X.mg x = none) (hv : bootBuiltins x = some (.type n)) (hg : Gl X x := by rfl) (hn : x ≠ "__name__" := by decide) (hd : (x == ("__debug__" : Str)) = false := by decide) : ME X W (.Name x pos) (mC (.ty n)) :=
  me_c (pe_bltn hg hm hv (show RelV (.ty n) (.type n) from rfl) hn hd) fun _ _ => Den.ty.mpr rfl

/-! ### operators -/
def OpD (X : Cx) (f : Value → Value → Sem Value) (r : DR2) : Prop := OpR X f (upR2 X.K r)
def mOp (r : DR2) (ma mb : DE) : DE := fun δ μ RX R => ma δ μ RX fun x μ1 => mb δ μ1 RX fun y μ2 => r x y μ2 R
variable {ma mb mc : DE}
theorem bin_up {σ : L2.St} {H : Hp} {Q : VK} {r : DR2} {t : R2} (hr : ∀ x y H Q, upR2 X.K r x y H Q → t x y H Q) (h : upE X.K W (mOp r ma mb) σ H Q) : tOp t (upE X.K W ma) (upE X.K W mb) σ H Q := by
  obtain ⟨δ, μ, RX, R, st, rp, hm, xl, q⟩ := h
  exact ⟨δ, μ, RX, _, st, rp, hm, xl, fun x μ1 v1 H1 h1 t1 d1 r1 => ⟨δ, μ1, RX, _, st.keep t1, r1, h1, xl.keep t1, fun y μ2 v2 H2 h2 t2 d2 r2 =>
    hr _ _ _ _ ⟨x, y, μ2, R, d1.keep t2, d2, r2, h2, q.keep (t1.trans t2)⟩⟩⟩
theorem me_op {op : Operator} {r : DR2} (ho : OpD X (binaryOp op) r) (ha : ME X W a ma) (hb : ME X W b mb) : ME X W (.BinOp a op b pos) (mOp r ma mb) :=
  me_of (pe_op ho ha hb) fun _ _ _ h => bin_up (fun _ _ _ _ z => z) h
theorem me_cmp {op : CmpOp} {r : DR2} (ho : OpD X (compareOp op) r) (ha : ME X W a ma) (hb : ME X W b mb) (hm : behindInMarks op b = false) : ME X W (.Compare a [op] [b] pos) (mOp r ma mb) :=
  me_of (pe_cmpR ho ha hb hm) fun _ _ _ h => bin_up (fun _ _ _ _ z => z) h
def mUn (r : DR1) (ma : DE) : DE := fun δ μ RX R => ma δ μ RX fun x μ1 => r x μ1 R
theorem me_un {op : UnaryOp} {r : DR1} (ho : UnR X (unaryOp op) (upR1 X.K r)) (ha : ME X W a ma) : ME X W (.UnaryOp op a pos) (mUn r ma) :=
  me_of (pe_un ho ha) fun σ H Q ⟨δ, μ, RX, R, st, rp, hm, xl, q⟩ => ⟨δ, μ, RX, _, st, rp, hm, xl, fun x μ1 v1 H1 h1 t1 d1 r1 => ⟨x, μ1, R, d1, r1, h1, q.keep t1⟩⟩

/-! ### tests -/
def mTest (ma : DE) : DT := fun δ μ RX R => ma δ μ RX fun x μ1 => ∃ k, x = .bl k ∧ R k μ1
theorem test_up {σ : L2.St} {H : Hp} {Q : Bool → Hp → Prop} (h : upT X.K W (mTest ma) σ H Q) : upE X.K W ma σ H (fun x H1 => ∃ k, x = .bl k ∧ Q k H1) := by
  obtain ⟨δ, μ, RX, R, st, rp, hm, xl, q⟩ := h
  refine ⟨δ, μ, RX, _, st, rp, hm, xl, fun x μ1 v1 H1 h1 t1 d1 r1 => ?_⟩
  obtain ⟨k, rfl, h2⟩ := h1
  exact ⟨k, Den.bl.mp d1, q k μ1 H1 h2 t1 r1⟩
theorem mt_cmp {op : CmpOp} {r : DR2} (ho : OpD X (compareOp op) r) (ha : ME X W a ma) (hb : ME X W b mb) (hm : behindInMarks op b = false) : MT X W (.Compare a [op] [b] pos) (mTest (mOp r ma mb)) :=
  PT.imp (pt_cmp (show PC X op a b _ from ⟨fun pins s σ H Q I h => by
    have p := (pe_cmpR (pos := pos) ho ha hb hm)
    exact binT ha hb I h fun v u s2 x y H2 I2 rx ry q => ho pins s2 σ H2 x y v u Q I2 rx ry q⟩) hm) fun σ H Q h => by
      have h2 := test_up h
      obtain ⟨δ, μ, RX, R, st, rp, hm, xl, q⟩ := h2
      exact bin_up (fun _ _ _ _ z => z) ⟨δ, μ, RX, R, st, rp, hm, xl, q⟩
theorem mt_val (ha : ME X W e ma) (he : ∀ whole, isTrue e X.env whole = (do let v ← whole; standAt e.pos; holding [v] (truthy v)) := by intro _; rfl) : MT X W e (mTest ma) :=
  PT.imp (pt_val ha he) fun σ H Q h => test_up h
variable {ta tb tc : DT} {rest : List Expr}
def mAnd (t u : DT) : DT := fun δ μ RX R => t δ μ RX fun c μ1 => if c = true then u δ μ1 RX R else R false μ1
def mOr (t u : DT) : DT := fun δ μ RX R => t δ μ RX fun c μ1 => if c = true then R true μ1 else u δ μ1 RX R
def mNot (t : DT) : DT := fun δ μ RX R => t δ μ RX fun c μ1 => R (!c) μ1
theorem mw_and1 (ha : MT X W a ta) : MW X W (.BoolOp .And [a] pos) ta := pw_and1 ha
theorem mw_or1 (ha : MT X W a ta) : MW X W (.BoolOp .Or [a] pos) ta := pw_or1 ha
theorem mw_and (ha : MT X W a ta) (hb : MW X W (.BoolOp .And (b :: rest) pos) tb) : MW X W (.BoolOp .And (a :: b :: rest) pos) (mAnd ta tb) :=
  PW.imp (pw_and ha hb) fun σ H Q ⟨δ, μ, RX, R, st, rp, hm, xl, q⟩ => ⟨δ, μ, RX, _, st, rp, hm, xl, fun c μ1 H1 h1 t1 r1 => by
    cases c with
    | true => exact ⟨δ, μ1, RX, R, st.keep t1, r1, h1, xl.keep t1, fun b μ' H' hb t' => q b μ' H' hb (t1.trans t')⟩
    | false => exact q false μ1 H1 h1 t1 r1⟩
theorem mw_or (ha : MT X W a ta) (hb : MW X W (.BoolOp .Or (b :: rest) pos) tb) : MW X W (.BoolOp .Or (a :: b :: rest) pos) (mOr ta tb) :=
  PW.imp (pw_or ha hb) fun σ H Q ⟨δ, μ, RX, R, st, rp, hm, xl, q⟩ => ⟨δ, μ, RX, _, st, rp, hm, xl, fun c μ1 H1 h1 t1 r1 => by
    cases c with
    | true => exact q true μ1 H1 h1 t1 r1
    | false => exact ⟨δ, μ1, RX, R, st.keep t1, r1, h1, xl.keep t1, fun b μ' H' hb t' => q b μ' H' hb (t1.trans t')⟩⟩
theorem MW.mt (h : MW X W a ta) : MT X W a ta := PW.pt h
theorem mt_not (ha : MT X W a ta) : MT X W (.UnaryOp .Not a pos) (mNot ta) :=
  PT.imp (pt_not ha) fun σ H Q ⟨δ, μ, RX, R, st, rp, hm, xl, q⟩ => ⟨δ, μ, RX, _, st, rp, hm, xl, fun c μ1 H1 h1 t1 r1 => q (!c) μ1 H1 h1 t1 r1⟩
/-! as values, all but the last True or False -/
def mAndV (ma mb : DE) : DE := fun δ μ RX R => ma δ μ RX fun x μ1 => ∃ k, x = .bl k ∧ if k = true then mb δ μ1 RX R else R (.bl false) μ1
def mOrV (ma mb : DE) : DE := fun δ μ RX R => ma δ μ RX fun x μ1 => ∃ k, x = .bl k ∧ if k = true then R (.bl true) μ1 else mb δ μ1 RX R
def mNotV (ma : DE) : DE := fun δ μ RX R => ma δ μ RX fun x μ1 => ∃ k, x = .bl k ∧ R (.bl (!k)) μ1
theorem me_one {op} (h : ME X W a ma) : ME X W (.BoolOp op [a] pos) ma := pe_one h
theorem me_and (ha : ME X W a ma) (hb : ME X W (.BoolOp .And (b :: rest) pos) mb) : ME X W (.BoolOp .And (a :: b :: rest) pos) (mAndV ma mb) :=
  me_of (pe_and ha hb) fun σ H Q ⟨δ, μ, RX, R, st, rp, hm, xl, q⟩ => ⟨δ, μ, RX, _, st, rp, hm, xl, fun x μ1 v1 H1 h1 t1 d1 r1 => by
    obtain ⟨k, rfl, h2⟩ := h1
    refine ⟨k, Den.bl.mp d1, ?_⟩
    cases k with
    | true => exact ⟨δ, μ1, RX, R, st.keep t1, r1, h2, xl.keep t1, q.keep t1⟩
    | false => exact q _ μ1 _ H1 h2 t1 (Den.bl.mpr rfl) r1⟩
theorem me_or (ha : ME X W a ma) (hb : ME X W (.BoolOp .Or (b :: rest) pos) mb) : ME X W (.BoolOp .Or (a :: b :: rest) pos) (mOrV ma mb) :=
  me_of (pe_or ha hb) fun σ H Q ⟨δ, μ, RX, R, st, rp, hm, xl, q⟩ => ⟨δ, μ, RX, _, st, rp, hm, xl, fun x μ1 v1 H1 h1 t1 d1 r1 => by
    obtain ⟨k, rfl, h2⟩ := h1
    refine ⟨k, Den.bl.mp d1, ?_⟩
    cases k with
    | true => exact q _ μ1 _ H1 h2 t1 (Den.bl.mpr rfl) r1
    | false => exact ⟨δ, μ1, RX, R, st.keep t1, r1, h2, xl.keep t1, q.keep t1⟩⟩
theorem me_not (ha : ME X W a ma) : ME X W (.UnaryOp .Not a pos) (mNotV ma) :=
  me_of (pe_not ha) fun σ H Q ⟨δ, μ, RX, R, st, rp, hm, xl, q⟩ => ⟨δ, μ, RX, _, st, rp, hm, xl, fun x μ1 v1 H1 h1 t1 d1 r1 => by
    obtain ⟨k, rfl, h2⟩ := h1
    exact ⟨k, Den.bl.mp d1, q _ μ1 _ H1 h2 t1 (Den.bl.mpr rfl) r1⟩⟩
def mIf (t : DT) (ma mb : DE) : DE := fun δ μ RX R => t δ μ RX fun c μ1 => if c = true then ma δ μ1 RX R else mb δ μ1 RX R
theorem me_if {c : Expr} (hc : MT X W c tc) (ha : ME X W a ma) (hb : ME X W b mb) : ME X W (.IfExp c a b pos) (mIf tc ma mb) :=
  me_of (pe_ifExp hc ha hb) fun σ H Q ⟨δ, μ, RX, R, st, rp, hm, xl, q⟩ => ⟨δ, μ, RX, _, st, rp, hm, xl, fun k μ1 H1 h1 t1 r1 => by
    cases k with
    | true => exact ⟨δ, μ1, RX, R, st.keep t1, r1, h1, xl.keep t1, q.keep t1⟩
    | false => exact ⟨δ, μ1, RX, R, st.keep t1, r1, h1, xl.keep t1, q.keep t1⟩⟩
/-- a < b < c -/
def mChain (r r' : DR2) (ma mb mc : DE) : DE := fun δ μ RX R => ma δ μ RX fun x μ1 => mb δ μ1 RX fun y μ2 => r x y μ2 fun z μ3 => ∃ k, z = .bl k ∧ if k = true then mc δ μ3 RX fun u μ4 => r' y u μ4 R else R (.bl false) μ3
theorem chain_up {σ : L2.St} {H : Hp} {Q : VK} {r r' : DR2} (h : upE X.K W (mChain r r' ma mb mc) σ H Q) : tChain (upR2 X.K r) (upR2 X.K r') (upE X.K W ma) (upE X.K W mb) (upE X.K W mc) σ H Q := by
  obtain ⟨δ, μ, RX, R, st, rp, hm, xl, q⟩ := h
  refine ⟨δ, μ, RX, _, st, rp, hm, xl, fun x μ1 v1 H1 h1 t1 d1 r1 => ⟨δ, μ1, RX, _, st.keep t1, r1, h1, xl.keep t1, fun y μ2 v2 H2 h2 t2 d2 r2 => ?_⟩⟩
  refine ⟨x, y, μ2, _, d1.keep t2, d2, r2, h2, fun z μ3 v3 H3 h3 t3 d3 r3 => ?_⟩
  obtain ⟨k, rfl, h4⟩ := h3
  refine ⟨k, Den.bl.mp d3, ?_⟩
  cases k with
  | true =>
    refine ⟨δ, μ3, RX, _, st.keep (t1.trans (t2.trans t3)), r3, h4, xl.keep (t1.trans (t2.trans t3)), fun u μ4 v4 H4 h5 t4 d4 r4 => ?_⟩
    exact ⟨y, u, μ4, R, d2.keep (t3.trans t4), d4, r4, h5, q.keep (t1.trans (t2.trans (t3.trans t4)))⟩
  | false => exact q _ μ3 _ H3 h4 (t1.trans (t2.trans t3)) (Den.bl.mpr rfl) r3
theorem me_chain {c : Expr} {op op' : CmpOp} {r r' : DR2} (ho : OpD X (compareOp op) r) (ho' : OpD X (compareOp op') r') (ha : ME X W a ma) (hb : ME X W b mb) (hc : ME X W c mc)
    (h1 : lastMarks [op, op'] [b, c] = false := by with_unfolding_all rfl) : ME X W (.Compare a [op, op'] [b, c] pos) (mChain r r' ma mb mc) :=
  me_of (pe_chain ho ho' ha hb hc h1) fun σ H Q h => chain_up h
theorem mt_chain {c : Expr} {op op' : CmpOp} {r r' : DR2} (ho : OpD X (compareOp op) r) (ho' : OpD X (compareOp op') r') (ha : ME X W a ma) (hb : ME X W b mb) (hc : ME X W c mc)
    (h1 : lastMarks [op, op'] [b, c] = false := by with_unfolding_all rfl) : MT X W (.Compare a [op, op'] [b, c] pos) (mTest (mChain r r' ma mb mc)) :=
  PT.imp (pt_chain ho ho' ha hb hc h1) fun σ H Q h => chain_up (test_up h)

/-! ### argument lists, displays -/
def mNil : DA := fun _ μ _ R => R [] μ
def mCons (ma : DE) (mr : DA) : DA := fun δ μ RX R => ma δ μ RX fun x μ1 => mr δ μ1 RX fun xs μ2 => R (x :: xs) μ2
variable {mr : DA}
theorem ma_nil : MA X W [] mNil := PA.imp pa_nil fun σ H Q ⟨δ, μ, RX, R, st, rp, hm, xl, q⟩ => q [] μ [] H hm (TK.refl H) (Dens.nil.mpr rfl) rp
theorem ma_cons (ha : ME X W e ma) (hr : MA X W es mr) (hs : starEach (e :: es) X.env = (false, eval e X.env) :: starEach es X.env := by rfl) : MA X W (e :: es) (mCons ma mr) :=
  PA.imp (pa_cons ha hr hs) fun σ H Q ⟨δ, μ, RX, R, st, rp, hm, xl, q⟩ => ⟨δ, μ, RX, _, st, rp, hm, xl, fun x μ1 v1 H1 h1 t1 d1 r1 => ⟨δ, μ1, RX, _, st.keep t1, r1, h1, xl.keep t1, fun xs μ2 vs H2 h2 t2 d2 r2 =>
    q (x :: xs) μ2 _ H2 h2 (t1.trans t2) (Dens.mk (d1.keep t2) d2) r2⟩⟩
def mTup (mr : DA) : DE := fun δ μ RX R => mr δ μ RX fun ds μ1 => ds.length ≤ sizeLine ∧ R (.tup ds) μ1
def mLst (mr : DA) : DE := fun δ μ RX R => mr δ μ RX fun ds μ1 => ds.length ≤ sizeLine ∧ ∀ p, μ1 p = none → R (.ref p) (updM μ1 p (.lst ds))
theorem me_tup {x1} (h : MA X W es mr) : ME X W (.Tuple es x1 pos) (mTup mr) :=
  me_of (pe_tupF h) fun σ H Q ⟨δ, μ, RX, R, st, rp, hm, xl, q⟩ => ⟨δ, μ, RX, _, st, rp, hm, xl, fun ds μ1 vs H1 h1 t1 d1 r1 => ⟨by rw [← d1.length]; exact h1.1, fun p ob hp z =>
    q _ μ1 _ _ h1.2 (t1.trans (TK.new hp)) (Den.newTup hp z d1) (r1.more hp)⟩⟩
theorem me_lst (h : MA X W es mr) : ME X W (.List es pos) (mLst mr) :=
  me_of (pe_lst h) fun σ H Q ⟨δ, μ, RX, R, st, rp, hm, xl, q⟩ => ⟨δ, μ, RX, _, st, rp, hm, xl, fun ds μ1 vs H1 h1 t1 d1 r1 => ⟨by rw [← d1.length]; exact h1.1, fun p hp =>
    q _ _ _ _ (h1.2 p (r1.none hp)) (t1.trans (TK.new hp)) (Den.ref.mpr rfl) (r1.newLst hp d1)⟩⟩
/-- {} -/
def mDic0 : DE := fun δ μ RX R => ∀ p, μ p = none → R (.ref p) (updM μ p (.dic []))
theorem me_dic0 : ME X W (.Dict [] [] pos) mDic0 :=
  me_of pe_dnewK fun σ H Q ⟨δ, μ, RX, R, st, rp, hm, xl, q⟩ => fun p hp => q _ _ _ _ (hm p (rp.none hp)) (TK.new hp) (Den.ref.mpr rfl) (rp.put (TK.new hp) ⟨[], upd_same, .nil⟩)

/-! ### calls -/
/-- a def of the module, by its promise -/
def Fnc (P : Program) (w : World) (K : PySem.W.Frag) (mg : Str → Option Value) (base : Heap) (x : Str) (k : Nat) (ps : List Str) (dds : List D) (sp : DSp) : Prop :=
  ∃ (f : Addr) (fd : FuncData) (vals : List Value) (dvs : List V), mg x = some (.ref f) ∧ PySem.W.keepIn K (.ref f) = true ∧ L2.Binds K fd ps vals ∧ Vals dvs vals ∧ (∀ H, Dens K H dds dvs) ∧ FnOk P w K mg base (L2.CX P w) k f fd ps (upSp K sp)
def mCall (sp : DSp) (dds : List D) (t : DA) : DE := fun δ μ RX R => t δ μ RX fun ds μ1 => sp (ds ++ dds) μ1 (fun C fs μ' => RX C fs δ μ') R
theorem call_up {σ : L2.St} {H : Hp} {Q : VK} {sp : DSp} {dds : List D} {dvs : List V} (hd : ∀ H, Dens X.K H dds dvs) (h : upE X.K W (mCall sp dds mr) σ H Q) : tCallSD (upSp X.K sp) dvs (fun σ cls d H' => W cls d σ H') (upA X.K W mr) σ H Q := by
  obtain ⟨δ, μ, RX, R, st, rp, hm, xl, q⟩ := h
  exact ⟨δ, μ, RX, _, st, rp, hm, xl, fun ds μ1 vs H1 h1 t1 d1 r1 => ⟨ds ++ dds, μ1, _, R, d1.app (hd _), r1, h1, q.keep t1, fun C fs μ' d gs H' hx t' rp' hd' dk => xl C fs μ' d gs H' hx (t1.trans t') rp' hd' dk⟩⟩
theorem me_call {x : Str} {p : Pos} {k : Nat} {ps : List Str} {dds : List D} {sp : DSp} (c : Ctx X W m) (F : Fnc X.prog X.w X.K X.mg X.base x k ps dds sp) (ha : MA X W (e :: es) mr) (hk : k ≤ m + 1 := by decide) (hg : Gl X x := by rfl)
    (hdb : (x == ("__debug__" : Str)) = false := by decide) (he : starEach (e :: es) X.env = (false, eval e X.env) :: starEach es X.env := by rfl) (hpl : (backTo pos (starEach es X.env)).any (·.1) = false := by rfl) :
    ME X W (.Call (.Name x p) (e :: es) [] pos) (mCall sp dds mr) := by
  obtain ⟨f, fd, vals, dvs, hm, hkp, hb, hv, hd, hF⟩ := F
  exact me_of (pe_callSD (E := fun σ cls d H' => W cls d σ H') hF (c.rm.mono hk) hg hm hkp hb hv (fun σ => passAt c.tk σ) ha hdb he hpl) fun σ H Q h => call_up hd h
def mB (r : DRs) (t : DA) : DE := fun δ μ RX R => t δ μ RX fun ds μ1 => r ds μ1 R
theorem b_up {σ : L2.St} {H : Hp} {Q : VK} {r : DRs} (h : upE X.K W (mB r mr) σ H Q) : tCB (upRs X.K r) (upA X.K W mr) σ H Q := by
  obtain ⟨δ, μ, RX, R, st, rp, hm, xl, q⟩ := h
  exact ⟨δ, μ, RX, _, st, rp, hm, xl, fun ds μ1 vs H1 h1 t1 d1 r1 => ⟨ds, μ1, R, d1, r1, h1, q.keep t1⟩⟩
/-- a built-in function; a built-in class -/
theorem me_b {x : Str} {p : Pos} {id : String} {r : DRs} (hc : CallR X (.builtin id) (upRs X.K r)) (hm : X.mg x = none) (hv : bootBuiltins x = some (.builtin id)) (ha : MA X W (e :: es) mr) (hg : Gl X x := by rfl) (hn : x ≠ "__name__" := by decide) (hdb : (x == ("__debug__" : Str)) = false := by decide)
    (he : starEach (e :: es) X.env = (false, eval e X.env) :: starEach es X.env := by rfl) (hpl : (backTo pos (starEach es X.env)).any (·.1) = false := by rfl) : ME X W (.Call (.Name x p) (e :: es) [] pos) (mB r mr) :=
  me_of (pe_callB hc hg hm hv ha hn hdb he hpl) fun _ _ _ h => b_up h
theorem me_bT {x : Str} {p : Pos} {T : String} {r : DRs} (hc : CallR X (.type T) (upRs X.K r)) (hm : X.mg x = none) (hv : bootBuiltins x = some (.type T)) (ha : MA X W (e :: es) mr) (hg : Gl X x := by rfl) (hn : x ≠ "__name__" := by decide) (hdb : (x == ("__debug__" : Str)) = false := by decide)
    (he : starEach (e :: es) X.env = (false, eval e X.env) :: starEach es X.env := by rfl) (hpl : (backTo pos (starEach es X.env)).any (·.1) = false := by rfl) : ME X W (.Call (.Name x p) (e :: es) [] pos) (mB r mr) :=
  me_of (pe_callTy hc hg hm hv ha hn hdb he hpl) fun _ _ _ h => b_up h
/-- a method of a built-in type -/
def mBM (r : D → List D → Mu → DK → Prop) (mo : DE) (t : DA) : DE := fun δ μ RX R => mo δ μ RX fun x μ1 => t δ μ1 RX fun ds μ2 => r x ds μ2 R
end
end DL

set_option Elab.async false
set_option linter.all false
set_option maxRecDepth 100000
set_option maxHeartbeats 1000000
/-! The D-layer, part 2: operators, comparisons, subscripts, built-ins, methods. -/
namespace DL
open PySem PySem.Spec PyProof.Rows L2

/-! ### data as PyData, for == at any depth -/
mutual
def py : D → PyData
  | .non => .none
  | .bl b => .bool b
  | .int i => .int i
  | .str x => .str x
  | .ref _ => .none
  | .ty _ => .none
  | .tup ds => .tuple (pys ds)
  | .wtup _ => .none
  | .flst _ => .none
def pys : List D → List PyData
  | [] => []
  | d :: ds => py d :: pys ds
end
mutual
def plain : D → Bool
  | .ref _ => false
  | .ty _ => false
  | .wtup _ => false
  | .flst _ => false
  | .str x => (py (.str x)).canLay0
  | .tup ds => plains ds
  | _ => true
def plains : List D → Bool
  | [] => true
  | d :: ds => plain d && plains ds
end
def depD (d : D) : Nat := (py d).depth
def deps (ds : List D) : Nat := PyData.depthAll (pys ds)
def beq (a b : D) : Bool := PyData.eqv (py a) (py b)
def beqs (a b : List D) : Bool := PyData.eqvAll (pys a) (pys b)
section
variable {K : PySem.W.Frag} {H : Hp}
mutual
theorem dp_of : ∀ {d : D} {v : V}, plain d = true → Den K H d v → Dp K H v (py d)
  | .non, v, _, h => by rw [Den.non.mp h]; simp only [py]; exact Dp.non
  | .bl b, v, _, h => by rw [Den.bl.mp h]; simp only [py]; exact Dp.bl b
  | .int b, v, _, h => by rw [Den.int.mp h]; simp only [py]; exact Dp.int b
  | .str b, v, _, h => by rw [Den.str.mp h]; simp only [py]; exact Dp.str b
  | .ref _, v, p, h => by simp [plain] at p
  | .ty _, v, p, h => by simp [plain] at p
  | .wtup _, v, p, h => by simp [plain] at p
  | .flst _, v, p, h => by simp [plain] at p
  | .tup ds, v, p, h => by
    obtain ⟨a, xs, rfl, hs, hd⟩ := Den.tup.mp h
    simp only [py]
    exact Dp.tup hs.t (dps_of (by simpa [plain] using p) hd)
theorem dps_of : ∀ {ds : List D} {vs : List V}, plains ds = true → Dens K H ds vs → DpAll K H vs (pys ds)
  | [], vs, _, h => by rw [Dens.nil.mp h]; simp only [pys]; exact DpAll.nil
  | d :: ds, vs, p, h => by
    obtain ⟨v, r, rfl, h1, h2⟩ := Dens.cons.mp h
    simp only [plains, Bool.and_eq_true] at p
    simp only [pys]
    exact DpAll.cons (dp_of p.1 h1) (dps_of p.2 h2)
end
end
mutual
theorem lay_of : ∀ {d : D}, plain d = true → (py d).canLay0 = true
  | .non, _ => by simp [py, PyData.canLay0]
  | .bl b, _ => by simp [py, PyData.canLay0]
  | .int b, _ => by simp [py, PyData.canLay0]
  | .str b, p => by simpa [plain] using p
  | .ref _, p => by simp [plain] at p
  | .ty _, p => by simp [plain] at p
  | .wtup _, p => by simp [plain] at p
  | .flst _, p => by simp [plain] at p
  | .tup ds, p => by
    simp only [py, PyData.canLay0]
    exact lays_of (by simpa [plain] using p)
theorem lays_of : ∀ {ds : List D}, plains ds = true → PyData.canLayAll0 (pys ds) = true
  | [], _ => by simp [pys, PyData.canLayAll0]
  | d :: ds, p => by
    simp only [plains, Bool.and_eq_true] at p
    simp only [pys, PyData.canLayAll0, lay_of p.1, lays_of p.2, Bool.and_self]
end
theorem shaped_of {d : D} (p : plain d = true) (h : depD d ≤ 64) : SeqAt.shaped (py d) = true := by
  show ((py d).canLay0 && decide ((py d).depth ≤ 64)) = true
  rw [Bool.and_eq_true]
  exact ⟨lay_of p, decide_eq_true h⟩
theorem shapedL_of {ds : List D} (p : plains ds = true) (h : deps ds < 64) : SeqAt.shaped (.list (pys ds)) = true := by
  show ((PyData.list (pys ds)).canLay0 && decide ((PyData.list (pys ds)).depth ≤ 64)) = true
  rw [Bool.and_eq_true]
  refine ⟨by simp only [PyData.canLay0]; exact lays_of p, decide_eq_true ?_⟩
  have : (PyData.list (pys ds)).depth = deps ds + 1 := by simp [PyData.depth, deps, Nat.add_comm]
  omega
/-! no bools within: equal data is the same data -/
mutual
def nob : D → Bool
  | .bl _ => false
  | .ref _ => false
  | .ty _ => false
  | .wtup _ => false
  | .flst _ => false
  | .tup ds => nobs ds
  | _ => true
def nobs : List D → Bool
  | [] => true
  | d :: ds => nob d && nobs ds
end
mutual
theorem beq_iff : ∀ {a b : D}, nob a = true → nob b = true → (beq a b = true ↔ a = b)
  | .non, b, _, hb => by cases b <;> simp_all [beq, py, PyData.eqv, nob]
  | .int i, b, _, hb => by cases b <;> simp_all [beq, py, PyData.eqv, nob]
  | .str i, b, _, hb => by cases b <;> simp_all [beq, py, PyData.eqv, nob]
  | .bl _, b, h, _ => by simp [nob] at h
  | .ref _, b, h, _ => by simp [nob] at h
  | .ty _, b, h, _ => by simp [nob] at h
  | .wtup _, b, h, _ => by simp [nob] at h
  | .flst _, b, h, _ => by simp [nob] at h
  | .tup ds, b, h, hb => by
    cases b with
    | tup es =>
      have q := beqs_iff (a := ds) (b := es) (by simpa [nob] using h) (by simpa [nob] using hb)
      simp only [beq, py, PyData.eqv, D.tup.injEq]
      exact q
    | _ => simp_all [beq, py, PyData.eqv, nob]
theorem beqs_iff : ∀ {a b : List D}, nobs a = true → nobs b = true → (beqs a b = true ↔ a = b)
  | [], [], _, _ => by simp [beqs, pys, PyData.eqvAll]
  | [], _ :: _, _, _ => by simp [beqs, pys, PyData.eqvAll]
  | _ :: _, [], _, _ => by simp [beqs, pys, PyData.eqvAll]
  | x :: xs, y :: ys, h, g => by
    simp only [nobs, Bool.and_eq_true] at h g
    have q1 := beq_iff (a := x) (b := y) h.1 g.1
    have q2 := beqs_iff (a := xs) (b := ys) h.2 g.2
    simp only [beqs, pys, PyData.eqvAll, Bool.and_eq_true, List.cons.injEq]
    rw [← q1, ← q2]
    exact Iff.rfl
end
theorem beq_dec {a b : D} (h : nob a = true) (g : nob b = true) (p : Prop) [Decidable p] (e : a = b ↔ p) : beq a b = decide p := by
  have q := (beq_iff h g).trans e
  by_cases hp : p
  · rw [decide_eq_true hp]; exact q.mpr hp
  · rw [decide_eq_false hp]
    cases z : beq a b with
    | false => rfl
    | true => exact absurd (q.mp z) hp

/-! ### binary operators -/
def CMulA (i j : Int) : Prop := CMul i j ∨ CMulW i j
def addD : DR2
  | .int i, .int j, μ, R => R (.int (i + j)) μ
  | .str x, .str y, μ, R => x.length + y.length ≤ sizeLine ∧ R (.str (x ++ y)) μ
  | .tup xs, .tup ys, μ, R => xs.length + ys.length ≤ sizeLine ∧ R (.tup (xs ++ ys)) μ
  | .ref a, .ref b, μ, R => ∃ xs ys, μ a = some (.lst xs) ∧ μ b = some (.lst ys) ∧ xs.length + ys.length ≤ sizeLine ∧ ∀ p, μ p = none → R (.ref p) (updM μ p (.lst (xs ++ ys)))
  | _, _, _, _ => False
def subD : DR2
  | .int i, .int j, μ, R => R (.int (i - j)) μ
  | _, _, _, _ => False
def mulD : DR2
  | .int i, .int j, μ, R => CMulA i j ∧ R (.int (i * j)) μ
  | .ref a, .int k, μ, R => ∃ xs, μ a = some (.lst xs) ∧ (0 ≤ k ∧ k < 4611686018427387904) ∧ xs.length * k.toNat ≤ sizeLine ∧ ∀ p, μ p = none → R (.ref p) (updM μ p (.lst (List.replicate k.toNat xs).flatten))
  | .tup xs, .int k, μ, R => xs ≠ [] ∧ 2 ≤ k ∧ k ≤ 1000 ∧ xs.length ≤ 1000 ∧ R (.tup (List.replicate k.toNat xs).flatten) μ
  | _, _, _, _ => False
/-- // and %: a positive divisor below 2^30 -/
def divD : DR2
  | .int i, .int j, μ, R => (0 < j ∧ j < 1073741824) ∧ R (.int (i / j)) μ
  | _, _, _, _ => False
def divWD : DR2
  | .int i, .int j, μ, R => CDivW i j ∧ R (.int (i / j)) μ
  | _, _, _, _ => False
def modD : DR2
  | .int i, .int j, μ, R => 0 < j ∧ R (.int (i % j)) μ
  | _, _, _, _ => False
def powD : DR2
  | .int i, .int j, μ, R => CPow i j ∧ R (.int (i ^ j.toNat)) μ
  | _, _, _, _ => False
section
variable {X : Cx}
theorem Den.intV {K : PySem.W.Frag} {H : Hp} {i : Int} {x : V} (h : Den K H (.int i) x) : x = .int i := Den.int.mp h
theorem opd_add : OpD X (binaryOp .Add) addD := by
  intro pins s σ H x y v u Q I rx ry h
  obtain ⟨dx, dy, μ, R, d1, d2, rp, h, q⟩ := h
  unfold addD at h
  split at h
  · rw [Den.int.mp d1] at rx; rw [Den.int.mp d2] at ry
    exact op_add pins s σ H _ _ v u Q I rx ry ⟨_, _, rfl, rfl, q _ _ _ _ h (TK.refl H) (Den.int.mpr rfl) rp⟩
  · rw [Den.str.mp d1] at rx; rw [Den.str.mp d2] at ry
    exact op_add_str pins s σ H _ _ v u Q I rx ry ⟨_, _, rfl, rfl, h.1, q _ _ _ _ h.2 (TK.refl H) (Den.str.mpr rfl) rp⟩
  · obtain ⟨a, xs, rfl, hs, hd⟩ := Den.tup.mp d1
    obtain ⟨b, ys, rfl, hs2, hd2⟩ := Den.tup.mp d2
    have hcat := hd.app hd2
    refine op_catF pins s σ H _ _ v u Q I rx ry ⟨a, b, xs, ys, rfl, rfl, hs.t, hs2.t, by rw [← hd.length, ← hd2.length]; exact h.1, fun e => ?_, fun _ e => ?_, fun p ob hp z => q _ _ _ _ h.2 (TK.new hp) (Den.newTup hp z hcat) (rp.more hp)⟩
    · subst e
      exact q _ _ _ _ h.2 (TK.refl H) (Den.tup.mpr ⟨b, _, rfl, hs2, by simpa using hcat⟩) rp
    · subst e
      exact q _ _ _ _ h.2 (TK.refl H) (Den.tup.mpr ⟨a, _, rfl, hs, by simpa using hcat⟩) rp
  · obtain ⟨xs, ys, e1, e2, hl, hq⟩ := h
    obtain ⟨us, g1, f1⟩ := rp.lst e1
    obtain ⟨ws, g2, f2⟩ := rp.lst e2
    rw [Den.ref.mp d1] at rx; rw [Den.ref.mp d2] at ry
    exact op_cat pins s σ H _ _ v u Q I rx ry ⟨_, _, us, ws, rfl, rfl, g1, g2, by rw [← f1.length, ← f2.length]; exact hl, fun p hp => q _ _ _ _ (hq p (rp.none hp)) (TK.new hp) (Den.ref.mpr rfl) (rp.newLst hp (f1.app f2))⟩
  · exact h.elim

theorem opd_ints {f : Value → Value → Sem Value} {C : Int → Int → Prop} {g : Int → Int → Int} {r : DR2} (h : OpR X f (rI C fun i j => .int (g i j))) (hr : ∀ dx dy μ R, r dx dy μ R → ∃ i j, dx = .int i ∧ dy = .int j ∧ C i j ∧ R (.int (g i j)) μ) : OpD X f r := by
  intro pins s σ H x y v u Q I rx ry ⟨dx, dy, μ, R, d1, d2, rp, z, q⟩
  obtain ⟨i, j, rfl, rfl, c, z2⟩ := hr _ _ _ _ z
  rw [Den.int.mp d1] at rx; rw [Den.int.mp d2] at ry
  exact h pins s σ H _ _ v u Q I rx ry ⟨i, j, rfl, rfl, c, q _ _ _ _ z2 (TK.refl H) (Den.int.mpr rfl) rp⟩
theorem opd_ints0 {f : Value → Value → Sem Value} {g : Int → Int → Int} {r : DR2} (h : OpR X f (rI0 fun i j => .int (g i j))) (hr : ∀ dx dy μ R, r dx dy μ R → ∃ i j, dx = .int i ∧ dy = .int j ∧ R (.int (g i j)) μ) : OpD X f r := by
  intro pins s σ H x y v u Q I rx ry ⟨dx, dy, μ, R, d1, d2, rp, z, q⟩
  obtain ⟨i, j, rfl, rfl, z2⟩ := hr _ _ _ _ z
  rw [Den.int.mp d1] at rx; rw [Den.int.mp d2] at ry
  exact h pins s σ H _ _ v u Q I rx ry ⟨i, j, rfl, rfl, q _ _ _ _ z2 (TK.refl H) (Den.int.mpr rfl) rp⟩
theorem opd_sub : OpD X (binaryOp .Sub) subD := opd_ints0 op_sub fun dx dy μ R z => by
  unfold subD at z
  split at z
  · exact ⟨_, _, rfl, rfl, z⟩
  · exact z.elim
theorem opd_div : OpD X (binaryOp .FloorDiv) divD := opd_ints op_fdiv fun dx dy μ R z => by
  unfold divD at z
  split at z
  · exact ⟨_, _, rfl, rfl, z⟩
  · exact z.elim
theorem opd_divW : OpD X (binaryOp .FloorDiv) divWD := opd_ints op_fdivW fun dx dy μ R z => by
  unfold divWD at z
  split at z
  · exact ⟨_, _, rfl, rfl, z⟩
  · exact z.elim
theorem opd_mod : OpD X (binaryOp .Mod) modD := opd_ints op_mod fun dx dy μ R z => by
  unfold modD at z
  split at z
  · exact ⟨_, _, rfl, rfl, z⟩
  · exact z.elim
theorem opd_pow : OpD X (binaryOp .Pow) powD := opd_ints op_pow fun dx dy μ R z => by
  unfold powD at z
  split at z
  · exact ⟨_, _, rfl, rfl, z⟩
  · exact z.elim
theorem opd_mul : OpD X (binaryOp .Mult) mulD := by
  intro pins s σ H x y v u Q I rx ry h
  obtain ⟨dx, dy, μ, R, d1, d2, rp, h, q⟩ := h
  unfold mulD at h
  split at h
  · rw [Den.int.mp d1] at rx; rw [Den.int.mp d2] at ry
    rcases h.1 with c | c
    · exact op_mul pins s σ H _ _ v u Q I rx ry ⟨_, _, rfl, rfl, c, q _ _ _ _ h.2 (TK.refl H) (Den.int.mpr rfl) rp⟩
    · exact op_mulW pins s σ H _ _ v u Q I rx ry ⟨_, _, rfl, rfl, c, q _ _ _ _ h.2 (TK.refl H) (Den.int.mpr rfl) rp⟩
  · obtain ⟨xs, e1, hk, hl, hq⟩ := h
    obtain ⟨us, g1, f1⟩ := rp.lst e1
    rw [Den.ref.mp d1] at rx; rw [Den.int.mp d2] at ry
    exact op_rep pins s σ H _ _ v u Q I rx ry ⟨_, _, us, rfl, rfl, g1, by omega, by omega, by rw [← f1.length]; exact hl, fun p hp => q _ _ _ _ (hq p (rp.none hp)) (TK.new hp) (Den.ref.mpr rfl) (rp.newLst hp (f1.rep _))⟩
  · obtain ⟨hne, h2, h3, h4, hq⟩ := h
    obtain ⟨a, xs, rfl, hs, hd⟩ := Den.tup.mp d1
    rw [Den.int.mp d2] at ry
    have hne2 : xs ≠ [] := fun e => hne (by have := hd.length; rw [e] at this; exact List.length_eq_zero_iff.mp this)
    exact op_repF pins s σ H _ _ v u Q I rx ry ⟨a, _, xs, rfl, rfl, hs.t, hne2, h2, h3, by rw [← hd.length]; exact h4, fun p ob hp z => q _ _ _ _ hq (TK.new hp) (Den.newTup hp z (hd.rep _)) (rp.more hp)⟩
  · exact h.elim

/-! ### comparisons -/
def ltD : DR2
  | .int i, .int j, μ, R => R (.bl (decide (i < j))) μ
  | _, _, _, _ => False
def leD : DR2
  | .int i, .int j, μ, R => R (.bl (decide (i ≤ j))) μ
  | _, _, _, _ => False
def gtD : DR2
  | .int i, .int j, μ, R => R (.bl (decide (j < i))) μ
  | _, _, _, _ => False
def geD : DR2
  | .int i, .int j, μ, R => R (.bl (decide (j ≤ i))) μ
  | _, _, _, _ => False
theorem opd_b {f : Value → Value → Sem Value} {g : Int → Int → Bool} {r : DR2} (h : OpR X f (rI0 fun i j => .bl (g i j))) (hr : ∀ dx dy μ R, r dx dy μ R → ∃ i j, dx = .int i ∧ dy = .int j ∧ R (.bl (g i j)) μ) : OpD X f r := by
  intro pins s σ H x y v u Q I rx ry ⟨dx, dy, μ, R, d1, d2, rp, z, q⟩
  obtain ⟨i, j, rfl, rfl, z2⟩ := hr _ _ _ _ z
  rw [Den.int.mp d1] at rx; rw [Den.int.mp d2] at ry
  exact h pins s σ H _ _ v u Q I rx ry ⟨i, j, rfl, rfl, q _ _ _ _ z2 (TK.refl H) (Den.bl.mpr rfl) rp⟩
theorem opd_lt : OpD X (compareOp .Lt) ltD := opd_b op_lt fun dx dy μ R z => by
  unfold ltD at z
  split at z
  · exact ⟨_, _, rfl, rfl, z⟩
  · exact z.elim
theorem opd_le : OpD X (compareOp .LtE) leD := opd_b op_le fun dx dy μ R z => by
  unfold leD at z
  split at z
  · exact ⟨_, _, rfl, rfl, z⟩
  · exact z.elim
theorem opd_gt : OpD X (compareOp .Gt) gtD := opd_b op_gt fun dx dy μ R z => by
  unfold gtD at z
  split at z
  · exact ⟨_, _, rfl, rfl, z⟩
  · exact z.elim
theorem opd_ge : OpD X (compareOp .GtE) geD := opd_b op_ge fun dx dy μ R z => by
  unfold geD at z
  split at z
  · exact ⟨_, _, rfl, rfl, z⟩
  · exact z.elim
/-- == of scalars, of data, of lists of data -/
def eqD : DR2
  | .int i, .int j, μ, R => R (.bl (decide (i = j))) μ
  | .str x, .str y, μ, R => R (.bl (decide (x = y))) μ
  | .ref a, .ref b, μ, R => ∃ xs ys, LsM μ a xs ∧ LsM μ b ys ∧ (plains xs = true ∧ plains ys = true ∧ deps xs < 64 ∧ deps ys < 64) ∧ R (.bl (beqs xs ys)) μ
  | x, y, μ, R => (plain x = true ∧ plain y = true ∧ depD x ≤ 64 ∧ depD y ≤ 64) ∧ R (.bl (beq x y)) μ
def neD : DR2
  | .int i, .int j, μ, R => R (.bl (!decide (i = j))) μ
  | .str x, .str y, μ, R => R (.bl (!decide (x = y))) μ
  | .ref a, .ref b, μ, R => ∃ xs ys, LsM μ a xs ∧ LsM μ b ys ∧ (plains xs = true ∧ plains ys = true ∧ deps xs < 64 ∧ deps ys < 64) ∧ R (.bl (!beqs xs ys)) μ
  | x, y, μ, R => (plain x = true ∧ plain y = true ∧ depD x ≤ 64 ∧ depD y ≤ 64) ∧ R (.bl (!beq x y)) μ
theorem opd_eq {W : WX} {m : Nat} (c : Ctx X W m) : OpD X (compareOp .Eq) eqD := by
  intro pins s σ H x y v u Q I rx ry h
  obtain ⟨dx, dy, μ, R, d1, d2, rp, h, q⟩ := h
  have hu : X.A.units + 64 < cLine := by have := c.hu; omega
  unfold eqD at h
  split at h
  · rw [Den.int.mp d1] at rx; rw [Den.int.mp d2] at ry
    refine op_eq pins s σ H _ _ v u Q I rx ry ⟨rfl, q _ _ _ _ h (TK.refl H) (Den.bl.mpr ?_) rp⟩
    simp
  · rw [Den.str.mp d1] at rx; rw [Den.str.mp d2] at ry
    refine op_eq pins s σ H _ _ v u Q I rx ry ⟨rfl, q _ _ _ _ h (TK.refl H) (Den.bl.mpr ?_) rp⟩
    simp
  · obtain ⟨xs, ys, e1, e2, ⟨p1, p2, p3, p4⟩, hq⟩ := h
    obtain ⟨us, g1, f1⟩ := rp.ls e1
    obtain ⟨ws, g2, f2⟩ := rp.ls e2
    rw [Den.ref.mp d1] at rx; rw [Den.ref.mp d2] at ry
    exact op_eqD hu pins s σ H _ _ v u Q I rx ry ⟨.list (pys xs), .list (pys ys), Dp.lst g1 (dps_of p1 f1), Dp.lst g2 (dps_of p2 f2), shapedL_of p1 p3, shapedL_of p2 p4, q _ _ _ _ hq (TK.refl H) (Den.bl.mpr (by simp only [PyData.eqv, beqs])) rp⟩
  · obtain ⟨⟨p1, p2, p3, p4⟩, hq⟩ := h
    exact op_eqD hu pins s σ H _ _ v u Q I rx ry ⟨py dx, py dy, dp_of p1 d1, dp_of p2 d2, shaped_of p1 p3, shaped_of p2 p4, q _ _ _ _ hq (TK.refl H) (Den.bl.mpr rfl) rp⟩
theorem opd_ne {W : WX} {m : Nat} (c : Ctx X W m) : OpD X (compareOp .NotEq) neD := by
  intro pins s σ H x y v u Q I rx ry h
  obtain ⟨dx, dy, μ, R, d1, d2, rp, h, q⟩ := h
  have hu : X.A.units + 64 < cLine := by have := c.hu; omega
  unfold neD at h
  split at h
  · rw [Den.int.mp d1] at rx; rw [Den.int.mp d2] at ry
    refine op_ne pins s σ H _ _ v u Q I rx ry ⟨rfl, q _ _ _ _ h (TK.refl H) (Den.bl.mpr ?_) rp⟩
    simp
  · rw [Den.str.mp d1] at rx; rw [Den.str.mp d2] at ry
    refine op_ne pins s σ H _ _ v u Q I rx ry ⟨rfl, q _ _ _ _ h (TK.refl H) (Den.bl.mpr ?_) rp⟩
    simp
  · obtain ⟨xs, ys, e1, e2, ⟨p1, p2, p3, p4⟩, hq⟩ := h
    obtain ⟨us, g1, f1⟩ := rp.ls e1
    obtain ⟨ws, g2, f2⟩ := rp.ls e2
    rw [Den.ref.mp d1] at rx; rw [Den.ref.mp d2] at ry
    exact op_neD hu pins s σ H _ _ v u Q I rx ry ⟨.list (pys xs), .list (pys ys), Dp.lst g1 (dps_of p1 f1), Dp.lst g2 (dps_of p2 f2), shapedL_of p1 p3, shapedL_of p2 p4, q _ _ _ _ hq (TK.refl H) (Den.bl.mpr (by simp only [PyData.eqv, beqs])) rp⟩
  · obtain ⟨⟨p1, p2, p3, p4⟩, hq⟩ := h
    exact op_neD hu pins s σ H _ _ v u Q I rx ry ⟨py dx, py dy, dp_of p1 d1, dp_of p2 d2, shaped_of p1 p3, shaped_of p2 p4, q _ _ _ _ hq (TK.refl H) (Den.bl.mpr rfl) rp⟩
/-- is None, is not None -/
def isNoneB : D → Bool
  | .non => true
  | _ => false
theorem Den.isNone {K : PySem.W.Frag} {H : Hp} {d : D} {v : V} (h : Den K H d v) : decide (v = .non) = isNoneB d := by
  cases d with
  | non => rw [Den.non.mp h]; rfl
  | bl => rw [Den.bl.mp h]; rfl
  | int => rw [Den.int.mp h]; rfl
  | str => rw [Den.str.mp h]; rfl
  | ref => rw [Den.ref.mp h]; rfl
  | ty => rw [Den.ty.mp h]; rfl
  | tup => obtain ⟨a, xs, rfl, _⟩ := Den.tup.mp h; rfl
  | wtup => obtain ⟨a, xs, rfl, _⟩ := Den.wtup.mp h; rfl
  | flst => obtain ⟨a, xs, rfl, _⟩ := Den.flst.mp h; rfl
def isND : DR2 := fun x y μ R => y = .non ∧ R (.bl (isNoneB x)) μ
def notND : DR2 := fun x y μ R => y = .non ∧ R (.bl (!isNoneB x)) μ
theorem opd_isN : OpD X (compareOp .Is) isND := by
  intro pins s σ H x y v u Q I rx ry ⟨dx, dy, μ, R, d1, d2, rp, ⟨e, z⟩, q⟩
  subst e
  exact op_isN pins s σ H x y v u Q I rx ry ⟨Den.non.mp d2, q _ _ _ _ z (TK.refl H) (Den.bl.mpr (by rw [d1.isNone])) rp⟩
theorem opd_notN : OpD X (compareOp .IsNot) notND := by
  intro pins s σ H x y v u Q I rx ry ⟨dx, dy, μ, R, d1, d2, rp, ⟨e, z⟩, q⟩
  subst e
  exact op_notN pins s σ H x y v u Q I rx ry ⟨Den.non.mp d2, q _ _ _ _ z (TK.refl H) (Den.bl.mpr (by rw [d1.isNone])) rp⟩
end
end DL

set_option Elab.async false
set_option linter.all false
set_option maxRecDepth 100000
set_option maxHeartbeats 1000000
/-! The D-layer, part 3: in, subscripts, slices, built-ins, methods. -/
namespace DL
open PySem PySem.Spec PyProof.Rows L2
section
variable {X : Cx} {W : WX} {m : Nat}

/-! ### in, not in -/
def flat : D → Bool
  | .non => true
  | .bl _ => true
  | .int _ => true
  | .str _ => true
  | _ => false
def anyEq (x : D) (ds : List D) : Bool := ds.any fun d => beq d x
theorem flat_V {K : PySem.W.Frag} {H : Hp} {d : D} {v : V} (h : Den K H d v) (f : flat d = true) : flatV v = true := by
  cases d with
  | non => rw [Den.non.mp h]; rfl
  | bl => rw [Den.bl.mp h]; rfl
  | int => rw [Den.int.mp h]; rfl
  | str => rw [Den.str.mp h]; rfl
  | _ => cases f
theorem eqV_beq {K : PySem.W.Frag} {H : Hp} {d e : D} {v u : V} (h : Den K H d v) (g : Den K H e u) (f : flat d = true) (f2 : flat e = true) : eqV v u = beq d e := by
  cases d with
  | non => rw [Den.non.mp h]; cases e with
    | non => rw [Den.non.mp g]; simp [eqV, beq, py, PyData.eqv]
    | bl => rw [Den.bl.mp g]; simp [eqV, beq, py, PyData.eqv]
    | int => rw [Den.int.mp g]; simp [eqV, beq, py, PyData.eqv]
    | str => rw [Den.str.mp g]; simp [eqV, beq, py, PyData.eqv]
    | _ => cases f2
  | bl => rw [Den.bl.mp h]; cases e with
    | non => rw [Den.non.mp g]; simp [eqV, beq, py, PyData.eqv]
    | bl => rw [Den.bl.mp g]; simp [eqV, beq, py, PyData.eqv]
    | int => rw [Den.int.mp g]; simp [eqV, beq, py, PyData.eqv]
    | str => rw [Den.str.mp g]; simp [eqV, beq, py, PyData.eqv]
    | _ => cases f2
  | int => rw [Den.int.mp h]; cases e with
    | non => rw [Den.non.mp g]; simp [eqV, beq, py, PyData.eqv]
    | bl => rw [Den.bl.mp g]; simp [eqV, beq, py, PyData.eqv]
    | int => rw [Den.int.mp g]; simp [eqV, beq, py, PyData.eqv]
    | str => rw [Den.str.mp g]; simp [eqV, beq, py, PyData.eqv]
    | _ => cases f2
  | str => rw [Den.str.mp h]; cases e with
    | non => rw [Den.non.mp g]; simp [eqV, beq, py, PyData.eqv]
    | bl => rw [Den.bl.mp g]; simp [eqV, beq, py, PyData.eqv]
    | int => rw [Den.int.mp g]; simp [eqV, beq, py, PyData.eqv]
    | str => rw [Den.str.mp g]; simp [eqV, beq, py, PyData.eqv]
    | _ => cases f2
  | _ => cases f
theorem flats_V {K : PySem.W.Frag} {H : Hp} : ∀ {ds : List D} {vs : List V}, Dens K H ds vs → ds.all flat = true → vs.all flatV = true
  | [], _, h, _ => by rw [Dens.nil.mp h]; rfl
  | d :: ds, _, h, f => by
    obtain ⟨v, r, rfl, h1, h2⟩ := Dens.cons.mp h
    simp only [List.all_cons, Bool.and_eq_true] at f ⊢
    exact ⟨flat_V h1 f.1, flats_V h2 f.2⟩
theorem inV_any {K : PySem.W.Frag} {H : Hp} {e : D} {u : V} (g : Den K H e u) (f2 : flat e = true) : ∀ {ds : List D} {vs : List V}, Dens K H ds vs → ds.all flat = true → inV u vs = anyEq e ds
  | [], _, h, _ => by rw [Dens.nil.mp h]; rfl
  | d :: ds, _, h, f => by
    obtain ⟨v, r, rfl, h1, h2⟩ := Dens.cons.mp h
    simp only [List.all_cons, Bool.and_eq_true] at f
    have ih := inV_any g f2 h2 f.2
    unfold inV anyEq at ih ⊢
    rw [List.any_cons, List.any_cons, ih, eqV_beq h1 g f.1 f2]
theorem any_pys (x : D) : ∀ ds : List D, ((pys ds).any fun z => PyData.eqv z (py x)) = anyEq x ds
  | [] => by simp [pys, anyEq]
  | d :: ds => by
    have ih := any_pys x ds
    unfold anyEq at ih ⊢
    simp only [pys, List.any_cons, ih, beq]
def keyD : Key → D
  | .inl i => .int i
  | .inr x => .str x
theorem den_key {K : PySem.W.Frag} {H : Hp} {k : Key} {v : V} (h : Den K H (keyD k) v) : v = kV k := by
  cases k with
  | inl i => exact Den.int.mp h
  | inr x => exact Den.str.mp h
def valD {κ : Type} [DecidableEq κ] (kvs : List (κ × D)) (k : κ) : Option D := (kvs.find? fun kv => decide (kv.1 = k)).map (·.2)
theorem DenKV.val {κ : Type} [DecidableEq κ] {K : PySem.W.Frag} {H : Hp} {kvs : List (κ × D)} {qs : List (κ × V)} (h : DenKV K H kvs qs) (k : κ) : (∀ d, valD kvs k = some d → ∃ v, valV qs k = some v ∧ Den K H d v) ∧ (valD kvs k = none → valV qs k = none) := by
  induction h with
  | nil => exact ⟨fun d e => by simp [valD] at e, fun _ => rfl⟩
  | @cons p q r1 r2 hpq t ih =>
    by_cases e : p.1 = k
    · have e2 : q.1 = k := hpq.1 ▸ e
      have a1 : valD (p :: r1) k = some p.2 := by simp [valD, List.find?_cons, e]
      have a2 : valV (q :: r2) k = some q.2 := valV_pos e2
      exact ⟨fun d ed => by rw [a1] at ed; cases ed; exact ⟨q.2, a2, hpq.2⟩, fun ed => by rw [a1] at ed; cases ed⟩
    · have e2 : ¬ q.1 = k := hpq.1 ▸ e
      have a1 : valD (p :: r1) k = valD r1 k := by simp [valD, List.find?_cons, e]
      have a2 : valV (q :: r2) k = valV r2 k := valV_neg e2
      rw [a1, a2]
      exact ih
/-- x in y: a list or a tuple of data, a dict -/
def inD (neg : Bool) : DR2
  | x, .tup ds, μ, R => (flat x = true ∧ ds.all flat = true) ∧ R (.bl (if neg then !anyEq x ds else anyEq x ds)) μ
  | x, .ref a, μ, R => (∃ ds, LsM μ a ds ∧ (plain x = true ∧ depD x ≤ 64 ∧ plains ds = true ∧ deps ds < 64) ∧ R (.bl (if neg then !anyEq x ds else anyEq x ds)) μ) ∨
      ∃ kvs k, μ a = some (.dic kvs) ∧ x = keyD k ∧ R (.bl (if neg then !(valD kvs k).isSome else (valD kvs k).isSome)) μ
  | .str x, .str y, μ, R => ∃ c, x = ⟨#[c]⟩ ∧ R (.bl (if neg then !decide (c ∈ y.cps.toList) else decide (c ∈ y.cps.toList))) μ
  | _, _, _, _ => False
theorem opd_inN (c : Ctx X W m) (neg : Bool) (op : CmpOp) (hop : op = if neg then .NotIn else .In) : OpD X (compareOp op) (inD neg) := by
  intro pins s σ H x y v u Q I rx ry h
  obtain ⟨dx, dy, μ, R, d1, d2, rp, h, q⟩ := h
  have hu := c.hu
  have hu1 := c.hu1
  unfold inD at h
  split at h
  · obtain ⟨⟨f1, f2⟩, hq⟩ := h
    obtain ⟨a, xs, rfl, hs, hd⟩ := Den.tup.mp d2
    cases neg with
    | false =>
      subst hop
      exact op_in_seq pins s σ H _ _ v u Q I rx ry ⟨a, xs, rfl, .inr hs.t, flat_V d1 f1, flats_V hd f2, by
        rw [if_neg Bool.false_ne_true, inV_any d1 f1 hd f2]
        exact q _ _ _ _ hq (TK.refl H) (Den.bl.mpr rfl) rp⟩
    | true =>
      subst hop
      exact op_notIn_seq pins s σ H _ _ v u Q I rx ry ⟨a, xs, rfl, .inr hs.t, flat_V d1 f1, flats_V hd f2, by
        rw [if_pos rfl, inV_any d1 f1 hd f2]
        exact q _ _ _ _ hq (TK.refl H) (Den.bl.mpr rfl) rp⟩
  · rcases h with ⟨ds, e, ⟨p1, p2, p3, p4⟩, hq⟩ | ⟨kvs, k, e, rfl, hq⟩
    · obtain ⟨us, g1, f1⟩ := rp.ls e
      rw [Den.ref.mp d2] at ry
      cases neg with
      | false =>
        subst hop
        exact op_inD hu pins s σ H _ _ v u Q I rx ry ⟨py _, pys ds, dp_of p1 d1, Dp.lst g1 (dps_of p3 f1), shaped_of p1 p2, shapedL_of p3 p4, by
          rw [any_pys]
          exact q _ _ _ _ hq (TK.refl H) (Den.bl.mpr rfl) rp⟩
      | true =>
        subst hop
        exact op_notInD hu pins s σ H _ _ v u Q I rx ry ⟨py _, pys ds, dp_of p1 d1, Dp.lst g1 (dps_of p3 f1), shaped_of p1 p2, shapedL_of p3 p4, by
          rw [any_pys]
          exact q _ _ _ _ hq (TK.refl H) (Den.bl.mpr rfl) rp⟩
    · obtain ⟨qs, g1, f1⟩ := rp.dic e
      rw [Den.ref.mp d2] at ry
      rw [den_key d1] at rx
      have hg : ∃ o, DGet H _ (kV k) o ∧ o.isSome = (valD kvs k).isSome := ⟨_, DGet.k (k := k) g1, by
        have z := f1.val k
        cases e2 : valD kvs k with
        | none => rw [z.2 e2] <;> rfl
        | some d => obtain ⟨v', h1, _⟩ := z.1 d e2; rw [h1] <;> rfl⟩
      obtain ⟨o, g, ho⟩ := hg
      obtain rfl : u = Value.ref _ := ry
      cases neg with
      | false =>
        subst hop
        exact d_in hu1 I g rx fun s' I' => ⟨.bl _, H, I', rfl, by rw [ho]; exact q _ _ _ _ hq (TK.refl H) (Den.bl.mpr rfl) rp⟩
      | true =>
        subst hop
        exact d_notIn hu1 I g rx fun s' I' => ⟨.bl _, H, I', rfl, by rw [ho]; exact q _ _ _ _ hq (TK.refl H) (Den.bl.mpr rfl) rp⟩
  · obtain ⟨ch, rfl, hq⟩ := h
    rw [Den.str.mp d1] at rx; rw [Den.str.mp d2] at ry
    cases neg with
    | false =>
      subst hop
      exact op_in_sign pins s σ H _ _ v u Q I rx ry ⟨ch, _, rfl, rfl, q _ _ _ _ hq (TK.refl H) (Den.bl.mpr rfl) rp⟩
    | true =>
      subst hop
      exact op_notIn_sign pins s σ H _ _ v u Q I rx ry ⟨ch, _, rfl, rfl, q _ _ _ _ hq (TK.refl H) (Den.bl.mpr rfl) rp⟩
  · exact h.elim
theorem opd_in (c : Ctx X W m) : OpD X (compareOp .In) (inD false) := opd_inN c false _ rfl
theorem opd_notIn (c : Ctx X W m) : OpD X (compareOp .NotIn) (inD true) := opd_inN c true _ rfl

/-! ### subscripts -/
def ixD : DR2
  | .tup ds, y, μ, R => ∃ i d, y = .int i ∧ atI ds i = some d ∧ R d μ
  | .str z, y, μ, R => ∃ i c, y = .int i ∧ z.length ≤ sizeLine ∧ atI z.cps.toList i = some c ∧ R (.str ⟨#[c]⟩) μ
  | .ref a, y, μ, R => (∃ ds i d, LsM μ a ds ∧ y = .int i ∧ atI ds i = some d ∧ R d μ) ∨ ∃ kvs k d, μ a = some (.dic kvs) ∧ y = keyD k ∧ valD kvs k = some d ∧ R d μ
  | _, _, _, _ => False
variable {a b e : Expr} {ma mb : DE} {pos : Pos}
/-- d[k], by values -/
theorem ix_dic (hu : X.A.units + 1 < cLine) : IxR X (fun x y H Q => ∃ a v, x = .ref a ∧ DGet H a y (some v) ∧ Q v H) := by
  intro value slice pins s σ H x y v u Q I rx ry ⟨a, z, e, g, q⟩ hs
  subst e
  obtain rfl : v = Value.ref a := rx
  have hT := dict_typeIs I g
  unfold subscriptTail
  refine wpAny_bind ?_
  rw [getitemInPython_of_ne hT.not_modules]
  refine wpAny_bind (wpAny_specialOf hT PySem.F.slot_dict_getitem.lookup ?_)
  have fin : wpAny (model X.prog X.w) X.A (subscripted slice false (.ref a) u) (fun r s₃ => wpAny (model X.prog X.w) X.A (letTemporaryGo value (.ref a) r >>= fun _ => pure r) (L2.EP X pins σ Q) X.xe s₃) X.xe s := by
    rw [hs]
    exact wpAny_operating (d_getItem hu I g ry fun w' s' I' rw' => wpAny_bind (wpAny_letTemporaryGo (wpAny_pure ⟨z, H, I', rw', q⟩)))
  first
    | exact wpAny_pure (wpAny_bind fin)
    | exact wpAny_bind (wpAny_pure (wpAny_bind fin))
    | exact wpAny_bind fin
theorem ix_D (hu : X.A.units + 1 < cLine) : IxR X (upR2 X.K ixD) := by
  intro value slice pins s σ H x y v u Q I rx ry ⟨dx, dy, μ, R, d1, d2, rp, h, q⟩ hs
  unfold ixD at h
  split at h
  · obtain ⟨i, d, rfl, e, hq⟩ := h
    obtain ⟨a, xs, rfl, hS, hd⟩ := Den.tup.mp d1
    rw [Den.int.mp d2] at ry
    obtain ⟨w, e2, dw⟩ := hd.atI e
    exact ix_tup value slice pins s σ H _ _ v u Q I rx ry ⟨a, xs, i, w, rfl, rfl, hS.t, e2, q _ _ _ _ hq (TK.refl H) dw rp⟩ hs
  · obtain ⟨i, ch, rfl, hl, e, hq⟩ := h
    rw [Den.str.mp d1] at rx; rw [Den.int.mp d2] at ry
    exact ix_str value slice pins s σ H _ _ v u Q I rx ry ⟨_, i, ch, rfl, rfl, hl, e, q _ _ _ _ hq (TK.refl H) (Den.str.mpr rfl) rp⟩ hs
  · rw [Den.ref.mp d1] at rx
    rcases h with ⟨ds, i, d, e, rfl, e1, hq⟩ | ⟨kvs, k, d, e, rfl, e1, hq⟩
    · rw [Den.int.mp d2] at ry
      obtain ⟨us, g1, f1⟩ := rp.ls e
      obtain ⟨w, e2, dw⟩ := f1.atI e1
      exact ix_list value slice pins s σ H _ _ v u Q I rx ry ⟨_, us, i, w, rfl, rfl, g1, e2, q _ _ _ _ hq (TK.refl H) dw rp⟩ hs
    · rw [den_key d2] at ry
      obtain ⟨qs, g1, f1⟩ := rp.dic e
      obtain ⟨w, e2, dw⟩ := (f1.val k).1 d e1
      exact ix_dic hu value slice pins s σ H _ _ v u Q I rx ry ⟨_, w, rfl, by have z := DGet.k (k := k) g1; rw [e2] at z; exact z, q _ _ _ _ hq (TK.refl H) dw rp⟩ hs
  · exact h.elim
theorem me_ix (c : Ctx X W m) (ha : ME X W a ma) (hb : ME X W b mb) (hs : PlainIx b := by exact fun _ _ => rfl) : ME X W (.Subscript a b pos) (mOp ixD ma mb) :=
  me_of (pe_ix (ix_D c.hu1) ha hb hs) fun _ _ _ h => bin_up (fun _ _ _ _ z => z) h

/-! ### slices -/
abbrev DO' := DSt → Mu → DX → (Option Int → Mu → Prop) → Prop
def upO (K : PySem.W.Frag) (W : WX) (m : DO') : L2.TO := fun σ H Q => ∃ δ μ RX R, Sts K H δ σ ∧ Rep K H μ ∧ m δ μ RX R ∧ XL K W σ δ H RX ∧ ∀ o μ' H', R o μ' → TK H H' → Rep K H' μ' → Q o H'
def MO (X : Cx) (W : WX) (e : Option Expr) (m : DO') : Prop := PO X e (upO X.K W m)
def mNoPart : DO' := fun _ μ _ R => R none μ
def mPart (ma : DE) : DO' := fun δ μ RX R => ma δ μ RX fun x μ1 => ∃ i, x = .int i ∧ R (some i) μ1
theorem PO.imp {e : Option Expr} {t t' : L2.TO} (h : PO X e t) (i : ∀ σ H Q, t' σ H Q → t σ H Q) : PO X e t' := ⟨fun pins s σ H Q I h' => h.run pins s σ H Q I (i _ _ _ h')⟩
theorem mo_none : MO X W none mNoPart := PO.imp po_none fun σ H Q ⟨δ, μ, RX, R, st, rp, hm, xl, q⟩ => q none μ H hm (TK.refl H) rp
theorem mo_some (h : ME X W e ma) : MO X W (some e) (mPart ma) := PO.imp (po_some h) fun σ H Q ⟨δ, μ, RX, R, st, rp, hm, xl, q⟩ => ⟨δ, μ, RX, _, st, rp, hm, xl, fun x μ1 v1 H1 h1 t1 d1 r1 => by
  obtain ⟨i, rfl, h2⟩ := h1
  exact ⟨i, Den.int.mp d1, q _ μ1 H1 h2 t1 r1⟩⟩
def cutD {α : Type} (xs : List α) (lo hi : Option Int) : List α := (xs.drop (HT.sIx xs.length 0 lo)).take (HT.sIx xs.length xs.length hi - HT.sIx xs.length 0 lo)
theorem cutD_whole {α : Type} {xs : List α} {lo hi : Option Int} (h : HT.sIx xs.length 0 lo = 0 ∧ HT.sIx xs.length xs.length hi = xs.length) : cutD xs lo hi = xs := by
  unfold cutD
  rw [h.1, h.2]
  simp
theorem Dens.cut {K : PySem.W.Frag} {H : Hp} {ds : List D} {vs : List V} (h : Dens K H ds vs) (lo hi : Option Int) : Dens K H (cutD ds lo hi) (cutV vs lo hi) := by
  unfold cutD cutV
  rw [h.length]
  exact (h.drop _).take _
def slD : D → Option Int → Option Int → Mu → DK → Prop
  | .tup ds, lo, hi, μ, R => R (.tup (cutD ds lo hi)) μ
  | .ref a, lo, hi, μ, R => ∃ ds, LsM μ a ds ∧ ∀ p, μ p = none → R (.ref p) (updM μ p (.lst (cutD ds lo hi)))
  | .str z, lo, hi, μ, R => z.length ≤ sizeLine ∧ R (.str (cutS z lo hi)) μ
  | _, _, _, _, _ => False
def mSl (ma : DE) (ml mh : DO') : DE := fun δ μ RX R => ma δ μ RX fun x μ1 => ml δ μ1 RX fun lo μ2 => mh δ μ2 RX fun hi μ3 => slD x lo hi μ3 R
theorem sl_D : SlR X (fun x lo hi H Q => ∃ dx μ R, Den X.K H dx x ∧ Rep X.K H μ ∧ slD dx lo hi μ R ∧ QL X.K H R Q) := by
  intro pins s σ H x v vl vu lo hi sl Q I rx hs pl pu ⟨dx, μ, R, d1, rp, h, q⟩
  unfold slD at h
  split at h
  · obtain ⟨a, xs, rfl, hS, hd⟩ := Den.tup.mp d1
    refine sl_tupF pins s σ H _ v vl vu _ _ sl Q I rx hs pl pu ⟨a, xs, rfl, hS.t, fun hw => ?_, fun p ob hp z => q _ _ _ _ h (TK.new hp) (Den.newTup hp z (hd.cut _ _)) (rp.more hp)⟩
    rw [cutD_whole (by rw [hd.length]; exact hw)] at h
    exact q _ _ _ _ h (TK.refl H) d1 rp
  · obtain ⟨ds, e, hq⟩ := h
    obtain ⟨us, g1, f1⟩ := rp.ls e
    rw [Den.ref.mp d1] at rx
    exact sl_list pins s σ H _ v vl vu _ _ sl Q I rx hs pl pu ⟨_, us, rfl, g1, fun p hp => q _ _ _ _ (hq p (rp.none hp)) (TK.new hp) (Den.ref.mpr rfl) (rp.newLst hp (f1.cut _ _))⟩
  · rw [Den.str.mp d1] at rx
    exact sl_str pins s σ H _ v vl vu _ _ sl Q I rx hs pl pu ⟨_, rfl, h.1, q _ _ _ _ h.2 (TK.refl H) (Den.str.mpr rfl) rp⟩
  · exact h.elim
theorem me_slice {lo hi : Option Expr} {ml mh : DO'} {p2 : Pos} (ha : ME X W a ma) (hl : MO X W lo ml) (hh : MO X W hi mh) : ME X W (.Subscript a (.Slice lo hi none p2) pos) (mSl ma ml mh) :=
  me_of (pe_slice sl_D ha hl hh) fun σ H Q ⟨δ, μ, RX, R, st, rp, hm, xl, q⟩ => ⟨δ, μ, RX, _, st, rp, hm, xl, fun x μ1 v1 H1 h1 t1 d1 r1 => ⟨δ, μ1, RX, _, st.keep t1, r1, h1, xl.keep t1, fun lo μ2 H2 h2 t2 r2 =>
    ⟨δ, μ2, RX, _, st.keep (t1.trans t2), r2, h2, xl.keep (t1.trans t2), fun hi μ3 H3 h3 t3 r3 => ⟨x, μ3, R, d1.keep (t2.trans t3), r3, h3, q.keep (t1.trans (t2.trans t3))⟩⟩⟩⟩
/-- xs[::-1] -/
def revD : D → Mu → DK → Prop
  | .tup ds, μ, R => R (.tup ds.reverse) μ
  | .ref a, μ, R => ∃ ds, LsM μ a ds ∧ ∀ p, μ p = none → R (.ref p) (updM μ p (.lst ds.reverse))
  | _, _, _ => False
theorem me_rev {k : Nat} {p1 p2 p3 : Pos} (ha : ME X W e ma) : ME X W (.Subscript e (.Slice none none (some (.UnaryOp .USub (.Constant (.int 1) k p1) p2)) p3) pos) (mUn revD ma) :=
  me_of (pe_revB ha) fun σ H Q ⟨δ, μ, RX, R, st, rp, hm, xl, q⟩ => ⟨δ, μ, RX, _, st, rp, hm, xl, fun x μ1 v1 H1 h1 t1 d1 r1 => by
    have h1 : revD x μ1 R := h1
    unfold revD at h1
    split at h1
    · obtain ⟨a, xs, rfl, hS, hd⟩ := Den.tup.mp d1
      exact ⟨a, xs, rfl, .inr ⟨hS.t, fun p ob hp z => q _ _ _ _ h1 (t1.trans (TK.new hp)) (Den.newTup hp z hd.reverse) (r1.more hp)⟩⟩
    · obtain ⟨ds, e, hq⟩ := h1
      obtain ⟨us, g1, f1⟩ := r1.ls e
      exact ⟨_, us, Den.ref.mp d1, .inl ⟨g1, fun p hp => q _ _ _ _ (hq p (r1.none hp)) (t1.trans (TK.new hp)) (Den.ref.mpr rfl) (r1.newLst hp f1.reverse)⟩⟩
    · exact h1.elim⟩
end
end DL

set_option Elab.async false
set_option linter.all false
set_option maxRecDepth 100000
set_option maxHeartbeats 1000000
/-! The D-layer, part 4: built-in functions, methods of lists, tuples, dicts. -/
namespace DL
open PySem PySem.Spec PyProof.Rows L2
section
variable {X : Cx} {W : WX} {m : Nat} {a b e : Expr} {es : List Expr} {ma mb : DE} {mr : DA} {pos apos : Pos}
theorem Dens.one {K : PySem.W.Frag} {H : Hp} {d : D} {vs : List V} (h : Dens K H [d] vs) : ∃ v, vs = [v] ∧ Den K H d v := by
  obtain ⟨v, r, rfl, h1, h2⟩ := Dens.cons.mp h
  rw [Dens.nil.mp h2]
  exact ⟨v, rfl, h1⟩
theorem Dens.two {K : PySem.W.Frag} {H : Hp} {d d2 : D} {vs : List V} (h : Dens K H [d, d2] vs) : ∃ v v2, vs = [v, v2] ∧ Den K H d v ∧ Den K H d2 v2 := by
  obtain ⟨v, r, rfl, h1, h2⟩ := Dens.cons.mp h
  obtain ⟨v2, rfl, h3⟩ := h2.one
  exact ⟨v, v2, rfl, h1, h3⟩

/-! ### len -/
def lenR : DRs
  | [.tup ds], μ, R => R (.int ds.length) μ
  | [.str z], μ, R => z.length ≤ sizeLine ∧ R (.int z.length) μ
  | [.ref a], μ, R => (∃ ds, LsM μ a ds ∧ R (.int ds.length) μ) ∨ ∃ kvs, μ a = some (.dic kvs) ∧ R (.int kvs.length) μ
  | _, _, _ => False
theorem cr_len : CallR X (.builtin "len") (upRs X.K lenR) := by
  intro pins s σ H xs us Q I r ⟨ds, μ, R, dd, rp, h, q⟩
  unfold lenR at h
  split at h
  · obtain ⟨v, rfl, d1⟩ := dd.one
    obtain ⟨a, ys, rfl, hS, hd⟩ := Den.tup.mp d1
    exact call_len_seq pins s σ H _ us Q I r ⟨a, ys, rfl, .inr hS.t, by rw [← hd.length]; exact q _ _ _ _ h (TK.refl H) (Den.int.mpr rfl) rp⟩
  · obtain ⟨v, rfl, d1⟩ := dd.one
    rw [Den.str.mp d1] at r
    exact call_len_str pins s σ H _ us Q I r ⟨_, rfl, h.1, q _ _ _ _ h.2 (TK.refl H) (Den.int.mpr rfl) rp⟩
  · obtain ⟨v, rfl, d1⟩ := dd.one
    rw [Den.ref.mp d1] at r
    rcases h with ⟨ds, e, hq⟩ | ⟨kvs, e, hq⟩
    · obtain ⟨ws, g, f⟩ := rp.ls e
      exact call_len_seq pins s σ H _ us Q I r ⟨_, ws, rfl, .inl g, by rw [← f.length]; exact q _ _ _ _ hq (TK.refl H) (Den.int.mpr rfl) rp⟩
    · obtain ⟨ws, g, f⟩ := rp.dic e
      exact call_lenD pins s σ H _ us Q I r ⟨_, ws, rfl, g, by rw [← f.length]; exact q _ _ _ _ hq (TK.refl H) (Den.int.mpr rfl) rp⟩
  · exact h.elim
theorem me_len {p : Pos} (hm : X.mg "len" = none) (ha : ME X W e ma) (hg : Gl X "len" := by rfl) (he : starEach [e] X.env = (false, eval e X.env) :: starEach [] X.env := by rfl) (hpl : (backTo pos (starEach [] X.env)).any (·.1) = false := by rfl) :
    ME X W (.Call (.Name "len" p) [e] [] pos) (mB lenR (mCons ma mNil)) := me_b cr_len hm boot_len (ma_cons ha ma_nil he) hg (by decide) (by decide) he hpl

/-! ### list(x), tuple(x) -/
def listR : DRs
  | [.tup ds], μ, R => ∀ p, μ p = none → R (.ref p) (updM μ p (.lst ds))
  | [.ref a], μ, R => ∃ ds, LsM μ a ds ∧ ∀ p, μ p = none → R (.ref p) (updM μ p (.lst ds))
  | _, _, _ => False
theorem cr_list : CallR X (.type "list") (upRs X.K listR) := by
  intro pins s σ H xs us Q I r ⟨ds, μ, R, dd, rp, h, q⟩
  unfold listR at h
  split at h
  · obtain ⟨v, rfl, d1⟩ := dd.one
    obtain ⟨a, ys, rfl, hS, hd⟩ := Den.tup.mp d1
    exact call_list_of pins s σ H _ us Q I r ⟨a, ys, rfl, .inr hS.t, fun p hp => q _ _ _ _ (h p (rp.none hp)) (TK.new hp) (Den.ref.mpr rfl) (rp.newLst hp hd)⟩
  · obtain ⟨v, rfl, d1⟩ := dd.one
    rw [Den.ref.mp d1] at r
    obtain ⟨ds, e, hq⟩ := h
    obtain ⟨ws, g, f⟩ := rp.ls e
    exact call_list_of pins s σ H _ us Q I r ⟨_, ws, rfl, .inl g, fun p hp => q _ _ _ _ (hq p (rp.none hp)) (TK.new hp) (Den.ref.mpr rfl) (rp.newLst hp f)⟩
  · exact h.elim
def tupR : DRs
  | [.tup ds], μ, R => R (.tup ds) μ
  | [.ref a], μ, R => ∃ ds, LsM μ a ds ∧ R (.tup ds) μ
  | _, _, _ => False
theorem cr_tuple : CallR X (.type "tuple") (upRs X.K tupR) := by
  intro pins s σ H xs us Q I r ⟨ds, μ, R, dd, rp, h, q⟩
  unfold tupR at h
  split at h
  · obtain ⟨v, rfl, d1⟩ := dd.one
    obtain ⟨a, ys, rfl, hS, hd⟩ := Den.tup.mp d1
    exact call_tupleF pins s σ H _ us Q I r ⟨a, ys, rfl, .inr ⟨hS.t, q _ _ _ _ h (TK.refl H) d1 rp⟩⟩
  · obtain ⟨v, rfl, d1⟩ := dd.one
    rw [Den.ref.mp d1] at r
    obtain ⟨ds, e, hq⟩ := h
    obtain ⟨ws, g, f⟩ := rp.ls e
    exact call_tupleF pins s σ H _ us Q I r ⟨_, ws, rfl, .inl ⟨g, fun p ob hp z => q _ _ _ _ hq (TK.new hp) (Den.newTup hp z f) (rp.more hp)⟩⟩
  · exact h.elim
theorem me_list {p : Pos} (hm : X.mg "list" = none) (ha : ME X W e ma) (hg : Gl X "list" := by rfl) (he : starEach [e] X.env = (false, eval e X.env) :: starEach [] X.env := by rfl) (hpl : (backTo pos (starEach [] X.env)).any (·.1) = false := by rfl) :
    ME X W (.Call (.Name "list" p) [e] [] pos) (mB listR (mCons ma mNil)) := me_bT cr_list hm boot_list (ma_cons ha ma_nil he) hg (by decide) (by decide) he hpl
theorem me_tuple {p : Pos} (hm : X.mg "tuple" = none) (ha : ME X W e ma) (hg : Gl X "tuple" := by rfl) (he : starEach [e] X.env = (false, eval e X.env) :: starEach [] X.env := by rfl) (hpl : (backTo pos (starEach [] X.env)).any (·.1) = false := by rfl) :
    ME X W (.Call (.Name "tuple" p) [e] [] pos) (mB tupR (mCons ma mNil)) := me_bT cr_tuple hm boot_tuple (ma_cons ha ma_nil he) hg (by decide) (by decide) he hpl
/-- list(range(..)), tuple(range(..)) -/
def rgD (lo hi : Int) : List D := (List.range (hi - lo).toNat).map fun i => D.int (lo + (i : Nat))
theorem dens_rg {K : PySem.W.Frag} {H : Hp} (lo hi : Int) : Dens K H (rgD lo hi) (rgV lo hi) := by
  have e : rgD lo hi = ((List.range (hi - lo).toNat).map fun (i : Nat) => lo + (i : Int)).map D.int := by unfold rgD; rw [List.map_map]; rfl
  have e2 : rgV lo hi = ((List.range (hi - lo).toNat).map fun (i : Nat) => lo + (i : Int)).map V.int := by unfold rgV; rw [List.map_map]; rfl
  rw [e, e2]
  exact Dens.ints.mpr rfl
abbrev DRg := DSt → Mu → DX → (Int → Int → Mu → Prop) → Prop
def mRg1 (ma : DE) : DRg := fun δ μ RX R => ma δ μ RX fun x μ1 => ∃ n, x = .int n ∧ R 0 n μ1
def mRg2 (ma mb : DE) : DRg := fun δ μ RX R => ma δ μ RX fun x μ1 => mb δ μ1 RX fun y μ2 => ∃ i j, x = .int i ∧ y = .int j ∧ R i j μ2
def upRg (K : PySem.W.Frag) (W : WX) (m : DRg) : L2.St → Hp → (Int → Int → Hp → Prop) → Prop := fun σ H Q => ∃ δ μ RX R, Sts K H δ σ ∧ Rep K H μ ∧ m δ μ RX R ∧ XL K W σ δ H RX ∧ ∀ i j μ' H', R i j μ' → TK H H' → Rep K H' μ' → Q i j H'
def MRg (X : Cx) (W : WX) (e : Expr) (m : DRg) : Prop := PRg X e (upRg X.K W m)
theorem PRg.imp {e : Expr} {t t' : L2.St → Hp → (Int → Int → Hp → Prop) → Prop} (h : PRg X e t) (i : ∀ σ H Q, t' σ H Q → t σ H Q) : PRg X e t' := fun pins s σ H Q I h' => h pins s σ H Q I (i _ _ _ h')
theorem mrg_1 {p : Pos} (hm : X.mg "range" = none) (ha : ME X W a ma) (hg : Gl X "range" := by rfl) (na : starEach [a] X.env = (false, eval a X.env) :: starEach [] X.env := by rfl) : MRg X W (.Call (.Name "range" p) [a] [] pos) (mRg1 ma) :=
  PRg.imp (prg_1 hg hm ha na) fun σ H Q ⟨δ, μ, RX, R, st, rp, hm, xl, q⟩ => ⟨δ, μ, RX, _, st, rp, hm, xl, fun x μ1 v1 H1 h1 t1 d1 r1 => by
    obtain ⟨n, rfl, h2⟩ := h1
    exact ⟨n, Den.int.mp d1, q _ _ μ1 H1 h2 t1 r1⟩⟩
theorem mrg_2 {p : Pos} (hm : X.mg "range" = none) (ha : ME X W a ma) (hb : ME X W b mb) (hg : Gl X "range" := by rfl) (na : starEach [a, b] X.env = (false, eval a X.env) :: starEach [b] X.env := by rfl) (nb : starEach [b] X.env = (false, eval b X.env) :: starEach [] X.env := by rfl) (hp : (backTo pos (starEach [b] X.env)).any (·.1) = false := by rfl) : MRg X W (.Call (.Name "range" p) [a, b] [] pos) (mRg2 ma mb) :=
  PRg.imp (prg_2 hg hm ha hb na nb hp) fun σ H Q ⟨δ, μ, RX, R, st, rp, hm, xl, q⟩ => ⟨δ, μ, RX, _, st, rp, hm, xl, fun x μ1 v1 H1 h1 t1 d1 r1 => ⟨δ, μ1, RX, _, st.keep t1, r1, h1, xl.keep t1, fun y μ2 v2 H2 h2 t2 d2 r2 => by
    obtain ⟨i, j, rfl, rfl, h3⟩ := h2
    exact ⟨i, j, Den.int.mp d1, Den.int.mp d2, q _ _ μ2 H2 h3 (t1.trans t2) r2⟩⟩⟩
def mListRg (t : DRg) : DE := fun δ μ RX R => t δ μ RX fun i j μ1 => RgOk i j ∧ ∀ p, μ1 p = none → R (.ref p) (updM μ1 p (.lst (rgD i j)))
def mTupRg (t : DRg) : DE := fun δ μ RX R => t δ μ RX fun i j μ1 => RgOk i j ∧ R (.tup (rgD i j)) μ1
theorem me_listRg {p : Pos} {t : DRg} (c : Ctx X W m) (hm : X.mg "list" = none) (he : MRg X W e t) (hg : Gl X "list" := by rfl) (na : starEach [e] X.env = (false, eval e X.env) :: starEach [] X.env := by rfl) : ME X W (.Call (.Name "list" p) [e] [] pos) (mListRg t) :=
  me_of (pe_listRg c.calm hg hm he na) fun σ H Q ⟨δ, μ, RX, R, st, rp, hm, xl, q⟩ => ⟨δ, μ, RX, _, st, rp, hm, xl, fun i j μ1 H1 h1 t1 r1 => ⟨h1.1, fun p hp => q _ _ _ _ (h1.2 p (r1.none hp)) (t1.trans (TK.new hp)) (Den.ref.mpr rfl) (r1.newLst hp (dens_rg i j))⟩⟩
theorem me_tupRg {p : Pos} {t : DRg} (c : Ctx X W m) (hm : X.mg "tuple" = none) (he : MRg X W e t) (hg : Gl X "tuple" := by rfl) (na : starEach [e] X.env = (false, eval e X.env) :: starEach [] X.env := by rfl) : ME X W (.Call (.Name "tuple" p) [e] [] pos) (mTupRg t) :=
  me_of (pe_tupRgF c.calm hg hm he na) fun σ H Q ⟨δ, μ, RX, R, st, rp, hm, xl, q⟩ => ⟨δ, μ, RX, _, st, rp, hm, xl, fun i j μ1 H1 h1 t1 r1 => ⟨h1.1, fun p ob hp z => q _ _ _ _ h1.2 (t1.trans (TK.new hp)) (Den.newTup hp z (dens_rg i j)) (r1.more hp)⟩⟩

/-! ### sum, all, any, sorted -/
theorem intItems_of : ∀ {us : List Value} {ns : List Int}, IntsAre us ns → ∃ xs : List (Int × Tok), us.toArray = intItems xs.toArray ∧ xs.map (·.1) = ns := by
  intro us ns h
  obtain ⟨xs, e⟩ := h.allInts.items
  refine ⟨xs.toList, by simpa using e, ?_⟩
  have hn : numsOf (intItems xs).toList = ns := by rw [← e]; exact h.numsOf
  rw [nums_intItems] at hn
  simpa using hn
def sumR : DRs := fun xs μ R => ∃ ns : List Int, (xs = [.tup (ns.map D.int)] ∨ ∃ a, xs = [.ref a] ∧ LsM μ a (ns.map D.int)) ∧ R (.int ns.sum) μ
theorem cr_sumD (c : Ctx X W m) : CallR X (.builtin "sum") (upRs X.K sumR) := by
  intro pins s σ H xs us Q I r ⟨ds, μ, R, dd, rp, ⟨ns, h, hq⟩, q⟩
  rcases h with rfl | ⟨a, rfl, e⟩
  · obtain ⟨v, rfl, d1⟩ := dd.one
    obtain ⟨a, ys, rfl, hS, hd⟩ := Den.tup.mp d1
    have e1 := Dens.ints.mp hd
    subst e1
    obtain ⟨its, r', ht, hz⟩ := I.tuple hS.t
    have hi := r'.ints
    rw [Vals.ref1 r]
    obtain ⟨xs, e1⟩ := hi.allInts.items
    have hn : numsOf (intItems xs).toList = ns := by rw [← e1]; exact hi.numsOf
    rw [nums_intItems] at hn
    rw [e1] at ht
    have hcalm := c.calm
    refine PySem.W.ktm_sumG (I.ok.hd hcalm) ht fun h' tk t' hk => ?_
    rw [preSum_eq, List.take_of_length_le (by simp), hn]
    exact ⟨.int _, H, I.kept (t' := tk) hk, ⟨_, rfl⟩, q _ _ _ _ hq (TK.refl H) (Den.int.mpr rfl) rp⟩
  · obtain ⟨v, rfl, d1⟩ := dd.one
    rw [Den.ref.mp d1] at r
    obtain ⟨ws, g, f⟩ := rp.ls e
    rw [Dens.ints.mp f] at g
    exact cr_sum c.calm pins s σ H _ us Q I r ⟨_, ns, rfl, g, q _ _ _ _ hq (TK.refl H) (Den.int.mpr rfl) rp⟩

theorem me_sum {p : Pos} (c : Ctx X W m) (hm : X.mg "sum" = none) (ha : ME X W e ma) (hg : Gl X "sum" := by rfl) (he : starEach [e] X.env = (false, eval e X.env) :: starEach [] X.env := by rfl) (hpl : (backTo pos (starEach [] X.env)).any (·.1) = false := by rfl) :
    ME X W (.Call (.Name "sum" p) [e] [] pos) (mB sumR (mCons ma mNil)) := me_b (cr_sumD c) hm (by decide +kernel) (ma_cons ha ma_nil he) hg (by decide) (by decide) he hpl
def allR : DRs := fun xs μ R => ∃ (a : Addr) (bs : List Bool), xs = [.ref a] ∧ LsM μ a (bs.map D.bl) ∧ R (.bl (bs.all id)) μ
def anyR : DRs := fun xs μ R => ∃ (a : Addr) (bs : List Bool), xs = [.ref a] ∧ LsM μ a (bs.map D.bl) ∧ R (.bl (bs.any id)) μ
theorem cr_allD (c : Ctx X W m) : CallR X (.builtin "all") (upRs X.K allR) := by
  intro pins s σ H xs us Q I r ⟨ds, μ, R, dd, rp, ⟨a, bs, e0, e, hq⟩, q⟩
  subst e0
  obtain ⟨v, rfl, d1⟩ := dd.one
  rw [Den.ref.mp d1] at r
  obtain ⟨ws, g, f⟩ := rp.ls e
  rw [Dens.bls.mp f] at g
  exact cr_all c.calm pins s σ H _ us Q I r ⟨_, bs, rfl, g, q _ _ _ _ hq (TK.refl H) (Den.bl.mpr rfl) rp⟩
theorem cr_anyD (c : Ctx X W m) : CallR X (.builtin "any") (upRs X.K anyR) := by
  intro pins s σ H xs us Q I r ⟨ds, μ, R, dd, rp, ⟨a, bs, e0, e, hq⟩, q⟩
  subst e0
  obtain ⟨v, rfl, d1⟩ := dd.one
  rw [Den.ref.mp d1] at r
  obtain ⟨ws, g, f⟩ := rp.ls e
  rw [Dens.bls.mp f] at g
  exact cr_any c.calm pins s σ H _ us Q I r ⟨_, bs, rfl, g, q _ _ _ _ hq (TK.refl H) (Den.bl.mpr rfl) rp⟩
theorem me_all {p : Pos} (c : Ctx X W m) (hm : X.mg "all" = none) (ha : ME X W e ma) (hg : Gl X "all" := by rfl) (he : starEach [e] X.env = (false, eval e X.env) :: starEach [] X.env := by rfl) (hpl : (backTo pos (starEach [] X.env)).any (·.1) = false := by rfl) :
    ME X W (.Call (.Name "all" p) [e] [] pos) (mB allR (mCons ma mNil)) := me_b (cr_allD c) hm (by decide +kernel) (ma_cons ha ma_nil he) hg (by decide) (by decide) he hpl
theorem me_any {p : Pos} (c : Ctx X W m) (hm : X.mg "any" = none) (ha : ME X W e ma) (hg : Gl X "any" := by rfl) (he : starEach [e] X.env = (false, eval e X.env) :: starEach [] X.env := by rfl) (hpl : (backTo pos (starEach [] X.env)).any (·.1) = false := by rfl) :
    ME X W (.Call (.Name "any" p) [e] [] pos) (mB anyR (mCons ma mNil)) := me_b (cr_anyD c) hm (by decide +kernel) (ma_cons ha ma_nil he) hg (by decide) (by decide) he hpl
/-- sorted of ints -/
def sortedR : DRs := fun xs μ R => ∃ (a : Addr) (ns : List Int), xs = [.ref a] ∧ LsM μ a (ns.map D.int) ∧ ∀ ns' : List Int, ns'.Perm ns → ns'.Pairwise (· ≤ ·) → ∀ p, μ p = none → R (.ref p) (updM μ p (.lst (ns'.map D.int)))
theorem cr_sortedD : CallR X (.builtin "sorted") (upRs X.K sortedR) := by
  intro pins s σ H xs us Q I r ⟨ds, μ, R, dd, rp, ⟨a, ns, e0, e, hq⟩, q⟩
  subst e0
  obtain ⟨v, rfl, d1⟩ := dd.one
  rw [Den.ref.mp d1] at r
  obtain ⟨ws, g, f⟩ := rp.ls e
  rw [Dens.ints.mp f] at g
  exact cr_sortedI pins s σ H _ us Q I r ⟨_, ns, rfl, g, fun ns' p h1 h2 hp => q _ _ _ _ (hq ns' h1 h2 p (rp.none hp)) (TK.new hp) (Den.ref.mpr rfl) (rp.newLst hp (Dens.ints.mpr rfl))⟩
theorem me_sorted {p : Pos} (hm : X.mg "sorted" = none) (ha : ME X W e ma) (hg : Gl X "sorted" := by rfl) (he : starEach [e] X.env = (false, eval e X.env) :: starEach [] X.env := by rfl) (hpl : (backTo pos (starEach [] X.env)).any (·.1) = false := by rfl) :
    ME X W (.Call (.Name "sorted" p) [e] [] pos) (mB sortedR (mCons ma mNil)) := me_b cr_sortedD hm (by decide +kernel) (ma_cons ha ma_nil he) hg (by decide) (by decide) he hpl

/-! ### isinstance with a built-in class -/
def tyNm (μ : Mu) : D → Option String
  | .non => some "NoneType"
  | .bl _ => some "bool"
  | .int _ => some "int"
  | .str _ => some "str"
  | .tup _ => some "tuple"
  | .wtup _ => some "tuple"
  | .flst _ => none
  | .ty _ => none
  | .ref a => match μ a with
    | some (.lst _) => some "list"
    | some (.rol _) => some "list"
    | some (.dic _) => some "dict"
    | _ => none
def isB (t n : String) : Bool := (t == n) || (t == "bool" && n == "int")
theorem isB_ok : ∀ {t n : String}, t ∈ ["NoneType", "bool", "int", "str", "tuple", "list", "dict"] → n ∈ ["bool", "int", "str", "tuple", "list", "dict"] → kitB t n = some (isB t n) := by
  have h : (["NoneType", "bool", "int", "str", "tuple", "list", "dict"].all fun t => ["bool", "int", "str", "tuple", "list", "dict"].all fun n => decide (kitB t n = some (isB t n))) = true := by decide +kernel
  intro t n h1 h2
  exact of_decide_eq_true (List.all_eq_true.mp (List.all_eq_true.mp h t h1) n h2)
def isiR : DRs := fun xs μ R => ∃ x n t, xs = [x, .ty n] ∧ n ∈ ["bool", "int", "str", "tuple", "list", "dict"] ∧ tyNm μ x = some t ∧ R (.bl (isB t n)) μ
theorem tyX_of {K : PySem.W.Frag} {H : Hp} {μ : Mu} {x : D} {v : V} {t : String} (rp : Rep K H μ) (d : Den K H x v) (h : tyNm μ x = some t) : TyX K H v (.type t) ∧ t ∈ ["NoneType", "bool", "int", "str", "tuple", "list", "dict"] := by
  cases x with
  | non => cases h; rw [Den.non.mp d]; exact ⟨.base .non, by simp⟩
  | bl b => cases h; rw [Den.bl.mp d]; exact ⟨.base (.bl b), by simp⟩
  | int b => cases h; rw [Den.int.mp d]; exact ⟨.base (.int b), by simp⟩
  | str b => cases h; rw [Den.str.mp d]; exact ⟨.base (.str b), by simp⟩
  | ty n => cases h
  | flst n => cases h
  | tup ds =>
    cases h
    obtain ⟨a, xs, rfl, hS, hd⟩ := Den.tup.mp d
    refine ⟨?_, by simp⟩
    rcases hS with ⟨o, h1, z⟩ | ⟨o, its, n, h1, z, _⟩
    · exact .fTuple h1
    · exact .kTuple h1 z.1
  | wtup ds =>
    cases h
    obtain ⟨a, xs, rfl, hS, hd⟩ := Den.wtup.mp d
    refine ⟨?_, by simp⟩
    rcases hS with (h1 | ⟨o, h1⟩) | ⟨o, its, n, h1, z, _⟩
    · exact .base (.tup h1)
    · exact .fTuple h1
    · exact .kTuple h1 z
  | ref a =>
    rw [Den.ref.mp d]
    have h2 : (match μ a with
      | some (.lst _) => some "list"
      | some (.rol _) => some "list"
      | some (.dic _) => some "dict"
      | _ => none) = some t := h
    cases e : μ a with
    | none => rw [e] at h2; cases h2
    | some w =>
      rw [e] at h2
      cases w with
      | lst ds =>
        cases h2
        obtain ⟨xs, g, _⟩ := rp a _ e
        exact ⟨.base (.lst g), by simp⟩
      | rol ds =>
        cases h2
        obtain ⟨xs, g, _⟩ := rp a _ e
        rcases g with g | ⟨o, g⟩
        · exact ⟨.base (.lst g), by simp⟩
        · exact ⟨.base (.frz g), by simp⟩
      | dic ds =>
        cases h2
        obtain ⟨xs, g, _⟩ := rp a _ e
        exact ⟨.base (.dK g), by simp⟩
      | ins C fs => cases h2
      | raw o => cases h2
theorem cr_isi : CallR X (.builtin "isinstance") (upRs X.K isiR) := by
  intro pins s σ H xs us Q I r ⟨ds, μ, R, dd, rp, ⟨x, n, t, e0, hn, ht, hq⟩, q⟩
  subst e0
  obtain ⟨v, v2, rfl, d1, d2⟩ := dd.two
  obtain ⟨ty, mem⟩ := tyX_of rp d1 ht
  rw [Den.ty.mp d2] at r
  exact call_isi pins s σ H _ us Q I r ⟨v, .ty n, .type t, .type n, isB t n, rfl, .ty n, ty, kit_ty (isB_ok mem hn), q _ _ _ _ hq (TK.refl H) (Den.bl.mpr rfl) rp⟩
theorem me_isi {p : Pos} (hm : X.mg "isinstance" = none) (ha : MA X W (a :: es) mr) (hg : Gl X "isinstance" := by rfl) (he : starEach (a :: es) X.env = (false, eval a X.env) :: starEach es X.env := by rfl) (hpl : (backTo pos (starEach es X.env)).any (·.1) = false := by rfl) :
    ME X W (.Call (.Name "isinstance" p) (a :: es) [] pos) (mB isiR mr) := me_b cr_isi hm (by decide +kernel) ha hg (by decide) (by decide) he hpl

/-! ### methods of lists -/
def mBML (r : D → List D → Mu → DK → Prop) (mo : DE) (t : DA) : DE := fun δ μ RX R => mo δ μ RX fun x μ1 => ∃ a ds, x = .ref a ∧ LsM μ1 a ds ∧ t δ μ1 RX fun xs μ2 => r x xs μ2 R
theorem tyL {K : PySem.W.Frag} {H : Hp} {μ : Mu} {a : Addr} {ds : List D} (rp : Rep K H μ) (e : LsM μ a ds) : tyV K "list" (.ref a) H := by
  obtain ⟨ws, g, _⟩ := rp.ls e
  exact .inl ⟨rfl, ws, g⟩
theorem bml_up {σ : L2.St} {H : Hp} {Q : VK} {r : D → List D → Mu → DK → Prop} (h : upE X.K W (mBML r ma mr) σ H Q) : tBM X.K "list" (upRm X.K r) (upE X.K W ma) (upA X.K W mr) σ H Q := by
  obtain ⟨δ, μ, RX, R, st, rp, hm, xl, q⟩ := h
  refine ⟨δ, μ, RX, _, st, rp, hm, xl, fun x μ1 v1 H1 h1 t1 d1 r1 => ?_⟩
  obtain ⟨a, ds, rfl, e, h2⟩ := h1
  have e1 := Den.ref.mp d1
  subst e1
  exact ⟨tyL r1 e, δ, μ1, RX, _, st.keep t1, r1, h2, xl.keep t1, fun xs μ2 vs H2 h3 t2 d2 r2 => ⟨.ref a, xs, μ2, R, Den.ref.mpr rfl, d2, r2, h3, q.keep (t1.trans t2)⟩⟩
def appendR : D → List D → Mu → DK → Prop := fun x xs μ R => ∃ a ds y, x = .ref a ∧ xs = [y] ∧ μ a = some (.lst ds) ∧ ds.length < sizeLine ∧ R .non (updM μ a (.lst (ds ++ [y])))
theorem mt_appendD : MtR X "list.append" (upRm X.K appendR) := by
  intro pins s σ H x xs v us Q I rx rs ⟨dx, ds, μ, R, d1, d2, rp, ⟨a, es, y, e1, e2, e3, hl, hq⟩, q⟩
  subst e1 e2
  obtain ⟨w, rfl, dy⟩ := d2.one
  rw [Den.ref.mp d1] at rx
  obtain ⟨ws, g, f⟩ := rp.lst e3
  exact mt_append pins s σ H _ _ v us Q I rx rs ⟨a, ws, w, rfl, rfl, g, by rw [← f.length]; exact hl, q _ _ _ _ hq (TK.lst g) (Den.non.mpr rfl) (rp.setLst g (f.app (Dens.mk dy (Dens.nil.mpr rfl))))⟩
theorem me_append {cpos : Pos} (ha : ME X W a ma) (hr : MA X W (e :: es) mr) (hbase : attributeBase a "append" X.env (eval a X.env) = eval a X.env := by rfl)
    (hfew : ((backTo cpos (starEach (e :: es) X.env)).all (fun x => !x.1) && (backToKw cpos (keywordEach [] X.env)).all (fun x => x.1.isSome) && decide ((e :: es).length + ([] : List Keyword).length + (if ([] : List Keyword).isEmpty then 0 else 1) < 30)) = true := by rfl)
    (hline : (apos.endLine == cpos.line) = true := by rfl) (hs : starEach (e :: es) X.env = (false, eval e X.env) :: starEach es X.env := by rfl) (hplain : (backTo cpos (starEach es X.env)).any (·.1) = false := by rfl) :
    ME X W (.Call (.Attribute a "append" apos) (e :: es) [] cpos) (mBML appendR ma mr) :=
  me_of (pe_bm PySem.F.plainAttrs_list PySem.F.slot_list_append PySem.F.type_list_append mt_appendD ha hr hbase hfew hline hs hplain) fun _ _ _ h => bml_up h
/-- xs.pop(i) -/
def popR : D → List D → Mu → DK → Prop := fun x xs μ R => ∃ a ds i j y, x = .ref a ∧ xs = [.int i] ∧ μ a = some (.lst ds) ∧ ixN ds.length i = some j ∧ ds[j]? = some y ∧ R y (updM μ a (.lst (ds.eraseIdx j)))
theorem mt_popD : MtR X "list.pop" (upRm X.K popR) := by
  intro pins s σ H x xs v us Q I rx rs ⟨dx, ds, μ, R, d1, d2, rp, ⟨a, es, i, j, y, e1, e2, e3, hj, hy, hq⟩, q⟩
  subst e1 e2
  obtain ⟨w, rfl, dy⟩ := d2.one
  rw [Den.int.mp dy] at rs
  rw [Den.ref.mp d1] at rx
  obtain ⟨ws, g, f⟩ := rp.lst e3
  obtain ⟨z, hz, dz⟩ := f.get hy
  obtain ⟨h1, h2, h3, h4⟩ := ixN_seq hj
  obtain ⟨hlen, _⟩ := I.lstM g
  have hn := line63
  rw [sizeLine_eq] at hlen
  have hlf := f.length
  exact mt_popAt pins s σ H _ _ v us Q I rx rs ⟨a, ws, i, j, z, rfl, rfl, g, by omega, by omega, by rw [← f.length]; exact h1, hz, q _ _ _ _ hq (TK.lst g) (dz.keep (TK.lst g)) (rp.setLst g (f.eraseIdx j))⟩
theorem me_pop {cpos : Pos} (ha : ME X W a ma) (hr : MA X W (e :: es) mr) (hbase : attributeBase a "pop" X.env (eval a X.env) = eval a X.env := by rfl)
    (hfew : ((backTo cpos (starEach (e :: es) X.env)).all (fun x => !x.1) && (backToKw cpos (keywordEach [] X.env)).all (fun x => x.1.isSome) && decide ((e :: es).length + ([] : List Keyword).length + (if ([] : List Keyword).isEmpty then 0 else 1) < 30)) = true := by rfl)
    (hline : (apos.endLine == cpos.line) = true := by rfl) (hs : starEach (e :: es) X.env = (false, eval e X.env) :: starEach es X.env := by rfl) (hplain : (backTo cpos (starEach es X.env)).any (·.1) = false := by rfl) :
    ME X W (.Call (.Attribute a "pop" apos) (e :: es) [] cpos) (mBML popR ma mr) :=
  me_of (pe_bm PySem.F.plainAttrs_list PySem.F.slot_list_pop PySem.F.type_list_pop mt_popD ha hr hbase hfew hline hs hplain) fun _ _ _ h => bml_up h

/-! ### t.index(x) of a tuple of flat items -/
def firstIx (x : D) (ds : List D) (j : Nat) : Prop := (∃ z, ds[j]? = some z ∧ beq z x = true) ∧ ∀ (k : Nat) z, k < j → ds[k]? = some z → beq z x = false
def mTIx (mo : DE) (t : DA) : DE := fun δ μ RX R => mo δ μ RX fun x μ1 => ∃ ds, x = .tup ds ∧ t δ μ1 RX fun xs μ2 => ∃ y j, xs = [y] ∧ (flat y = true ∧ ds.all flat = true) ∧ firstIx y ds j ∧ R (.int (j : Nat)) μ2
theorem me_tindex {cpos : Pos} (ha : ME X W a ma) (hr : MA X W (e :: es) mr) (hbase : attributeBase a "index" X.env (eval a X.env) = eval a X.env := by rfl)
    (hfew : ((backTo cpos (starEach (e :: es) X.env)).all (fun x => !x.1) && (backToKw cpos (keywordEach [] X.env)).all (fun x => x.1.isSome) && decide ((e :: es).length + ([] : List Keyword).length + (if ([] : List Keyword).isEmpty then 0 else 1) < 30)) = true := by rfl)
    (hline : (apos.endLine == cpos.line) = true := by rfl) (hs : starEach (e :: es) X.env = (false, eval e X.env) :: starEach es X.env := by rfl) (hplain : (backTo cpos (starEach es X.env)).any (·.1) = false := by rfl) :
    ME X W (.Call (.Attribute a "index" apos) (e :: es) [] cpos) (mTIx ma mr) :=
  me_of (pe_bmT PySem.F.slot_tuple_index PySem.F.type_tuple_index mt_tupIx ha hr hbase hfew hline hs hplain) fun σ H Q ⟨δ, μ, RX, R, st, rp, hm, xl, q⟩ => ⟨δ, μ, RX, _, st, rp, hm, xl, fun x μ1 v1 H1 h1 t1 d1 r1 => by
    obtain ⟨ds, rfl, h2⟩ := h1
    obtain ⟨p, ys, rfl, hS, hd⟩ := Den.tup.mp d1
    refine ⟨⟨p, ys, rfl, hS⟩, δ, μ1, RX, _, st.keep t1, r1, h2, xl.keep t1, fun xs μ2 vs H2 h3 t2 d2 r2 => ?_⟩
    obtain ⟨y, j, rfl, ⟨f1, f2⟩, ⟨⟨z, hz, hb⟩, hno⟩, hq⟩ := h3
    obtain ⟨w, rfl, dy⟩ := d2.one
    have hd2 := hd.keep t2
    obtain ⟨zv, ez, dz⟩ := hd2.get hz
    have fz : ∀ {k : Nat} {z : D}, ds[k]? = some z → flat z = true := fun {k z} h => List.all_eq_true.mp f2 z (List.mem_of_getElem? h)
    refine ⟨p, ys, w, j, zv, rfl, rfl, t2.sqT hS.t, flat_V dy f1, flats_V hd2 f2, ez, by rw [eqV_beq dz dy (fz hz) f1]; exact hb, fun k z' hk ez' => ?_, q _ _ _ _ hq (t1.trans t2) (Den.int.mpr rfl) r2⟩
    obtain ⟨d', e1, e2⟩ := hd2.getV ez'
    rw [eqV_beq e2 dy (fz e1) f1]
    exact hno k d' hk e1⟩
theorem firstMet_ok (ns : List Int) : ∀ i, i ≤ ns.length → (PyProof.Rows.firstMet (fun i => ns.getD i 0) i).Nodup ∧ ∀ k, k ∈ PyProof.Rows.firstMet (fun i => ns.getD i 0) i ↔ k ∈ ns.take i
  | 0, _ => by rw [PyProof.Rows.firstMet_zero]; simp
  | i + 1, h => by
    obtain ⟨h1, h2⟩ := firstMet_ok ns i (by omega)
    have hlt : i < ns.length := by omega
    have e1 : ns.getD i 0 = ns[i] := by rw [List.getD_eq_getElem?_getD, List.getElem?_eq_getElem hlt] <;> rfl
    have e2 : ns.take (i + 1) = ns.take i ++ [ns[i]] := by rw [List.take_add_one, List.getElem?_eq_getElem hlt] <;> rfl
    rw [PyProof.Rows.firstMet_succ, e2]
    generalize PyProof.Rows.firstMet (fun i => ns.getD i 0) i = acc at h1 h2
    show (if acc.any (· == ns.getD i 0) then acc else acc ++ [ns.getD i 0]).Nodup ∧ ∀ k, k ∈ (if acc.any (· == ns.getD i 0) then acc else acc ++ [ns.getD i 0]) ↔ _
    rw [e1]
    have hany : acc.any (· == ns[i]) = true ↔ ns[i] ∈ acc := by
      rw [List.any_eq_true]
      exact ⟨fun ⟨x, hx, hb⟩ => by rw [← eq_of_beq hb]; exact hx, fun hx => ⟨_, hx, by simp⟩⟩
    by_cases hb : acc.any (· == ns[i]) = true
    · rw [if_pos hb]
      refine ⟨h1, fun k => ?_⟩
      rw [h2 k, List.mem_append, List.mem_singleton]
      constructor
      · exact fun z => .inl z
      · rintro (z | rfl)
        · exact z
        · exact (h2 _).mp (hany.mp hb)
    · rw [if_neg hb]
      have hno : ns[i] ∉ acc := fun z => hb (hany.mpr z)
      refine ⟨?_, fun k => ?_⟩
      · rw [List.nodup_append]
        refine ⟨h1, by simp, fun x hx y hy e => hno ?_⟩
        rw [List.mem_singleton.mp hy] at e
        rw [← e]; exact hx
      · rw [List.mem_append, List.mem_append, h2 k]
/-- len(set(xs)) of ints -/
def tLenSetA (K : PySem.W.Frag) (ta : TE) : TE := fun σ H Q => ta σ H fun x H1 => ∃ (l : Addr) (ns : List Int), x = .ref l ∧ (SqL K H1 l (ns.map V.int) ∨ SqT K H1 l (ns.map V.int)) ∧ ns.length ≤ 4000 ∧ ∀ ks : List Int, ks.Nodup → (∀ k, k ∈ ks ↔ k ∈ ns) → Q (.int (ks.length : Nat)) H1
theorem pe_lenSetA {p p2 q : Pos} {ta : TE} (hg : Gl X "len") (hm : X.mg "len" = none) (hg2 : Gl X "set") (hm2 : X.mg "set" = none) (ha : PE X a ta) (hc : X.calm = true := by rfl)
    (na : starEach [a] X.env = (false, eval a X.env) :: starEach [] X.env := by rfl) : PE X (.Call (.Name "len" p) [.Call (.Name "set" p2) [a] [] q] [] pos) (tLenSetA X.K ta) := by
  refine ⟨fun pins s σ H Q I h => ?_⟩
  refine Call_ (ld_blt I hg hm boot_len ?_)
  refine PyProof.Rows.callWith_builtin1 (PyProof.Rows.args_cons ?_ rfl) rfl rfl
  refine Call_ (ld_blt I hg2 hm2 boot_set ?_)
  refine PyProof.Rows.callWith_type1 (PyProof.Rows.args_cons (thn (ha.run pins s σ H _ I h) fun v s1 ⟨x, H1, I1, r1, q1⟩ => PyProof.Rows.args_nil ?_) na) na rfl
  obtain ⟨l, ns, rfl, hq, hl, q1⟩ := q1
  cases r1
  rcases hq with hq | hq
  · obtain ⟨its, r, pl, hz⟩ := I1.list hq
    have hlen : its.toArray.size = ns.length := by rw [List.size_toArray, ← r.length, List.length_map]
    refine call_set_list (I1.ok.hd hc) pl.isList (by simpa using RZ.intsAre_vals r) (by rw [hlen]; unfold scanBound; omega) fun h' tk hS hk => ?_
    refine PyProof.Rows.args_nil ?_
    obtain ⟨k1, k2⟩ := firstMet_ok ns ns.length (Nat.le_refl _)
    have kl := PyProof.Rows.firstMet_length_le (fun i => ns.getD i 0) ns.length
    rw [hlen] at hS
    obtain ⟨o, es, ep, t, ho, hex, hd, _, _, _, hf, hn⟩ := hS
    have I2 : Inv X pins σ H1 { s1 with heap := h', toks := tk } := I1.kept fun b o e => hk b o (Heap.lt_size e) e
    exact call_len_set ho hex hd hf (by rw [hn] <;> omega) ⟨.int _, H1, I2.tok _, ⟨_, by rw [hn]⟩, q1 _ k1 fun k => by rw [k2 k, List.take_length]⟩
  · obtain ⟨its, r, pl, hz⟩ := I1.tuple hq
    have pT : s1.heap.IsTuple l its.toArray := pl
    refine call_set_tupI ns (I1.ok.hd hc) pT (by simpa using RZ.intsAre_vals r) (by unfold scanBound; omega) fun h' tk c hS hc' hk => ?_
    refine PyProof.Rows.args_nil ?_
    obtain ⟨o, es, ep, t, ho, hex, hd, _, hnd, hmem, _, hf, hn, _⟩ := hS
    have I2 : Inv X pins σ H1 { s1 with heap := h', toks := tk } := I1.kept fun b o e => hk b o e
    have e1 : (es.toList.map keyOf).length = es.size := by simp
    exact call_len_set ho hex hd hf (by rw [hn] <;> omega) ⟨.int _, H1, I2.tok _, ⟨_, by rw [e1]⟩, q1 _ hnd fun k => by rw [← hmem k]; simp⟩
def mLenSet (ma : DE) : DE := fun δ μ RX R => ma δ μ RX fun x μ1 => ∃ ns : List Int, (x = .tup (ns.map D.int) ∨ ∃ a, x = .ref a ∧ LsM μ1 a (ns.map D.int)) ∧ ns.length ≤ 4000 ∧ ∀ ks : List Int, ks.Nodup → (∀ k, k ∈ ks ↔ k ∈ ns) → R (.int ks.length) μ1
theorem me_lenSet {p p2 q : Pos} (c : Ctx X W m) (hm : X.mg "len" = none) (hm2 : X.mg "set" = none) (ha : ME X W a ma) (hg : Gl X "len" := by rfl) (hg2 : Gl X "set" := by rfl) (na : starEach [a] X.env = (false, eval a X.env) :: starEach [] X.env := by rfl) :
    ME X W (.Call (.Name "len" p) [.Call (.Name "set" p2) [a] [] q] [] pos) (mLenSet ma) :=
  me_of (pe_lenSetA hg hm hg2 hm2 ha c.calm na) fun σ H Q ⟨δ, μ, RX, R, st, rp, hm, xl, q⟩ => ⟨δ, μ, RX, _, st, rp, hm, xl, fun x μ1 v1 H1 h1 t1 d1 r1 => by
    obtain ⟨ns, hx, hl, hq⟩ := h1
    rcases hx with rfl | ⟨b, rfl, e⟩
    · obtain ⟨b, ys, rfl, hS, hd⟩ := Den.tup.mp d1
      rw [Dens.ints.mp hd] at hS
      exact ⟨b, ns, rfl, .inr hS.t, hl, fun ks k1 k2 => q _ _ _ _ (hq ks k1 k2) t1 (Den.int.mpr rfl) r1⟩
    · obtain ⟨ws, g, f⟩ := r1.ls e
      rw [Dens.ints.mp f] at g
      exact ⟨b, ns, Den.ref.mp d1, .inl g, hl, fun ks k1 k2 => q _ _ _ _ (hq ks k1 k2) t1 (Den.int.mpr rfl) r1⟩⟩
end
end DL

set_option Elab.async false
set_option linter.all false
set_option maxRecDepth 100000
set_option maxHeartbeats 1000000
/-! The D-layer, part 5: what is walked (lists, tuples, ranges, enumerate, zip); enumerate of a tuple. -/
namespace PySem
open Sem (wp)
set_option maxHeartbeats 4000000 in
theorem dl_enum_new {val : Value} {ob : Obj} {Hx : Heap → Prop} (B : Begins val ob Hx) :
    Meets (Builtin.«enumerate.__new__» ⟨[.type "enumerate", val], []⟩) (fun _ R s => Hx s.heap ∧
      R (.ok (.ret (.ref (s.heap.push ob).objs.size))) { s with heap := (s.heap.push ob).push { cls := .type "enumerate", data := .fields #[.none, .bool false, .ref s.heap.objs.size, rawInt 0, .none, .none] } }) :=
  .of_wp fun prog w A R s hh => by
    obtain ⟨hp, gg, dd, tt, oo⟩ := s; obtain ⟨h1, hr⟩ := hh
    have hsub := sub_enumerate
    have it0 : ∀ {A' : Around} {E : Value → Shared → Prop} {Q : Value → Shared → Prop}, Q (.ref hp.objs.size) ⟨hp.push ob, gg, dd, tt, oo⟩ → wpAny (model prog w) A' (pyIter val) Q E ⟨hp, gg, dd, tt, oo⟩ :=
      fun q => B.iter prog w _ _ ⟨hp, gg, dd, tt, oo⟩ _ h1 q
    wp_walk using it0
    refine wpAny_stack_any fun st => wpAny_pure ?_
    split
    · rename_i c _ _ _ _ _
      cases (c == Value.type "enumerate")
      · wp_walk using it0
        exact ⟨_, rfl, hr⟩
      · wp_walk using it0
        exact ⟨_, rfl, hr⟩
    · wp_walk using it0
      exact ⟨_, rfl, hr⟩
theorem dl_enum_call {prog : Program} {w : World} {A : Around} {E : Value → Shared → Prop} {s : Shared} {val : Value} {ob : Obj} {Hx : Heap → Prop} {Q : Value → Shared → Prop} (B : Begins val ob Hx) (h1 : Hx s.heap)
    (hq : ∀ h', IsEnum h' (s.heap.objs.size + 1) s.heap.objs.size 0 .none → h'.get? s.heap.objs.size = some ob → h'.objs.size = s.heap.objs.size + 2 →
      (∀ b o, s.heap.get? b = some o → h'.get? b = some o) → Q (.ref (s.heap.objs.size + 1)) { s with heap := h' }) :
    wpAny (model prog w) A (call (.type "enumerate") [val]) Q E s := by
  refine callType_new F.called_enumerate (by decide) (F.typeCall_enumerate_1 _) (F.newCall_enumerate_1 _) (fun obj => F.args_object_init_2 obj _) F.entry_enumerate_new
    (dl_enum_new B) ⟨h1, ?_⟩
  have hz : (s.heap.push ob).objs.size = s.heap.objs.size + 1 := Heap.size_push ..
  show _ ∧ _
  rw [hz]
  have he : IsEnum ((s.heap.push ob).push { cls := .type "enumerate", data := .fields #[.none, .bool false, .ref s.heap.objs.size, rawInt 0, .none, .none] }) (s.heap.objs.size + 1) s.heap.objs.size 0 .none := by
    have hg := Heap.get?_push_size (s.heap.push ob) (o := { cls := .type "enumerate", data := .fields #[.none, .bool false, .ref s.heap.objs.size, rawInt 0, .none, .none] }) rfl
    rw [hz] at hg; exact hg
  refine ⟨⟨_, he, rfl⟩, hq _ he (Heap.get?_push_of_some _ (Heap.get?_push_size _ B.free)) (by rw [Heap.size_push, hz]) fun b o x => Heap.get?_push_of_some _ (Heap.get?_push_of_some _ x)⟩
end PySem
namespace DL
open PySem PySem.Spec PyProof.Rows L2
/-! ### enumerate(tuple) -/
def IteT (K : PySem.W.Frag) (a : Addr) : It :=
  ⟨fun i H => ∃ (xs : List V) (x : V), SqT K H a xs ∧ xs[i]? = some x, fun i H v H' => ∃ T x, v = .ref T ∧ H T = none ∧ H' = upd H T (.tup [.int (i : Nat), x]) ∧ ∀ xs, SqT K H a xs → xs[i]? = some x, fun i H => ∃ xs : List V, SqT K H a xs ∧ xs.length = i⟩
theorem turn_enumT {P : Program} {w : World} {K : PySem.W.Frag} {elts : List Expr} {kk : Nat} {tpos : Pos} (a e it : Addr) (ha : e ≠ a) (hit : it ≠ a) (hne : e ≠ it) :
    Turn P w K (.Tuple elts kk tpos) (IteT K a) [e, it] e (fun i h => (∃ old, IsEnum h e it ((i : Nat) : Int) old) ∧ h.IsTupleIter it a i) where
  mem := by simp
  obj := fun i h st b hb => by
    obtain ⟨⟨old, he⟩, ⟨o, ho, hc, hd⟩⟩ := st
    have e' : b = e ∨ b = it := by simpa using hb
    rcases e' with z | z
    · rw [z]; exact ⟨_, he, fun v q => nomatch q⟩
    · rw [z]; exact ⟨o, ho, fun v q => by rw [hd] at q; cases q⟩
  keep := fun i h h' st k => let ⟨⟨old, he⟩, hi⟩ := st; ⟨⟨old, k e (by simp) _ he⟩, hi.at fun o q => k it (by simp) o q⟩
  item := by
    intro X hP hw hK hc i pins s σ H E I hf st hg
    subst hP hw hK
    obtain ⟨⟨old, he⟩, hi⟩ := st
    obtain ⟨xs, x, hq, hx⟩ := hg
    obtain ⟨its, rv, p, hz⟩ := I.tuple hq
    have pT : s.heap.IsTuple a its.toArray := p
    have hel : e < s.heap.objs.size := Heap.lt_size he
    have hil : it < s.heap.objs.size := by obtain ⟨_, q, _⟩ := hi; exact Heap.lt_size q
    have hlt : i < its.toArray.size := by
      have l := rv.length
      have l2 : i < xs.length := by
        rcases Nat.lt_or_ge i xs.length with z | z
        · exact z
        · rw [List.getElem?_eq_none z] at hx; cases hx
      rw [List.size_toArray]; omega
    have hh : X.A.handled = none := I.ok.hd hc
    refine wpAny_pyNext_enum_itemD (Draws.tuple (A := X.A.in1) hh it a (Ne.symm hit) its.toArray) he ⟨hi, pT⟩ hlt hne (by simp [hne, ha]) fun u h' tk hu ho hst hT hsz hk => ?_
    refine ⟨_, rfl, wpAny_letOwnedTupleGo_enum (s := { s with heap := h', toks := tk + 1 }) ho fun h'' he' sb => ?_⟩
    have hT2 : h''.get? s.heap.objs.size = some { cls := .type "tuple", data := .seq #[.int i tk, u] } := (sb.2 _ (Nat.ne_of_gt hel)).trans hT
    have ru : RelV x u := by
      obtain ⟨u', hu', ru'⟩ := rv.get hx
      have e1 : its.toArray[i]? = some u' := by simpa using hu'
      rw [e1] at hu
      cases hu
      exact ru'
    have new : ObjOk X.prog X.w (upd H s.heap.objs.size (.tup [.int (i : Nat), x])) h'' s.heap.objs.size (.tup [.int (i : Nat), x]) :=
      ⟨by show 2 ≤ sizeLine; decide, [.int i tk, u], .cons ⟨_, rfl⟩ (.cons ru .nil), ⟨_, hT2, rfl, _, rfl⟩⟩
    have I1 : Inv X pins σ (upd H s.heap.objs.size (.tup [.int (i : Nat), x])) { s with heap := h'', toks := tk + 1 } :=
      I.turnedNew (ch := [e, it]) (fun b ob hb q => (sb.2 b (fun z => hb (by simp [z]))).trans (hk b ob (fun z => hb (by simp [z])) (fun z => hb (by simp [z])) q)) hf (Nat.le_refl _) new
    refine ⟨.ref s.heap.objs.size, _, I1, rfl, ⟨_, x, rfl, I.hok.fresh (Nat.le_refl _), rfl, fun ys hy => by rw [I.tuple_inj hy hq]; exact hx⟩, ⟨⟨u, ?_⟩, hst.1.at fun o q => (sb.2 it (Ne.symm hne)).trans q⟩, fun b hb => ?_⟩
    · have e1 : ((i + 1 : Nat) : Int) = (i : Int) + 1 := by omega
      rw [e1]; exact he'
    · have hb' : b < s.heap.objs.size := by
        have e' : b = e ∨ b = it := by simpa using hb
        rcases e' with z | z
        · rw [z]; exact hel
        · rw [z]; exact hil
      rw [upd_ne (Nat.ne_of_lt hb')]
      exact (hf b hb).1
  done := by
    intro X hP hw hK hc i pins s σ H E I hf st hg
    subst hP hw hK
    obtain ⟨⟨old, he⟩, hi⟩ := st
    obtain ⟨xs, hq, hx⟩ := hg
    obtain ⟨its, rv, p, hz⟩ := I.tuple hq
    have pT : s.heap.IsTuple a its.toArray := p
    obtain ⟨f0, f1, f2, f3, f4, f5⟩ := hf it (by simp)
    have hl : i = its.toArray.size := by rw [List.size_toArray, ← rv.length, hx]
    have hh : X.A.handled = none := I.ok.hd hc
    exact wpAny_pyNext_enum_endD (Draws.tuple (A := X.A.in1) hh it a (Ne.symm hit) its.toArray) he ⟨hl ▸ hi, pT⟩ fun h' eb => ⟨rfl, I.turned (t' := s.toks) (fun b o hb q => eb b o hb q) f0 f1 f3 f4 f5⟩
  self := fun A i s Q E st h => let ⟨⟨_, he⟩, _⟩ := st; wpAny_pyIter_enum he h
/-- enumerate of a list or a tuple -/
def iEnA (K : PySem.W.Frag) (ta : TA) : TI := fun σ H R => ta σ H fun vs H1 => ∃ a xs, vs = [.ref a] ∧ ((SqL K H1 a xs ∧ R (Ite K a) H1) ∨ (SqT K H1 a xs ∧ R (IteT K a) H1))
theorem pi_enA {X : Cx} {e : Expr} {ta : TA} {p pos tpos : Pos} {elts : List Expr} {kk : Nat} (hg : Gl X "enumerate") (hm : X.mg "enumerate" = none) (ha : PA X [e] ta) (hs : starEach [e] X.env = [(false, eval e X.env)] := by rfl) :
    PI X (.Tuple elts kk tpos) (.Call (.Name "enumerate" p) [e] [] pos) (iEnA X.K ta) := by
  refine ⟨fun pins s σ H R I h => ?_⟩
  refine Call_ (ld_blt I hg hm boot_enumerate (PyProof.Rows.callWith_type1 (thn (ha.run pos pins s σ H _ I h) fun us s1 ⟨vs, H1, I1, r1, q1⟩ => ?_) hs rfl))
  obtain ⟨a, xs, ex, hq⟩ := q1
  subst ex
  cases r1 with
  | cons r rr =>
    cases rr
    cases r
    have fin : ∀ b, b = s1.heap.objs.size + 1 ∨ b = s1.heap.objs.size → FpOk X pins H1 b := fun b e' => by
      have hle : s1.heap.objs.size ≤ b := by
        rcases e' with z | z
        · rw [z]; exact Nat.le_add_right _ _
        · rw [z]; exact Nat.le_refl _
      exact I1.fpOk hle (I1.hok.fresh hle)
    rcases hq with ⟨hq, q⟩ | ⟨hq, q⟩
    · obtain ⟨its, rv, p', hz⟩ := I1.list hq
      refine call_enumerate_list p'.isList fun h' he hit hsz hk => wpAny_pyIter_enum he ?_
      have I2 : Inv X pins σ H1 { s1 with heap := h' } := I1.kept (t' := s1.toks) hk
      exact ⟨s1.heap.objs.size + 1, [s1.heap.objs.size + 1, s1.heap.objs.size], _, _, H1, rfl, I2, turn_enum a (s1.heap.objs.size + 1) s1.heap.objs.size, ⟨⟨.none, he⟩, hit, Nat.succ_ne_self _⟩, fun b hb => fin b (by simpa using hb), q⟩
    · obtain ⟨its, rv, p', hz⟩ := I1.tuple hq
      have pT : s1.heap.IsTuple a its.toArray := p'
      have hal : a < s1.heap.objs.size := by obtain ⟨o, ho, _⟩ := id pT; exact Heap.lt_size ho
      refine dl_enum_call (begins_tuple a its.toArray) pT fun h' he hit hsz hk => wpAny_pyIter_enum he ?_
      have I2 : Inv X pins σ H1 { s1 with heap := h' } := I1.kept (t' := s1.toks) hk
      exact ⟨s1.heap.objs.size + 1, [s1.heap.objs.size + 1, s1.heap.objs.size], _, _, H1, rfl, I2, turn_enumT a (s1.heap.objs.size + 1) s1.heap.objs.size (Nat.ne_of_gt (Nat.lt_succ_of_lt hal)) (Nat.ne_of_gt hal) (Nat.succ_ne_self _), ⟨⟨.none, he⟩, ⟨_, hit, rfl, rfl⟩⟩, fun b hb => fin b (by simpa using hb), q⟩
/-- a list or a tuple -/
def iSq (K : PySem.W.Frag) (tl : TE) : TI := fun σ H R => tl σ H fun x H1 => ∃ a, x = .ref a ∧ (((∃ xs, SqL K H1 a xs) ∧ R (Itl K a) H1) ∨ ((∃ xs, SqT K H1 a xs) ∧ R (Itt K a) H1))
theorem pi_sq {X : Cx} {tg l : Expr} {tl : TE} (hl : PE X l tl) : PI X tg l (iSq X.K tl) := by
  refine ⟨fun pins s σ H R I h => ?_⟩
  refine thn (hl.run pins s σ H _ I h) fun v s1 ⟨x, H1, I1, r1, q1⟩ => ?_
  obtain ⟨a, ex, q1⟩ := q1
  subst ex
  cases r1
  have fin : ∀ b ∈ [s1.heap.objs.size], FpOk X pins H1 b := fun b hb => by
    have ez : b = s1.heap.objs.size := by simpa using hb
    subst ez
    exact I1.fpOk (Nat.le_refl _) (I1.hok.fresh (Nat.le_refl _))
  rcases q1 with ⟨⟨xs, hq⟩, q⟩ | ⟨⟨xs, hq⟩, q⟩
  · obtain ⟨its, rv, p, hz⟩ := I1.list hq
    refine wpAny_pyIter_list p.isList ?_
    exact ⟨s1.heap.objs.size, [s1.heap.objs.size], _, _, H1, rfl, I1.kept (t' := s1.toks) fun b o z => Heap.get?_push_of_some _ z, turn_list a _, ⟨_, Heap.get?_push_size _ rfl, rfl, rfl⟩, fin, q⟩
  · obtain ⟨its, rv, p, hz⟩ := I1.tuple hq
    refine wpAny_pyIter_tuple (show s1.heap.IsTuple a its.toArray from p) ?_
    exact ⟨s1.heap.objs.size, [s1.heap.objs.size], _, _, H1, rfl, I1.kept (t' := s1.toks) fun b o z => Heap.get?_push_of_some _ z, turn_tuple a _, ⟨_, Heap.get?_push_size _ rfl, rfl, rfl⟩, fin, q⟩

/-! ### readings of what is walked -/
abbrev DI := DSt → Mu → DX → (List D → (Mu → Prop) → Mu → Prop) → Prop
abbrev WD (K : PySem.W.Frag) (H1 : Hp) (J : It) (ds : List D) (G : Mu → Prop) : Prop := Walk J ds.length (fun H => TK H1 H ∧ ∃ μ, Rep K H μ ∧ G μ) (fun i H x H' => TK H H' ∧ (∀ μ, Rep K H μ → Rep K H' μ) ∧ ∃ d, ds[i]? = some d ∧ Den K H' d x)
def upI (K : PySem.W.Frag) (W : WX) (m : DI) : TI := fun σ H R => ∃ δ μ RX Rd, Sts K H δ σ ∧ Rep K H μ ∧ m δ μ RX Rd ∧ XL K W σ δ H RX ∧ ∀ ds G μ' H' J, Rd ds G μ' → TK H H' → Rep K H' μ' → WD K H' J ds G → R J H'
def MI (X : Cx) (W : WX) (tg e : Expr) (m : DI) : Prop := PI X tg e (upI X.K W m)
theorem PI.imp {X : Cx} {tg e : Expr} {t t' : TI} (h : PI X tg e t) (i : ∀ σ H Q, t' σ H Q → t σ H Q) : PI X tg e t' := ⟨fun pins s σ H Q I h' => h.run pins s σ H Q I (i _ _ _ h')⟩
section
variable {K : PySem.W.Frag} {H1 : Hp} {a b : Addr} {ds es : List D} {xs ys : List V}
theorem wd_list : WD K H1 (Itl K a) ds (fun μ => LsM μ a ds) where
  goes := fun i H hi ⟨_, μ, r, l⟩ => by
    obtain ⟨ws, g, f⟩ := r.ls l
    have hl := f.length
    exact ⟨ws, ws[i]'(by omega), g, by simp [show i < ws.length by omega]⟩
  stops := fun H ⟨_, μ, r, l⟩ => by
    obtain ⟨ws, g, f⟩ := r.ls l
    exact ⟨ws, g, by rw [f.length]; exact Nat.le_refl _⟩
  yields := fun i H x H' hi ⟨_, μ, r, l⟩ y => by
    obtain ⟨ws, g, f⟩ := r.ls l
    obtain ⟨e, y⟩ := y
    subst e
    obtain ⟨d, e1, e2⟩ := f.getV (y ws g)
    exact ⟨TK.refl _, fun _ z => z, d, e1, e2⟩
theorem wd_fl (hS : FL K H1 a xs) (hd : Dens K H1 ds xs) : WD K H1 (Itl K a) ds (fun _ => True) where
  goes := fun i H hi ⟨t, _⟩ => by
    have hl := hd.length
    exact ⟨xs, xs[i]'(by omega), (t.fl hS).l, by simp [show i < xs.length by omega]⟩
  stops := fun H ⟨t, _⟩ => ⟨xs, (t.fl hS).l, by rw [hd.length]; exact Nat.le_refl _⟩
  yields := fun i H x H' hi ⟨t, _⟩ y => by
    obtain ⟨e, y⟩ := y
    subst e
    obtain ⟨d, e1, e2⟩ := (hd.keep t).getV (y xs (t.fl hS).l)
    exact ⟨TK.refl _, fun _ z => z, d, e1, e2⟩
theorem wd_tup (hS : SqT K H1 a xs) (hd : Dens K H1 ds xs) : WD K H1 (Itt K a) ds (fun _ => True) where
  goes := fun i H hi ⟨t, _⟩ => by
    have hl := hd.length
    exact ⟨xs, xs[i]'(by omega), t.sqT hS, by simp [show i < xs.length by omega]⟩
  stops := fun H ⟨t, _⟩ => ⟨xs, t.sqT hS, by rw [hd.length]; exact Nat.le_refl _⟩
  yields := fun i H x H' hi ⟨t, _⟩ y => by
    obtain ⟨e, y⟩ := y
    subst e
    obtain ⟨d, e1, e2⟩ := (hd.keep t).getV (y xs (t.sqT hS))
    exact ⟨TK.refl _, fun _ z => z, d, e1, e2⟩
theorem wd_rng {lo hi : Int} : WD K H1 (Itr lo (hi - lo).toNat) (rgD lo hi) (fun _ => True) where
  goes := fun i H h _ => by simpa [rgD, Itr] using h
  stops := fun H _ => by
    show (hi - lo).toNat ≤ (rgD lo hi).length
    simp [rgD]
  yields := fun i H x H' h _ y => by
    obtain ⟨e, y⟩ := y
    subst e
    have h' : i < (hi - lo).toNat := by simpa [rgD] using h
    exact ⟨TK.refl _, fun _ z => z, .int (lo + (i : Nat)), by simp [rgD, h'], Den.int.mpr y⟩
/-- items beside their places -/
def enumD (ds : List D) : List D := (List.range ds.length).map fun i => .wtup [.int (i : Nat), ds.getD i .non]
theorem enumD_len : (enumD ds).length = ds.length := by simp [enumD]
theorem enumD_get {i : Nat} {d : D} (h : ds[i]? = some d) : (enumD ds)[i]? = some (.wtup [.int (i : Nat), d]) := by
  have hl : i < ds.length := by
    rcases Nat.lt_or_ge i ds.length with z | z
    · exact z
    · rw [List.getElem?_eq_none z] at h; cases h
  have hv : ds.getD i .non = d := by rw [List.getD_eq_getElem?_getD, h]; rfl
  unfold enumD
  rw [List.getElem?_map, List.getElem?_range hl]
  show some (D.wtup [.int (i : Nat), ds.getD i .non]) = _
  rw [hv]
theorem pairOk {H : Hp} {T : Addr} {x y : V} {d e : D} (hT : H T = none) (hx : Den K H d x) (hy : Den K H e y) :
    TK H (upd H T (.tup [x, y])) ∧ (∀ μ, Rep K H μ → Rep K (upd H T (.tup [x, y])) μ) ∧ Den K (upd H T (.tup [x, y])) (.wtup [d, e]) (.ref T) :=
  ⟨TK.new hT, fun _ r => r.more hT, Den.wtup.mpr ⟨T, [x, y], rfl, .inl (.inl upd_same), Dens.mk (hx.keep (TK.new hT)) (Dens.mk (hy.keep (TK.new hT)) (Dens.nil.mpr rfl))⟩⟩
theorem wd_enum : WD K H1 (Ite K a) (enumD ds) (fun μ => LsM μ a ds) where
  goes := fun i H hi ⟨_, μ, r, l⟩ => by
    obtain ⟨ws, g, f⟩ := r.ls l
    have hl := f.length
    rw [enumD_len] at hi
    exact ⟨ws, ws[i]'(by omega), g, by simp [show i < ws.length by omega]⟩
  stops := fun H ⟨_, μ, r, l⟩ => by
    obtain ⟨ws, g, f⟩ := r.ls l
    exact ⟨ws, g, by rw [enumD_len, f.length]; exact Nat.le_refl _⟩
  yields := fun i H v H' hi ⟨_, μ, r, l⟩ y => by
    obtain ⟨ws, g, f⟩ := r.ls l
    obtain ⟨T, x, e1, e2, e3, y⟩ := y
    obtain ⟨d, h1, h2⟩ := f.getV (y ws g)
    subst e1 e3
    obtain ⟨p1, p2, p3⟩ := pairOk e2 (Den.int.mpr rfl) h2
    exact ⟨p1, p2, _, enumD_get h1, p3⟩
theorem wd_enumF (hS : FL K H1 a xs) (hd : Dens K H1 ds xs) : WD K H1 (Ite K a) (enumD ds) (fun _ => True) where
  goes := fun i H hi ⟨t, _⟩ => by
    have hl := hd.length
    rw [enumD_len] at hi
    exact ⟨xs, xs[i]'(by omega), (t.fl hS).l, by simp [show i < xs.length by omega]⟩
  stops := fun H ⟨t, _⟩ => ⟨xs, (t.fl hS).l, by rw [enumD_len, hd.length]; exact Nat.le_refl _⟩
  yields := fun i H v H' hi ⟨t, _⟩ y => by
    obtain ⟨T, x, e1, e2, e3, y⟩ := y
    obtain ⟨d, h1, h2⟩ := (hd.keep t).getV (y xs (t.fl hS).l)
    subst e1 e3
    obtain ⟨p1, p2, p3⟩ := pairOk e2 (Den.int.mpr rfl) h2
    exact ⟨p1, p2, _, enumD_get h1, p3⟩
theorem wd_enumT (hS : SqT K H1 a xs) (hd : Dens K H1 ds xs) : WD K H1 (IteT K a) (enumD ds) (fun _ => True) where
  goes := fun i H hi ⟨t, _⟩ => by
    have hl := hd.length
    rw [enumD_len] at hi
    exact ⟨xs, xs[i]'(by omega), t.sqT hS, by simp [show i < xs.length by omega]⟩
  stops := fun H ⟨t, _⟩ => ⟨xs, t.sqT hS, by rw [enumD_len, hd.length]⟩
  yields := fun i H v H' hi ⟨t, _⟩ y => by
    obtain ⟨T, x, e1, e2, e3, y⟩ := y
    obtain ⟨d, h1, h2⟩ := (hd.keep t).getV (y xs (t.sqT hS))
    subst e1 e3
    obtain ⟨p1, p2, p3⟩ := pairOk e2 (Den.int.mpr rfl) h2
    exact ⟨p1, p2, _, enumD_get h1, p3⟩
end
section
variable {X : Cx} {W : WX} {tg a b e e2 : Expr} {ma mb : DE} {mr : DA} {p pos tpos : Pos} {elts : List Expr} {kk : Nat}
def mIt (ma : DE) : DI := fun δ μ RX R => ma δ μ RX fun x μ1 => (∃ ds, (x = .tup ds ∨ x = .flst ds) ∧ R ds (fun _ => True) μ1) ∨ ∃ c ds, x = .ref c ∧ LsM μ1 c ds ∧ R ds (fun μ => LsM μ c ds) μ1
theorem mi_it (ha : ME X W e ma) : MI X W tg e (mIt ma) :=
  PI.imp (pi_sq ha) fun σ H Q ⟨δ, μ, RX, R, st, rp, hm, xl, q⟩ => ⟨δ, μ, RX, _, st, rp, hm, xl, fun x μ1 v1 H1 h1 t1 d1 r1 => by
    rcases h1 with ⟨ds, hx, h2⟩ | ⟨c, ds, rfl, hl, h2⟩
    · rcases hx with rfl | rfl
      · obtain ⟨a, ys, rfl, hS, hd⟩ := Den.tup.mp d1
        exact ⟨a, rfl, .inr ⟨⟨ys, hS.t⟩, q _ _ _ _ _ h2 t1 r1 (wd_tup hS.t hd)⟩⟩
      · obtain ⟨a, ys, rfl, hS, hd⟩ := Den.flst.mp d1
        exact ⟨a, rfl, .inl ⟨⟨ys, hS.l⟩, q _ _ _ _ _ h2 t1 r1 (wd_fl hS hd)⟩⟩
    · obtain ⟨ws, g, f⟩ := r1.ls hl
      exact ⟨c, Den.ref.mp d1, .inl ⟨⟨ws, g⟩, q _ _ _ _ _ h2 t1 r1 wd_list⟩⟩⟩
def mEnum (ma : DE) : DI := fun δ μ RX R => ma δ μ RX fun x μ1 => (∃ ds, (x = .tup ds ∨ x = .flst ds) ∧ R (enumD ds) (fun _ => True) μ1) ∨ ∃ c ds, x = .ref c ∧ LsM μ1 c ds ∧ R (enumD ds) (fun μ => LsM μ c ds) μ1
def enK (R : List D → (Mu → Prop) → Mu → Prop) : List D → Mu → Prop
  | [x], μ1 => (∃ ds, (x = .tup ds ∨ x = .flst ds) ∧ R (enumD ds) (fun _ => True) μ1) ∨ ∃ c ds, x = .ref c ∧ LsM μ1 c ds ∧ R (enumD ds) (fun μ => LsM μ c ds) μ1
  | _, _ => False
theorem mi_enum (hm : X.mg "enumerate" = none) (ha : ME X W e ma) (hg : Gl X "enumerate" := by rfl) (na : starEach [e] X.env = (false, eval e X.env) :: starEach [] X.env := by rfl) : MI X W (.Tuple elts kk tpos) (.Call (.Name "enumerate" p) [e] [] pos) (mEnum ma) :=
  PI.imp (pi_enA hg hm (ma_cons ha ma_nil na) na) fun σ H Q ⟨δ, μ, RX, R, st, rp, hm, xl, q⟩ => ⟨δ, μ, RX, enK R, st, rp, hm, xl, fun xs μ1 vs H1 h1 t1 d1 r1 => by
    unfold enK at h1
    split at h1
    · rcases h1 with ⟨ds, hx, h2⟩ | ⟨c, ds, rfl, hl, h2⟩
      · obtain ⟨v, rfl, dv⟩ := d1.one
        rcases hx with rfl | rfl
        · obtain ⟨a, ys, rfl, hS, hd⟩ := Den.tup.mp dv
          exact ⟨a, ys, rfl, .inr ⟨hS.t, q _ _ _ _ _ h2 t1 r1 (wd_enumT hS.t hd)⟩⟩
        · obtain ⟨a, ys, rfl, hS, hd⟩ := Den.flst.mp dv
          exact ⟨a, ys, rfl, .inl ⟨hS.l, q _ _ _ _ _ h2 t1 r1 (wd_enumF hS hd)⟩⟩
      · obtain ⟨v, rfl, dv⟩ := d1.one
        obtain ⟨ws, g, f⟩ := r1.ls hl
        rw [Den.ref.mp dv]
        exact ⟨c, ws, rfl, .inl ⟨g, q _ _ _ _ _ h2 t1 r1 wd_enum⟩⟩
    · exact h1.elim⟩
/-- ranges -/
def rk1 (R : List D → (Mu → Prop) → Mu → Prop) : List D → Mu → Prop
  | [.int n], μ1 => -(2 ^ 62) ≤ n ∧ n < 2 ^ 62 ∧ R (rgD 0 n) (fun _ => True) μ1
  | _, _ => False
def rk2 (R : List D → (Mu → Prop) → Mu → Prop) : List D → Mu → Prop
  | [.int m, .int n], μ1 => (-(2 ^ 62) ≤ m ∧ m < 2 ^ 62 ∧ -(2 ^ 62) ≤ n ∧ n < 2 ^ 62) ∧ R (rgD m n) (fun _ => True) μ1
  | _, _ => False
def mR1 (ma : DE) : DI := fun δ μ RX R => mCons ma mNil δ μ RX (rk1 R)
def mR2 (ma mb : DE) : DI := fun δ μ RX R => mCons ma (mCons mb mNil) δ μ RX (rk2 R)
theorem mi_r1 (hm : X.mg "range" = none) (ha : ME X W a ma) (hg : Gl X "range" := by rfl) (na : starEach [a] X.env = (false, eval a X.env) :: starEach [] X.env := by rfl) : MI X W tg (.Call (.Name "range" p) [a] [] pos) (mR1 ma) :=
  PI.imp (pi_range1 hg hm (ma_cons ha ma_nil na) na) fun σ H Q ⟨δ, μ, RX, R, st, rp, hm, xl, q⟩ => ⟨δ, μ, RX, rk1 R, st, rp, hm, xl, fun xs μ1 vs H1 h1 t1 d1 r1 => by
    unfold rk1 at h1
    split at h1
    · obtain ⟨v, rfl, dv⟩ := d1.one
      rw [Den.int.mp dv]
      rename_i n
      have e : n.toNat = (n - 0).toNat := by simp
      exact ⟨n, rfl, h1.1, h1.2.1, by rw [e]; exact q _ _ _ _ _ h1.2.2 t1 r1 wd_rng⟩
    · exact h1.elim⟩
theorem mi_r2 (hm : X.mg "range" = none) (ha : ME X W a ma) (hb : ME X W b mb) (hg : Gl X "range" := by rfl) (na : starEach [a, b] X.env = (false, eval a X.env) :: starEach [b] X.env := by rfl) (nb : starEach [b] X.env = (false, eval b X.env) :: starEach [] X.env := by rfl) : MI X W tg (.Call (.Name "range" p) [a, b] [] pos) (mR2 ma mb) :=
  PI.imp (pi_range2 hg hm (ma_cons ha (ma_cons hb ma_nil nb) na) (by rw [na, nb]; rfl) nb) fun σ H Q ⟨δ, μ, RX, R, st, rp, hm, xl, q⟩ => ⟨δ, μ, RX, rk2 R, st, rp, hm, xl, fun xs μ1 vs H1 h1 t1 d1 r1 => by
    unfold rk2 at h1
    split at h1
    · obtain ⟨v, v2, rfl, dv, dw⟩ := d1.two
      rw [Den.int.mp dv, Den.int.mp dw]
      exact ⟨_, _, rfl, h1.1, q _ _ _ _ _ h1.2 t1 r1 wd_rng⟩
    · exact h1.elim⟩

end
end DL

set_option Elab.async false
set_option linter.all false
set_option maxRecDepth 100000
set_option maxHeartbeats 1000000
/-! The D-layer, part 6: targets, statements, loops, comprehensions. -/
namespace DL
open PySem PySem.Spec PyProof.Rows L2
/-! ### targets -/
abbrev DG := D → DSt → Mu → (DSt → Mu → Prop) → Prop
abbrev DGs := List D → DSt → Mu → (DSt → Mu → Prop) → Prop
abbrev RX0 : DX := fun _ _ _ _ => False
theorem XL.no {K : PySem.W.Frag} {W : WX} {σ : L2.St} {δ : DSt} {H : Hp} : XL K W σ δ H RX0 := fun _ _ _ _ _ _ h => h.elim
def Fr (is : List Nat) (σ σ' : L2.St) : Prop := ∀ vs : List Nat, (∀ i ∈ is, i ∈ vs) → wipe σ' vs = wipe σ vs
theorem wipe_set (σ : L2.St) (i : Nat) (x : Option V) : ∀ vs : List Nat, wipe (σ.set i x) vs = if i ∈ vs then wipe σ vs else (wipe σ vs).set i x
  | [] => by simp [wipe]
  | v :: vs => by
    unfold wipe
    rw [wipe_set σ i x vs]
    by_cases h1 : i ∈ vs
    · simp [h1]
    · by_cases h2 : i = v
      · subst h2
        simp [h1]
      · simp only [if_neg h1, List.mem_cons, h2, false_or]
        rw [List.set_comm _ _ h2]
theorem Fr.refl {is : List Nat} {σ : L2.St} : Fr is σ σ := fun _ _ => rfl
theorem Fr.trans {is : List Nat} {σ σ' σ'' : L2.St} (a : Fr is σ σ') (b : Fr is σ' σ'') : Fr is σ σ'' := fun vs h => (b vs h).trans (a vs h)
theorem Fr.mono {is js : List Nat} {σ σ' : L2.St} (a : Fr is σ σ') (h : ∀ i ∈ is, i ∈ js) : Fr js σ σ' := fun vs g => a vs fun i hi => g i (h i hi)
theorem Fr.one {i : Nat} {σ : L2.St} {x : Option V} : Fr [i] σ (σ.set i x) := fun vs h => by rw [wipe_set, if_pos (h i (by simp))]
def upG (K : PySem.W.Frag) (is : List Nat) (m : DG) : TG := fun v σ H Q => ∃ δ μ d R, Sts K H δ σ ∧ Rep K H μ ∧ Den K H d v ∧ m d δ μ R ∧ ∀ δ' μ' σ' H', R δ' μ' → TK H H' → Sts K H' δ' σ' → Rep K H' μ' → Fr is σ σ' → Q σ' H'
def upGs (K : PySem.W.Frag) (is : List Nat) (m : DGs) : TGs := fun vs σ H Q => ∃ δ μ ds R, Sts K H δ σ ∧ Rep K H μ ∧ Dens K H ds vs ∧ m ds δ μ R ∧ ∀ δ' μ' σ' H', R δ' μ' → TK H H' → Sts K H' δ' σ' → Rep K H' μ' → Fr is σ σ' → Q σ' H'
def MG (X : Cx) (is : List Nat) (t : Expr) (m : DG) : Prop := PG X t (upG X.K is m)
def MGs (X : Cx) (is : List Nat) (t : List Expr) (m : DGs) : Prop := PGs X t (upGs X.K is m)
theorem PG.imp {X : Cx} {e : Expr} {t t' : TG} (h : PG X e t) (i : ∀ v σ H Q, t' v σ H Q → t v σ H Q) : PG X e t' := ⟨fun pins s σ H v u Q I r h' => h.run pins s σ H v u Q I r (i _ _ _ _ h')⟩
theorem PGs.imp {X : Cx} {e : List Expr} {t t' : TGs} (h : PGs X e t) (i : ∀ v σ H Q, t' v σ H Q → t v σ H Q) : PGs X e t' := ⟨fun pins s σ H v u Q I r h' => h.run pins s σ H v u Q I r (i _ _ _ _ h')⟩
/-- d[k] = v in a list of pairs -/
def putD {κ : Type} [DecidableEq κ] (kvs : List (κ × D)) (k : κ) (v : D) : List (κ × D) :=
  if (kvs.any fun kv => decide (kv.1 = k)) = true then kvs.map (fun kv => if kv.1 = k then (kv.1, v) else kv) else kvs ++ [(k, v)]
section
variable {K : PySem.W.Frag} {H : Hp} {κ : Type} [DecidableEq κ]
theorem DenKV.any {k : κ} {kvs : List (κ × D)} {qs : List (κ × V)} (h : DenKV K H kvs qs) : (kvs.any fun kv => decide (kv.1 = k)) = (qs.any fun kv => decide (kv.1 = k)) := by
  induction h with
  | nil => rfl
  | cons hp t ih => rw [List.any_cons, List.any_cons, ih, hp.1]
theorem DenKV.map {k : κ} {d : D} {v : V} {kvs : List (κ × D)} {qs : List (κ × V)} (h : DenKV K H kvs qs) (hd : Den K H d v) : DenKV K H (kvs.map (fun kv => if kv.1 = k then (kv.1, d) else kv)) (qs.map (fun kv => if kv.1 = k then (kv.1, v) else kv)) := by
  induction h with
  | nil => exact .nil
  | @cons p q _ _ hp t ih =>
    rw [List.map_cons, List.map_cons]
    refine .cons ?_ ih
    by_cases e : p.1 = k
    · have e2 : q.1 = k := hp.1 ▸ e
      rw [if_pos e, if_pos e2]
      exact ⟨hp.1, hd⟩
    · have e2 : ¬ q.1 = k := hp.1 ▸ e
      rw [if_neg e, if_neg e2]
      exact hp
theorem DenKV.append {as : List (κ × D)} {bs : List (κ × V)} {kvs : List (κ × D)} {qs : List (κ × V)} (h : DenKV K H kvs qs) (g : DenKV K H as bs) : DenKV K H (kvs ++ as) (qs ++ bs) := by
  induction h with
  | nil => exact g
  | cons hp t ih => exact .cons hp ih
theorem DenKV.put {k : κ} {d : D} {v : V} {kvs : List (κ × D)} {qs : List (κ × V)} (h : DenKV K H kvs qs) (hd : Den K H d v) : DenKV K H (putD kvs k d) (putK qs k v) := by
  unfold putD putK
  rw [h.any (k := k)]
  split
  · exact h.map hd
  · exact h.append (.cons ⟨rfl, hd⟩ .nil)
end
abbrev DSet := D → D → D → Mu → (Mu → Prop) → Prop
def setD : DSet := fun o i v μ R => (∃ a ds k j, o = .ref a ∧ i = .int k ∧ μ a = some (.lst ds) ∧ ixN ds.length k = some j ∧ R (updM μ a (.lst (ds.set j v)))) ∨
  ∃ a kvs k, o = .ref a ∧ i = keyD k ∧ μ a = some (.dic kvs) ∧ kvs.length < sizeLine ∧ R (updM μ a (.dic (putD kvs k v)))
def upSet (K : PySem.W.Frag) (t : DSet) : TSet := fun o i v H Q => ∃ dx dy dz μ R, Den K H dx o ∧ Den K H dy i ∧ Den K H dz v ∧ Rep K H μ ∧ t dx dy dz μ R ∧ ∀ μ' H', R μ' → TK H H' → Rep K H' μ' → Q H'
section
variable {X : Cx} {W : WX} {m : Nat} {a b e o i : Expr} {es : List Expr} {ma mb mo mi : DE} {mr : DA} {pos p px py pz pt : Pos} {st : Stmt} {sts : List Stmt}
theorem set_D (c : Ctx X W m) : PSet X (upSet X.K setD) := by
  intro pins s σ H o i v ov iv u Q I ro ri rv ⟨dx, dy, dz, μ, R, d1, d2, d3, rp, h, q⟩
  rcases h with ⟨a, ds, k, j, rfl, rfl, e, hj, hq⟩ | ⟨a, kvs, k, rfl, rfl, e, hl, hq⟩
  · rw [Den.ref.mp d1] at ro; rw [Den.int.mp d2] at ri
    obtain ⟨ws, g, f⟩ := rp.lst e
    exact set_list pins s σ H _ _ v ov iv u Q I ro ri rv ⟨a, ws, k, j, rfl, rfl, g, by rw [← f.length]; exact hj, q _ _ hq (TK.lst g) (rp.setLst g (f.set j d3))⟩
  · rw [Den.ref.mp d1] at ro; rw [den_key d2] at ri
    obtain rfl : ov = Value.ref a := ro
    obtain ⟨qs, g, f⟩ := rp.dic e
    have hl2 := f.length
    exact d_setItem c.hu1 I (DPut.k g (by omega)) ri rv fun s' I' => ⟨_, I', q _ _ hq (TK.dK g) (rp.put (TK.dK g) ⟨_, upd_same, (f.put d3).keep (TK.dK g)⟩)⟩
def gNm (i : Nat) : DG := fun d δ μ R => R (δ.set i (some d)) μ
theorem mg_nm (c : Ctx X W m) (i : Nat) {x : Str} (hi : X.N[i]? = some x := by rfl) (hx : Loc X.env.scope x := by first | exact Or.inl rfl | exact Or.inr rfl) (hf : X.fn x = true ∨ X.env.scope.names.lookup x = some .local := by first | exact .inl rfl | exact .inr rfl | assumption) : MG X [i] (.Name x pos) (gNm i) :=
  PG.imp (pg_name c.nd hi hx hf) fun v σ H Q ⟨δ, μ, d, R, st, rp, dd, h, q⟩ => q _ _ _ H h (TK.refl H) (st.set dd) rp Fr.one
def gsNil : DGs := fun ds δ μ R => ds = [] ∧ R δ μ
def gsCons (g : DG) (r : DGs) : DGs := fun ds δ μ R => ∃ d t, ds = d :: t ∧ g d δ μ fun δ' μ' => r t δ' μ' R
theorem mgs_nil : MGs X [] [] gsNil := PGs.imp pgs_nil fun vs σ H Q ⟨δ, μ, ds, R, st, rp, dd, h, q⟩ => by
  obtain ⟨rfl, h⟩ := h
  exact ⟨Dens.nil.mp dd, q _ _ _ H h (TK.refl H) st rp Fr.refl⟩
theorem mgs_cons {is js : List Nat} {g : DG} {r : DGs} (h1 : MG X is e g) (h2 : MGs X js es r) (hs : (assignEach (e :: es) X.env).map (·.2) = assign e X.env :: (assignEach es X.env).map (·.2) := by rfl) : MGs X (is ++ js) (e :: es) (gsCons g r) :=
  PGs.imp (pgs_cons h1 h2 hs) fun vs σ H Q ⟨δ, μ, ds, R, st, rp, dd, h, q⟩ => by
    obtain ⟨d, t, rfl, h⟩ := h
    obtain ⟨v, w, rfl, d1, d2⟩ := Dens.cons.mp dd
    exact ⟨v, w, rfl, δ, μ, d, _, st, rp, d1, h, fun δ' μ' σ' H' h' t' st' rp' fr => ⟨δ', μ', t, R, st', rp', d2.keep t', h', fun δ2 μ2 σ2 H2 h2 t2 st2 rp2 fr2 => q _ _ _ _ h2 (t'.trans t2) st2 rp2
      (Fr.trans (fr.mono fun i hi => List.mem_append_left _ hi) (fr2.mono fun i hi => List.mem_append_right _ hi))⟩⟩
def gTp (n : Nat) (gs : DGs) : DG := fun d δ μ R => ∃ ds, (d = .tup ds ∨ d = .wtup ds) ∧ ds.length = n ∧ gs ds δ μ R
theorem mg_tp {is : List Nat} {k n : Nat} {gs : DGs} (c : Ctx X W m) (h : MGs X is es gs) (hn : (assignEach es X.env).length = n := by rfl) (hst : (assignEach es X.env).findIdx? (·.1) = none := by rfl) : MG X is (.Tuple es k pos) (gTp n gs) :=
  PG.imp (pg_tup c.calm h hn hst) fun v σ H Q ⟨δ, μ, d, R, st, rp, dd, h, q⟩ => by
    obtain ⟨ds, e1, e2, h⟩ := h
    have hh : ∃ a xs, v = .ref a ∧ SqT X.K H a xs ∧ Dens X.K H ds xs := by
      rcases e1 with rfl | rfl
      · obtain ⟨a, xs, h1, h2, h3⟩ := Den.tup.mp dd
        exact ⟨a, xs, h1, h2.t, h3⟩
      · exact Den.wtup.mp dd
    obtain ⟨a, xs, rfl, hS, hd⟩ := hh
    exact ⟨a, xs, rfl, hS, by rw [← hd.length]; exact e2, δ, μ, ds, R, st, rp, hd, h, q⟩
def gSb (mo mi : DE) : DG := fun d δ μ R => mo δ μ RX0 fun x μ1 => mi δ μ1 RX0 fun y μ2 => setD x y d μ2 fun μ3 => R δ μ3
theorem mg_sb (c : Ctx X W m) (ho : ME X W o mo) (hi : ME X W i mi) (ha : ∀ v, assign (.Subscript o i pos) X.env v = (do
      let ov ← holding [v] (eval o X.env)
      let iv ← holding [v, ov] (eval i X.env)
      standAt pos
      holding [v, ov, iv] (setItem ov iv v)
      release [v, ov, iv] []) := by intro _; rfl) : MG X [] (.Subscript o i pos) (gSb mo mi) :=
  PG.imp (pg_sub ho hi (set_D c) ha) fun v σ H Q ⟨δ, μ, d, R, st, rp, dd, h, q⟩ => ⟨δ, μ, RX0, _, st, rp, h, XL.no, fun x μ1 v1 H1 h1 t1 d1 r1 => ⟨δ, μ1, RX0, _, st.keep t1, r1, h1, XL.no, fun y μ2 v2 H2 h2 t2 d2 r2 =>
    ⟨x, y, d, μ2, _, d1.keep t2, d2, dd.keep (t1.trans t2), r2, h2, fun μ3 H3 h3 t3 r3 => q _ _ _ _ h3 (t1.trans (t2.trans t3)) (st.keep (t1.trans (t2.trans t3))) r3 Fr.refl⟩⟩⟩

/-! ### small statements -/
theorem Link.xl {K : PySem.W.Frag} {Δ : DEnds} {E : Ends} {H : Hp} {δ : DSt} {σ : L2.St} (L : Link K W Δ E H) (st : Sts K H δ σ) : XL K W σ δ H Δ.ex := fun C fs μ' d gs H' h t r hd dk => L.ex C fs δ μ' d gs σ H' h t (st.keep t) r hd dk
theorem ms_of {t : TS} {n : DS} (h : PS X st t) (j : ∀ E σ H, upS X.K W n E σ H → t E σ H) : MS X W st n := PS.imp h j
def mExp (ma : DE) : DS := fun Δ δ μ => ma δ μ Δ.ex fun _ μ1 => Δ.nx δ μ1
theorem ms_exp (ha : ME X W e ma) (hs : swapsWith e none pos.line X.env = pure false := by rfl) : MS X W (.Expr e pos) (mExp ma) :=
  ms_of (ps_expr ha hs) fun E σ H ⟨δ, μ, Δ, st, rp, h, L⟩ => ⟨δ, μ, Δ.ex, _, st, rp, h, L.xl st, fun d μ1 v1 H1 h1 t1 d1 r1 => L.nx _ _ _ _ h1 t1 (st.keep t1) r1⟩
def mRet (ma : DE) : DS := fun Δ δ μ => ma δ μ Δ.ex Δ.rt
theorem ms_ret (ha : ME X W e ma) : MS X W (.Return (some e) pos) (mRet ma) :=
  ms_of (ps_ret ha) fun E σ H ⟨δ, μ, Δ, st, rp, h, L⟩ => ⟨δ, μ, Δ.ex, _, st, rp, h, L.xl st, fun d μ1 v1 H1 h1 t1 d1 r1 => L.rt _ _ _ _ h1 t1 d1 r1⟩
def mRetN : DS := fun Δ δ μ => Δ.rt .non μ
theorem ms_retN : MS X W (.Return none pos) mRetN := ms_of ps_retN fun E σ H ⟨δ, μ, Δ, st, rp, h, L⟩ => L.rt _ _ _ H h (TK.refl H) (Den.non.mpr rfl) rp
def mPass : DS := fun Δ δ μ => Δ.nx δ μ
def mBrk : DS := fun Δ δ μ => Δ.bk δ μ
def mCnt : DS := fun Δ δ μ => Δ.ct δ μ
def mNever : DS := fun _ _ _ => False
theorem ms_pass : MS X W (.Pass pos) mPass := ms_of ps_pass fun E σ H ⟨δ, μ, Δ, st, rp, h, L⟩ => L.nx _ _ _ H h (TK.refl H) st rp
theorem ms_brk : MS X W (.Break pos) mBrk := ms_of ps_break fun E σ H ⟨δ, μ, Δ, st, rp, h, L⟩ => L.bk _ _ _ H h (TK.refl H) st rp
theorem ms_cnt : MS X W (.Continue pos) mCnt := ms_of ps_continue fun E σ H ⟨δ, μ, Δ, st, rp, h, L⟩ => L.ct _ _ _ H h (TK.refl H) st rp
theorem ms_never : MS X W st mNever := ms_of ps_never fun E σ H ⟨δ, μ, Δ, st, rp, h, L⟩ => h.elim
theorem ms_doc {x j} {pos' : Pos} : MS X W (.Expr (.Constant (.str x) j pos) pos') mPass := ms_of ps_doc fun E σ H ⟨δ, μ, Δ, st, rp, h, L⟩ => L.nx _ _ _ H h (TK.refl H) st rp
def mNx : DS := fun Δ δ μ => Δ.nx δ μ
def mSeq (t u : DS) : DS := fun Δ δ μ => t { Δ with nx := u Δ } δ μ
variable {t u : DS}
theorem mss_nil : MSs X W [] mNx := PSs.imp pss_nil fun E σ H ⟨δ, μ, Δ, st, rp, h, L⟩ => L.nx _ _ _ H h (TK.refl H) st rp
theorem mss_one (h : MS X W st t) : MSs X W [st] t := pss_one h
theorem mss_cons (h1 : MS X W st t) (h2 : MSs X W sts u) : MSs X W (st :: sts) (mSeq t u) :=
  PSs.imp (pss_cons h1 h2) fun E σ H ⟨δ, μ, Δ, st, rp, h, L⟩ => ⟨δ, μ, { Δ with nx := u Δ }, st, rp, h, ⟨fun δ' μ' σ' H' h' t' st' rp' => ⟨δ', μ', Δ, st', rp', h', L.keep t'⟩, L.rt, L.bk, L.ct, L.ex⟩⟩
def mIfS (c : DT) (t u : DS) : DS := fun Δ δ μ => c δ μ Δ.ex fun b μ1 => if b = true then t Δ δ μ1 else u Δ δ μ1
theorem ms_if {c : Expr} {tc : DT} {xs ys : List Stmt} (hc : MT X W c tc) (ha : MSs X W xs t) (hb : MSs X W ys u) : MS X W (.If c xs ys pos) (mIfS tc t u) :=
  ms_of (ps_if hc ha hb) fun E σ H ⟨δ, μ, Δ, st, rp, h, L⟩ => ⟨δ, μ, Δ.ex, _, st, rp, h, L.xl st, fun b μ1 H1 h1 t1 r1 => by
    cases b with
    | true => exact ⟨δ, μ1, Δ, st.keep t1, r1, h1, L.keep t1⟩
    | false => exact ⟨δ, μ1, Δ, st.keep t1, r1, h1, L.keep t1⟩⟩
/-- name = e -/
def mSet (i : Nat) (ma : DE) : DS := fun Δ δ μ => ma δ μ Δ.ex fun d μ1 => Δ.nx (δ.set i (some d)) μ1
theorem ms_set (c : Ctx X W m) (i : Nat) {x : Str} (ha : ME X W e ma) (hi : X.N[i]? = some x := by rfl) (hx : Loc X.env.scope x := by first | exact Or.inl rfl | exact Or.inr rfl) (hs : swapsWith e (some (.Name x px)) pos.line X.env = pure false := by rfl) (hf : X.fn x = true ∨ X.env.scope.names.lookup x = some .local := by first | exact .inl rfl | exact .inr rfl | assumption) :
    MS X W (.Assign [.Name x px] e pos) (mSet i ma) :=
  ms_of (ps_set c.nd hi hx ha hs hf) fun E σ H ⟨δ, μ, Δ, st, rp, h, L⟩ => ⟨δ, μ, Δ.ex, _, st, rp, h, L.xl st, fun d μ1 v1 H1 h1 t1 d1 r1 => L.nx _ _ _ _ h1 t1 ((st.keep t1).set d1) r1⟩
/-- target = e -/
def mAsg (ma : DE) (g : DG) : DS := fun Δ δ μ => ma δ μ Δ.ex fun d μ1 => g d δ μ1 Δ.nx
theorem ms_asg {is : List Nat} {tg : Expr} {g : DG} (ha : ME X W e ma) (hg : MG X is tg g) (hs : swapsWithSole [tg] e pos.line X.env = pure false := by rfl) (hw : swappedStores [tg] e X.env = pure none := by rfl)
    (h1 : (assignEach [tg] X.env).map (·.2) = [assign tg X.env] := by rfl) : MS X W (.Assign [tg] e pos) (mAsg ma g) :=
  ms_of (ps_asg ha hg hs hw h1) fun E σ H ⟨δ, μ, Δ, st, rp, h, L⟩ => ⟨δ, μ, Δ.ex, _, st, rp, h, L.xl st, fun d μ1 v1 H1 h1 t1 d1 r1 => ⟨δ, μ1, d, Δ.nx, st.keep t1, r1, d1, h1, fun δ' μ' σ' H' h' t' st' r' _ => L.nx _ _ _ _ h' (t1.trans t') st' r'⟩⟩
/-- a, b = x, y of plain locals -/
def mPar (i j : Nat) (mr : DA) : DS := fun Δ δ μ => mr δ μ Δ.ex fun ds μ1 => ∃ d f, ds = [d, f] ∧ Δ.nx ((δ.set i (some d)).set j (some f)) μ1
theorem ms_par (c : Ctx X W m) (i j : Nat) {x y : Str} {kt k2 pt2} (ha : MA X W [a, b] mr) (hi : X.N[i]? = some x := by rfl) (hj : X.N[j]? = some y := by rfl) (hij : i ≠ j := by decide)
    (hx : X.env.scope.names.lookup x = some .local := by rfl) (hy : X.env.scope.names.lookup y = some .local := by rfl)
    (hw : swappedStores [.Tuple [.Name x px, .Name y py] kt pt] (.Tuple [a, b] k2 pt2) X.env = pure (some [x, y]) := by rfl)
    (hs : swapsWithSole [.Tuple [.Name x px, .Name y py] kt pt] (.Tuple [a, b] k2 pt2) pos.line X.env = pure false := by rfl) : MS X W (.Assign [.Tuple [.Name x px, .Name y py] kt pt] (.Tuple [a, b] k2 pt2) pos) (mPar i j mr) :=
  ms_of (ps_par c.calm c.nd hi hj hij hx hy ha hw hs) fun E σ H ⟨δ, μ, Δ, st, rp, h, L⟩ => ⟨δ, μ, Δ.ex, _, st, rp, h, L.xl st, fun ds μ1 vs H1 h1 t1 d1 r1 => by
    obtain ⟨d, f, rfl, h2⟩ := h1
    obtain ⟨v, w, rfl, dv, dw⟩ := d1.two
    exact ⟨v, w, rfl, L.nx _ _ _ _ h2 t1 (((st.keep t1).set dv).set dw) r1⟩⟩
theorem Dens.three {K : PySem.W.Frag} {H : Hp} {d d2 d3 : D} {vs : List V} (h : Dens K H [d, d2, d3] vs) : ∃ v v2 v3, vs = [v, v2, v3] ∧ Den K H d v ∧ Den K H d2 v2 ∧ Den K H d3 v3 := by
  obtain ⟨v, r, rfl, h1, h2⟩ := Dens.cons.mp h
  obtain ⟨v2, v3, rfl, h3, h4⟩ := h2.two
  exact ⟨v, v2, v3, rfl, h1, h3, h4⟩
def mPar3 (i j l : Nat) (mr : DA) : DS := fun Δ δ μ => mr δ μ Δ.ex fun ds μ1 => ∃ d f g, ds = [d, f, g] ∧ Δ.nx (((δ.set i (some d)).set j (some f)).set l (some g)) μ1
theorem ms_par3 (c : Ctx X W m) (i j l : Nat) {x y z : Str} {a3 : Expr} {kt k2 pt2} (ha : MA X W [a, b, a3] mr) (hi : X.N[i]? = some x := by rfl) (hj : X.N[j]? = some y := by rfl) (hl : X.N[l]? = some z := by rfl) (hij : i ≠ j := by decide) (hil : i ≠ l := by decide) (hjl : j ≠ l := by decide)
    (hx : X.env.scope.names.lookup x = some .local := by rfl) (hy : X.env.scope.names.lookup y = some .local := by rfl) (hz : X.env.scope.names.lookup z = some .local := by rfl)
    (hw : swappedStores [.Tuple [.Name x px, .Name y py, .Name z pz] kt pt] (.Tuple [a, b, a3] k2 pt2) X.env = pure (some [x, y, z]) := by rfl)
    (hs : swapsWithSole [.Tuple [.Name x px, .Name y py, .Name z pz] kt pt] (.Tuple [a, b, a3] k2 pt2) pos.line X.env = pure false := by rfl) : MS X W (.Assign [.Tuple [.Name x px, .Name y py, .Name z pz] kt pt] (.Tuple [a, b, a3] k2 pt2) pos) (mPar3 i j l mr) :=
  ms_of (ps_par3 c.calm c.nd hi hj hl hij hil hjl hx hy hz ha hw hs) fun E σ H ⟨δ, μ, Δ, st, rp, h, L⟩ => ⟨δ, μ, Δ.ex, _, st, rp, h, L.xl st, fun ds μ1 vs H1 h1 t1 d1 r1 => by
    obtain ⟨d, f, g, rfl, h2⟩ := h1
    obtain ⟨v, w, z, rfl, dv, dw, dz⟩ := d1.three
    exact ⟨v, w, z, rfl, L.nx _ _ _ _ h2 t1 ((((st.keep t1).set dv).set dw).set dz) r1⟩⟩
/-- name op= e -/
def ipAdd : DR2
  | .int i, .int j, μ, R => R (.int (i + j)) μ
  | .str i, .str j, μ, R => i.length + j.length ≤ sizeLine ∧ R (.str (i ++ j)) μ
  | .ref a, .ref b, μ, R => ∃ ds es, μ a = some (.lst ds) ∧ μ b = some (.lst es) ∧ ds.length + es.length ≤ sizeLine ∧ R (.ref a) (updM μ a (.lst (ds ++ es)))
  | _, _, _, _ => False
theorem ip_addD : OpD X (inplaceOp .Add) ipAdd := by
  intro pins s σ H x y v u Q I rx ry ⟨dx, dy, μ, R, d1, d2, rp, h, q⟩
  unfold ipAdd at h
  split at h
  · rw [Den.int.mp d1] at rx; rw [Den.int.mp d2] at ry
    exact ip_add pins s σ H _ _ v u Q I rx ry ⟨_, _, rfl, rfl, q _ _ _ _ h (TK.refl H) (Den.int.mpr rfl) rp⟩
  · rw [Den.str.mp d1] at rx; rw [Den.str.mp d2] at ry
    exact iop_add_str pins s σ H _ _ v u Q I rx ry ⟨_, _, rfl, rfl, h.1, q _ _ _ _ h.2 (TK.refl H) (Den.str.mpr rfl) rp⟩
  · rw [Den.ref.mp d1] at rx; rw [Den.ref.mp d2] at ry
    obtain ⟨ds, es, e1, e2, hl, hq⟩ := h
    obtain ⟨xs, g1, f1⟩ := rp.lst e1
    obtain ⟨ys, g2, f2⟩ := rp.lst e2
    exact iop_ext pins s σ H _ _ v u Q I rx ry ⟨_, _, xs, ys, rfl, rfl, g1, g2, by rw [← f1.length, ← f2.length]; exact hl, q _ _ _ _ hq (TK.lst g1) (Den.ref.mpr rfl) (rp.setLst g1 (f1.app f2))⟩
  · exact h.elim
def ipSub : DR2
  | .int i, .int j, μ, R => R (.int (i - j)) μ
  | _, _, _, _ => False
theorem ip_subD : OpD X (inplaceOp .Sub) ipSub := by
  intro pins s σ H x y v u Q I rx ry ⟨dx, dy, μ, R, d1, d2, rp, h, q⟩
  unfold ipSub at h
  split at h
  · rw [Den.int.mp d1] at rx; rw [Den.int.mp d2] at ry
    exact ip_sub pins s σ H _ _ v u Q I rx ry ⟨_, _, rfl, rfl, q _ _ _ _ h (TK.refl H) (Den.int.mpr rfl) rp⟩
  · exact h.elim
def mAug (i : Nat) (r : DR2) (ma : DE) : DS := fun Δ δ μ => ∃ d, δ[i]? = some (some d) ∧ ma δ μ Δ.ex fun f μ1 => r d f μ1 fun z μ2 => Δ.nx (δ.set i (some z)) μ2
theorem ms_aug {op : Operator} {r : DR2} (c : Ctx X W m) (i : Nat) {x : Str} (ho : OpD X (inplaceOp op) r) (ha : ME X W e ma) (hi : X.N[i]? = some x := by rfl) (hx : Loc X.env.scope x := by first | exact Or.inl rfl | exact Or.inr rfl) (hf : X.fn x = true ∨ X.env.scope.names.lookup x = some .local := by first | exact .inl rfl | exact .inr rfl | assumption) :
    MS X W (.AugAssign (.Name x px) op e pos) (mAug i r ma) :=
  ms_of (ps_aug (ti := upR2 X.K r) c.nd hi hx ha ho hf) fun E σ H ⟨δ, μ, Δ, st, rp, h, L⟩ => by
    obtain ⟨d, ed, h⟩ := h
    obtain ⟨v, ev, dv⟩ := st.2 i d ed
    exact ⟨v, ev, δ, μ, Δ.ex, _, st, rp, h, L.xl st, fun f μ1 w H1 h1 t1 d1 r1 => ⟨d, f, μ1, _, dv.keep t1, d1, r1, h1, fun z μ2 u H2 h2 t2 d2 r2 => L.nx _ _ _ _ h2 (t1.trans t2) ((st.keep (t1.trans t2)).set d2) r2⟩⟩
end
end DL

set_option Elab.async false
set_option linter.all false
set_option maxRecDepth 100000
set_option maxHeartbeats 1000000
/-! The D-layer, part 7: loops, comprehensions, defs. -/
namespace DL
open PySem PySem.Spec PyProof.Rows L2
/-- o[i] of a list or a dict, by values -/
def getLD : DR2 := fun o i μ R => (∃ a ds k d, o = .ref a ∧ LsM μ a ds ∧ i = .int k ∧ atI ds k = some d ∧ R d μ) ∨ ∃ a kvs k d, o = .ref a ∧ μ a = some (.dic kvs) ∧ i = keyD k ∧ valD kvs k = some d ∧ R d μ
section
variable {X : Cx} {W : WX} {m : Nat} {a b e o i : Expr} {es : List Expr} {ma mb mo mi me : DE} {mr : DA} {pos p px py pz pt tpos : Pos} {st : Stmt} {sts : List Stmt} {tb : DS}
theorem get_D (c : Ctx X W m) : PGet X (upR2 X.K getLD) := by
  intro pins s σ H o i ov iv Q I ro ri ⟨dx, dy, μ, R, d1, d2, rp, h, q⟩
  rcases h with ⟨a, ds, k, d, rfl, e, rfl, e1, hq⟩ | ⟨a, kvs, k, d, rfl, e, rfl, e1, hq⟩
  · rw [Den.ref.mp d1] at ro
    obtain rfl : ov = Value.ref _ := ro
    rw [Den.int.mp d2] at ri
    obtain ⟨t, rfl⟩ := ri
    obtain ⟨xs, g, f⟩ := rp.ls e
    obtain ⟨z, ez, dz⟩ := f.atI e1
    obtain ⟨its, r, pl, hz⟩ := I.list g
    obtain ⟨j, h1, h2, h3, h4, h5⟩ := atI_get ez
    obtain ⟨w, ew, rw'⟩ := r.get h2
    have hl := r.length
    have hn := line63
    have fin : EP X pins σ Q w s := ⟨z, H, I, rw', q _ _ _ _ hq (TK.refl H) dz rp⟩
    by_cases h0 : 0 ≤ k
    · have hj : k.toNat = j := by
        rw [seqIndex_of h0 h5] at h1
        exact Option.some.inj h1
      exact wpAny_getItem_list pl.isList h0 (by omega) (by rw [hj]; simpa using ew) fin
    · have hj : (k + (its.toArray.size : Int)).toNat = j := by
        rw [seqIndex_neg (by omega) h4] at h1
        rw [List.size_toArray, ← hl]
        exact Option.some.inj h1
      exact wpAny_getItem_list_neg pl.isList (by omega) (by rw [List.size_toArray] <;> omega) (by omega) (by rw [hj]; simpa using ew) fin
  · rw [Den.ref.mp d1] at ro
    obtain rfl : ov = Value.ref _ := ro
    rw [den_key d2] at ri
    obtain ⟨qs, g, f⟩ := rp.dic e
    obtain ⟨z, ez, dz⟩ := (f.val k).1 d e1
    exact d_getItem (v := z) c.hu1 I (by have y := DGet.k (k := k) g; rw [ez] at y; exact y) ri fun w' s' I' r' => ⟨z, H, I', r', q _ _ _ _ hq (TK.refl H) dz rp⟩
def mAugS (mo mi : DE) (r : DR2) (ma : DE) : DS := fun Δ δ μ => mo δ μ Δ.ex fun o μ1 => mi δ μ1 Δ.ex fun i μ2 => getLD o i μ2 fun x μ3 => ma δ μ3 Δ.ex fun y μ4 => r x y μ4 fun z μ5 => setD o i z μ5 fun μ6 => Δ.nx δ μ6
theorem ms_augS {op : Operator} {r : DR2} (c : Ctx X W m) (hop : OpD X (inplaceOp op) r) (ho : ME X W o mo) (hi : ME X W i mi) (he : ME X W e ma)
    (ha : ∀ ov iv new, augStore i ov iv new = (do holding [new, ov, iv] (setItem ov iv new); release [new, ov, iv] []; pure .next) := by intros; rfl) : MS X W (.AugAssign (.Subscript o i tpos) op e pos) (mAugS mo mi r ma) :=
  ms_of (ps_augS (tip := upR2 X.K r) ho hi (get_D c) he hop (set_D c) ha) fun E σ H ⟨δ, μ, Δ, st, rp, h, L⟩ => ⟨δ, μ, Δ.ex, _, st, rp, h, L.xl st, fun x μ1 v1 H1 h1 t1 d1 r1 => ⟨δ, μ1, Δ.ex, _, st.keep t1, r1, h1, (L.xl st).keep t1, fun y μ2 v2 H2 h2 t2 d2 r2 =>
    ⟨x, y, μ2, _, d1.keep t2, d2, r2, h2, fun z μ3 v3 H3 h3 t3 d3 r3 => ⟨δ, μ3, Δ.ex, _, st.keep (t1.trans (t2.trans t3)), r3, h3, (L.xl st).keep (t1.trans (t2.trans t3)), fun f μ4 v4 H4 h4 t4 d4 r4 =>
      ⟨z, f, μ4, _, d3.keep t4, d4, r4, h4, fun g μ5 v5 H5 h5 t5 d5 r5 => ⟨x, y, g, μ5, _, d1.keep (t2.trans (t3.trans (t4.trans t5))), d2.keep (t3.trans (t4.trans t5)), d5, r5, h5, fun μ6 H6 h6 t6 r6 =>
        have tt := t1.trans (t2.trans (t3.trans (t4.trans (t5.trans t6))))
        L.nx _ _ _ _ h6 tt (st.keep tt) r6⟩⟩⟩⟩⟩⟩

/-! ### for -/
def forD (g : DG) (tb : DS) (Δ : DEnds) (G : Mu → Prop) : List D → DSt → Mu → Prop
  | [], δ, μ => G μ ∧ Δ.nx δ μ
  | d :: ds, δ, μ => G μ ∧ g d δ μ fun δ2 μ2 => tb { Δ with nx := forD g tb Δ G ds, ct := forD g tb Δ G ds, bk := Δ.nx } δ2 μ2
theorem forD_G {g : DG} {Δ : DEnds} {G : Mu → Prop} {ds : List D} {δ : DSt} {μ : Mu} (h : forD g tb Δ G ds δ μ) : G μ := by
  cases ds <;> exact h.1
def mFor (it : DI) (g : DG) (tb : DS) : DS := fun Δ δ μ => it δ μ Δ.ex fun ds G μ1 => forD g tb Δ G ds δ μ1
theorem ms_for {is : List Nat} {tg iter : Expr} {body : List Stmt} {it : DI} {g : DG} (c : Ctx X W m) (hi : MI X W tg iter it) (hg : MG X is tg g) (hb : MSs X W body tb) (hs : ∀ x, foldedSetIterable iter X.env x = pure x := by intro _; rfl) : MS X W (.For tg iter body [] pos) (mFor it g tb) :=
  ms_of (ps_for c.po c.calm hi hg hb hs) fun E σ H ⟨δ, μ, Δ, st, rp, h, L⟩ => ⟨δ, μ, Δ.ex, _, st, rp, h, L.xl st, fun ds G μ1 H1 J h1 t1 r1 wd => by
    refine for_it wd (fun i σ H => TK H1 H ∧ ∃ δ μ, Sts X.K H δ σ ∧ Rep X.K H μ ∧ forD g tb Δ G (ds.drop i) δ μ) ⟨TK.refl _, δ, μ1, st.keep t1, r1, by simpa using h1⟩ (fun i σ H _ ⟨t, δ, μ, _, r, f⟩ => ⟨t, μ, r, forD_G f⟩) ?_ ?_
    · rintro i x σ H H' hi ⟨t, δ, μ, st, r, f⟩ ⟨t', rr, d, ed, dd⟩
      have hd : ds.drop i = d :: ds.drop (i + 1) := by
        have hl : i < ds.length := hi
        rw [List.getElem?_eq_getElem hl] at ed
        cases ed
        exact (List.drop_eq_getElem_cons hl)
      rw [hd] at f
      refine ⟨δ, μ, d, _, st.keep t', rr μ r, dd, f.2, fun δ2 μ2 σ2 H2 h2 t2 st2 r2 _ => ?_⟩
      have tt := t.trans (t'.trans t2)
      have L2 := L.keep (t1.trans tt)
      refine ⟨δ2, μ2, _, st2, r2, h2, ⟨fun δ3 μ3 σ3 H3 h3 t3 st3 r3 => ⟨tt.trans t3, δ3, μ3, st3, r3, h3⟩, L2.rt, fun δ3 μ3 σ3 H3 h3 t3 st3 r3 => L2.nx _ _ _ _ h3 t3 st3 r3, fun δ3 μ3 σ3 H3 h3 t3 st3 r3 => ⟨tt.trans t3, δ3, μ3, st3, r3, h3⟩, L2.ex⟩⟩
    · rintro σ H ⟨t, δ, μ, st, r, f⟩
      have hd : ds.drop ds.length = [] := List.drop_length
      rw [hd] at f
      exact L.nx _ _ _ _ f.2 (t1.trans t) st r⟩
/-! ### while -/
def mWhile (cd : DT) (tb : DS) : DS := fun Δ δ μ => ∃ V : Nat → DSt → Mu → Prop, (∃ k, V k δ μ) ∧ ∀ k δ μ, V k δ μ → cd δ μ Δ.ex fun b μ1 =>
  if b = true then tb { Δ with nx := fun δ' μ' => ∃ k', k' < k ∧ V k' δ' μ', ct := fun δ' μ' => ∃ k', k' < k ∧ V k' δ' μ', bk := Δ.nx } δ μ1 else Δ.nx δ μ1
theorem ms_while {cd : Expr} {body : List Stmt} {tc : DT} (c : Ctx X W m) (hc : MT X W cd tc) (hb : MSs X W body tb) : MS X W (.While cd body [] pos) (mWhile tc tb) :=
  ms_of (ps_while c.po hc hb) fun E σ H ⟨δ, μ, Δ, st, rp, ⟨V, ⟨k0, v0⟩, hV⟩, L⟩ => by
    refine ⟨fun k σ' H' => TK H H' ∧ ∃ δ μ, Sts X.K H' δ σ' ∧ Rep X.K H' μ ∧ V k δ μ, ⟨k0, TK.refl H, δ, μ, st, rp, v0⟩, ?_⟩
    rintro k σ1 H1 ⟨t1, δ1, μ1, st1, r1, v1⟩
    have L1 := L.keep t1
    refine ⟨δ1, μ1, Δ.ex, _, st1, r1, hV _ _ _ v1, L1.xl st1, fun b μ2 H2 h2 t2 r2 => ?_⟩
    have L2 := L1.keep t2
    cases b with
    | true =>
      refine ⟨fun σ' H' => ∃ k', k' < k ∧ TK H H' ∧ ∃ δ μ, Sts X.K H' δ σ' ∧ Rep X.K H' μ ∧ V k' δ μ, fun σ' H' z => z, δ1, μ2, _, st1.keep t2, r2, h2, ⟨?_, L2.rt, fun δ3 μ3 σ3 H3 h3 t3 st3 r3 => L2.nx _ _ _ _ h3 t3 st3 r3, ?_, L2.ex⟩⟩
      · rintro δ3 μ3 σ3 H3 ⟨k', hk, v3⟩ t3 st3 r3
        exact ⟨k', hk, t1.trans (t2.trans t3), δ3, μ3, st3, r3, v3⟩
      · rintro δ3 μ3 σ3 H3 ⟨k', hk, v3⟩ t3 st3 r3
        exact ⟨k', hk, t1.trans (t2.trans t3), δ3, μ3, st3, r3, v3⟩
    | false => exact L1.nx _ _ _ _ h2 t2 (st1.keep t2) r2

/-! ### comprehensions -/
theorem wipe_in {σ : L2.St} {i : Nat} : ∀ {vs : List Nat}, i ∈ vs → (wipe σ vs)[i]? = if i < σ.length then some none else none
  | v :: vs, h => by
    unfold wipe
    by_cases e : v = i
    · subst e
      by_cases hl : v < σ.length
      · rw [List.getElem?_set_self (by rw [wipe_length]; exact hl), if_pos hl]
      · rw [List.getElem?_eq_none (by rw [List.length_set, wipe_length]; omega), if_neg hl]
    · rw [List.getElem?_set_ne e]
      have h2 : i ∈ vs := by
        rcases List.mem_cons.mp h with z | z
        · exact absurd z.symm e
        · exact z
      exact wipe_in h2
theorem wipe_wipe (σ : L2.St) (vs : List Nat) : wipe (wipe σ vs) vs = wipe σ vs := by
  apply List.ext_getElem?
  intro i
  by_cases h : i ∈ vs
  · rw [wipe_in h, wipe_in h, wipe_length]
  · rw [wipe_out h]
def wipeD (δ : DSt) : List Nat → DSt
  | [] => δ
  | v :: vs => (wipeD δ vs).set v none
theorem Sts.wipe {K : PySem.W.Frag} {H : Hp} {δ : DSt} {σ : L2.St} (h : Sts K H δ σ) : ∀ vs : List Nat, Sts K H (wipeD δ vs) (wipe σ vs)
  | [] => h
  | v :: vs => (Sts.wipe h vs).unset
def MTs (X : Cx) (W : WX) (ifs : List Expr) (t : DT) : Prop := PTs X ifs (upT X.K W t)
theorem PTs.imp {X : Cx} {e : List Expr} {t t' : TT} (h : PTs X e t) (i : ∀ σ H Q, t' σ H Q → t σ H Q) : PTs X e t' := ⟨fun pins s σ H Q I h' => h.run pins s σ H Q I (i _ _ _ h')⟩
def mYes : DT := fun _ μ _ R => R true μ
theorem mts_nil : MTs X W [] mYes := PTs.imp pts_nil fun σ H Q ⟨δ, μ, RX, R, st, rp, h, xl, q⟩ => q true μ H h (TK.refl H) rp
theorem mts_one {cd : Expr} {t : DT} (h : MT X W cd t) : MTs X W [cd] t := pts_one h
def lcD (g : DG) (tt : DT) (te : DE) (G : Mu → Prop) (D0 : Addr) (R : Mu → Prop) (δ0 : DSt) : List D → List D → Mu → Prop
  | [], acc, μ => G μ ∧ R μ
  | d :: ds, acc, μ => G μ ∧ g d δ0 μ fun δ2 μ2 => tt δ2 μ2 RX0 fun b μ3 => if b = true then te δ2 μ3 RX0 fun y μ4 => μ4 D0 = some (.lst acc) ∧ acc.length < sizeLine ∧ lcD g tt te G D0 R δ0 ds (acc ++ [y]) (updM μ4 D0 (.lst (acc ++ [y])))
      else lcD g tt te G D0 R δ0 ds acc μ3
theorem lcD_G {g : DG} {tt : DT} {te : DE} {G : Mu → Prop} {D0 : Addr} {R : Mu → Prop} {δ0 : DSt} {ds acc : List D} {μ : Mu} (h : lcD g tt te G D0 R δ0 ds acc μ) : G μ := by
  cases ds <;> exact h.1
def mLc (it : DI) (g : DG) (tt : DT) (te : DE) (vs : List Nat) : DE := fun δ μ RX R => it δ μ RX fun ds G μ1 => ∀ D0, μ1 D0 = none → lcD g tt te G D0 (R (.ref D0)) (wipeD δ vs) ds [] (updM μ1 D0 (.lst []))
theorem lc_up {is : List Nat} {it : DI} {g : DG} {tt : DT} {te : DE} {vs : List Nat} {σ : L2.St} {H : Hp} {Q : VK} {K : PySem.W.Frag} (hv : ∀ i ∈ is, i ∈ vs) (h : upE K W (mLc it g tt te vs) σ H Q) : tLc (upI K W it) (upG K is g) (upT K W0 tt) (upE K W0 te) vs σ H Q := by
  obtain ⟨δ, μ, RX, R, st, rp, h, xl, q⟩ := h
  refine ⟨δ, μ, RX, _, st, rp, h, xl, fun ds G μ1 H1 J h1 t1 r1 wd D0 hD => ?_⟩
  have tD : TK H1 (upd H1 D0 (.lst [])) := TK.new hD
  refine lc_it wd (fun i H => TK H1 H ∧ ∃ acc μ, Rep K H μ ∧ lcD g tt te G D0 (R (.ref D0)) (wipeD δ vs) (ds.drop i) acc μ) ⟨tD, [], _, r1.newLst hD (Dens.nil.mpr rfl), by simpa using h1 D0 (r1.none hD)⟩ (fun i H _ ⟨t, acc, μ, r, f⟩ => ⟨t, μ, r, lcD_G f⟩) ?_ ?_
  · rintro i x H2 H3 hi ⟨t, acc, μ2, r, f⟩ ⟨t', rr, d, ed, dd⟩
    have hd : ds.drop i = d :: ds.drop (i + 1) := by
      have hl : i < ds.length := hi
      rw [List.getElem?_eq_getElem hl] at ed
      cases ed
      exact (List.drop_eq_getElem_cons hl)
    rw [hd] at f
    have tt1 := t1.trans (t.trans t')
    refine ⟨wipeD δ vs, μ2, d, _, (st.keep tt1).wipe vs, rr μ2 r, dd, f.2, fun δ4 μ4 σ4 H4 h4 t4 st4 r4 fr => ⟨?_, ?_⟩⟩
    · rw [fr vs hv]
      exact (wipe_wipe σ vs)
    · refine ⟨δ4, μ4, RX0, _, st4, r4, h4, XL.no, fun b μ5 H5 h5 t5 r5 => ?_⟩
      cases b with
      | false => exact ⟨t.trans (t'.trans (t4.trans t5)), acc, μ5, r5, h5⟩
      | true =>
        refine ⟨δ4, μ5, RX0, _, st4.keep t5, r5, h5, XL.no, fun y μ6 v6 H6 h6 t6 d6 r6 => ?_⟩
        obtain ⟨e6, hl, h7⟩ := h6
        obtain ⟨ws, g6, f6⟩ := r6.lst e6
        exact ⟨ws, g6, by rw [← f6.length]; exact hl, t.trans (t'.trans (t4.trans (t5.trans (t6.trans (TK.lst g6))))), acc ++ [y], _, r6.setLst g6 (f6.app (Dens.mk d6 (Dens.nil.mpr rfl))), h7⟩
  · rintro H2 ⟨t, acc, μ2, r, f⟩
    have hd : ds.drop ds.length = [] := List.drop_length
    rw [hd] at f
    exact q _ _ _ _ f.2 (t1.trans t) (Den.ref.mpr rfl) r
theorem me_lc {is : List Nat} {it : DI} {g : DG} {tt : DT} {elt tg iter : Expr} {ifs : List Expr} {scope : Scope} {own : List (Str × Nat)} (c : Ctx X W m) (ok : BlkOk X.N X.env.scope scope own) (hi : MI X W tg iter it)
    (hg : ∀ (s : Shared) (H : Hp) (C : Addr) (cl : List (Str × Addr)) (fp : List Addr), MG (X.blk s H scope (compEnvC scope cl C X.env) fp) is tg g) (ht : ∀ (s : Shared) (H : Hp) (C : Addr) (cl : List (Str × Addr)) (fp : List Addr), MTs (X.blk s H scope (compEnvC scope cl C X.env) fp) W0 ifs tt)
    (he : ∀ (s : Shared) (H : Hp) (C : Addr) (cl : List (Str × Addr)) (fp : List Addr), ME (X.blk s H scope (compEnvC scope cl C X.env) fp) W0 elt me) (hv : ∀ i ∈ is, i ∈ own.map (·.2) := by decide) (hs : ∀ x, foldedSetIterable iter X.env x = pure x := by intro _; rfl) :
    ME X W (.ListComp elt [⟨tg, iter, ifs, 0⟩] scope pos) (mLc it g tt me (own.map (·.2))) :=
  me_of (pe_lc (wi := upI X.K W it) (g := upG X.K is g) (tt := upT X.K W0 tt) (te := upE X.K W0 me) c.calm c.nd hi ok hg ht he hs) fun σ H Q h => lc_up hv h
/-- name = [..] on one line -/
theorem ms_setLc {is : List Nat} {it : DI} {g : DG} {tt : DT} {elt tg iter : Expr} {ifs : List Expr} {scope : Scope} {own : List (Str × Nat)} (c : Ctx X W m) (i : Nat) {y : Str} {spos : Pos} (ok : BlkOk X.N X.env.scope scope own) (hi : MI X W tg iter it)
    (hg : ∀ (s : Shared) (H : Hp) (C : Addr) (cl : List (Str × Addr)) (fp : List Addr), MG (X.blk s H scope (compEnvC scope cl C X.env) fp) is tg g) (ht : ∀ (s : Shared) (H : Hp) (C : Addr) (cl : List (Str × Addr)) (fp : List Addr), MTs (X.blk s H scope (compEnvC scope cl C X.env) fp) W0 ifs tt)
    (he : ∀ (s : Shared) (H : Hp) (C : Addr) (cl : List (Str × Addr)) (fp : List Addr), ME (X.blk s H scope (compEnvC scope cl C X.env) fp) W0 elt me) (hy : X.N[i]? = some y := by rfl) (hyl : X.env.scope.names.lookup y = some .local := by rfl)
    (hsw : swapsWith (.ListComp elt [⟨tg, iter, ifs, 0⟩] scope pos) (some (.Name y py)) spos.line X.env = pure true := by rfl) (hv : ∀ i ∈ is, i ∈ own.map (·.2) := by decide) (hs : ∀ x, foldedSetIterable iter X.env x = pure x := by intro _; rfl) :
    MS X W (.Assign [.Name y py] (.ListComp elt [⟨tg, iter, ifs, 0⟩] scope pos) spos) (mSet i (mLc it g tt me (own.map (·.2)))) :=
  ms_of (ps_setLc (wi := upI X.K W it) (g := upG X.K is g) (tt := upT X.K W0 tt) (te := upE X.K W0 me) c.calm c.nd hy hyl hsw hi ok hg ht he hs) fun E σ H ⟨δ, μ, Δ, st, rp, h, L⟩ =>
    lc_up hv ⟨δ, μ, Δ.ex, _, st, rp, h, L.xl st, fun d μ1 v1 H1 h1 t1 d1 r1 => L.nx _ _ _ _ h1 t1 ((st.keep t1).set d1) r1⟩
/-- {k: v for ..} -/
def dcD (g : DG) (tt : DT) (tk te : DE) (G : Mu → Prop) (D0 : Addr) (R : Mu → Prop) (δ0 : DSt) : List D → List (Key × D) → Mu → Prop
  | [], acc, μ => G μ ∧ R μ
  | d :: ds, acc, μ => G μ ∧ g d δ0 μ fun δ2 μ2 => tt δ2 μ2 RX0 fun b μ3 => if b = true then tk δ2 μ3 RX0 fun y μ4 => te δ2 μ4 RX0 fun z μ5 => ∃ k, y = keyD k ∧ μ5 D0 = some (.dic acc) ∧ acc.length < sizeLine ∧ dcD g tt tk te G D0 R δ0 ds (putD acc k z) (updM μ5 D0 (.dic (putD acc k z)))
      else dcD g tt tk te G D0 R δ0 ds acc μ3
theorem dcD_G {g : DG} {tt : DT} {tk te : DE} {G : Mu → Prop} {D0 : Addr} {R : Mu → Prop} {δ0 : DSt} {ds : List D} {acc : List (Key × D)} {μ : Mu} (h : dcD g tt tk te G D0 R δ0 ds acc μ) : G μ := by
  cases ds <;> exact h.1
def mDc (it : DI) (g : DG) (tt : DT) (tk te : DE) (vs : List Nat) : DE := fun δ μ RX R => it δ μ RX fun ds G μ1 => ∀ D0, μ1 D0 = none → dcD g tt tk te G D0 (R (.ref D0)) (wipeD δ vs) ds [] (updM μ1 D0 (.dic []))
theorem Rep.newDic {K : PySem.W.Frag} {H : Hp} {μ : Mu} {p : Addr} (r : Rep K H μ) (h : H p = Option.none) : Rep K (upd H p (.dK [])) (updM μ p (.dic [])) := r.put (TK.new h) ⟨[], upd_same, .nil⟩
theorem Rep.setDic {K : PySem.W.Frag} {H : Hp} {μ : Mu} {p : Addr} {kvs : List (Key × D)} {qs ys : List (Key × V)} (r : Rep K H μ) (h : H p = some (.dK ys)) (d : DenKV K H kvs qs) : Rep K (upd H p (.dK qs)) (updM μ p (.dic kvs)) :=
  r.put (TK.dK h) ⟨_, upd_same, d.keep (TK.dK h)⟩
theorem me_dc {is : List Nat} {it : DI} {g : DG} {tt : DT} {mk : DE} {kx vx tg iter : Expr} {ifs : List Expr} {scope : Scope} {own : List (Str × Nat)} (c : Ctx X W m) (ok : BlkOk X.N X.env.scope scope own) (hi : MI X W tg iter it)
    (hg : ∀ (s : Shared) (H : Hp) (C : Addr) (cl : List (Str × Addr)) (fp : List Addr), MG (X.blk s H scope (compEnvC scope cl C X.env) fp) is tg g) (ht : ∀ (s : Shared) (H : Hp) (C : Addr) (cl : List (Str × Addr)) (fp : List Addr), MTs (X.blk s H scope (compEnvC scope cl C X.env) fp) W0 ifs tt)
    (hk : ∀ (s : Shared) (H : Hp) (C : Addr) (cl : List (Str × Addr)) (fp : List Addr), ME (X.blk s H scope (compEnvC scope cl C X.env) fp) W0 kx mk)
    (he : ∀ (s : Shared) (H : Hp) (C : Addr) (cl : List (Str × Addr)) (fp : List Addr), ME (X.blk s H scope (compEnvC scope cl C X.env) fp) W0 vx me) (hv : ∀ i ∈ is, i ∈ own.map (·.2) := by decide) (hs : ∀ x, foldedSetIterable iter X.env x = pure x := by intro _; rfl) :
    ME X W (.DictComp kx vx [⟨tg, iter, ifs, 0⟩] scope pos) (mDc it g tt mk me (own.map (·.2))) :=
  me_of (pe_dc (wi := upI X.K W it) (g := upG X.K is g) (tt := upT X.K W0 tt) (tk := upE X.K W0 mk) (tv := upE X.K W0 me) c.calm c.nd hi ok hg ht hk he hs) fun σ H Q ⟨δ, μ, RX, R, st, rp, h, xl, q⟩ => ⟨δ, μ, RX, _, st, rp, h, xl, fun ds G μ1 H1 J h1 t1 r1 wd D0 hD => by
    have tD : TK H1 (upd H1 D0 (.dK [])) := TK.new hD
    generalize own.map (·.2) = vs at h1 hv ⊢
    refine ⟨fun i k H => k = ds.length - i ∧ i ≤ ds.length ∧ TK H1 H ∧ ∃ acc μ, Rep X.K H μ ∧ dcD g tt mk me G D0 (R (.ref D0)) (wipeD δ vs) (ds.drop i) acc μ, ⟨ds.length, by simp, Nat.zero_le _, tD, [], _, r1.newDic hD, by simpa using h1 D0 (r1.none hD)⟩, ?_⟩
    rintro i k H2 ⟨rfl, hil, t, acc, μ2, r, f⟩
    have hG := dcD_G f
    by_cases hlt : i < ds.length
    · have hd : ds.drop i = ds[i] :: ds.drop (i + 1) := List.drop_eq_getElem_cons hlt
      refine .inr ⟨wd.goes i H2 hlt ⟨t, μ2, r, hG⟩, fun H' => TK H1 H' ∧ ∃ acc μ, Rep X.K H' μ ∧ dcD g tt mk me G D0 (R (.ref D0)) (wipeD δ vs) (ds.drop (i + 1)) acc μ, fun H' p' => ⟨ds.length - (i + 1), by omega, rfl, hlt, p'⟩, fun x H3 y => ?_⟩
      obtain ⟨t', rr, d, ed, dd⟩ := wd.yields i H2 x H3 hlt ⟨t, μ2, r, hG⟩ y
      rw [List.getElem?_eq_getElem hlt] at ed
      cases ed
      rw [hd] at f
      have tt1 := t1.trans (t.trans t')
      refine ⟨wipeD δ vs, μ2, _, _, (st.keep tt1).wipe vs, rr μ2 r, dd, f.2, fun δ4 μ4 σ4 H4 h4 t4 st4 r4 fr => ⟨?_, ?_⟩⟩
      · rw [fr vs hv]
        exact (wipe_wipe σ vs)
      · refine ⟨δ4, μ4, RX0, _, st4, r4, h4, XL.no, fun b μ5 H5 h5 t5 r5 => ?_⟩
        cases b with
        | false => exact ⟨t.trans (t'.trans (t4.trans t5)), acc, μ5, r5, h5⟩
        | true =>
          refine ⟨δ4, μ5, RX0, _, st4.keep t5, r5, h5, XL.no, fun y μ6 v6 H6 h6 t6 d6 r6 => ?_⟩
          refine ⟨δ4, μ6, RX0, _, st4.keep (t5.trans t6), r6, h6, XL.no, fun z μ7 v7 H7 h7 t7 d7 r7 => ?_⟩
          obtain ⟨k, rfl, e7, hl, h8⟩ := h7
          obtain ⟨qs, g7, f7⟩ := r7.dic e7
          have hl2 := f7.length
          exact ⟨qs, k, den_key d6, g7, by omega, t.trans (t'.trans (t4.trans (t5.trans (t6.trans (t7.trans (TK.dK g7)))))), putD acc k z, _, r7.setDic g7 (f7.put d7), h8⟩
    · have e : i = ds.length := by omega
      subst e
      have hd : ds.drop ds.length = [] := List.drop_length
      rw [hd] at f
      exact .inl ⟨wd.stops H2 ⟨t, μ2, r, hG⟩, q _ _ _ _ f.2 (t1.trans t) (Den.ref.mpr rfl) r⟩⟩

/-! ### defs -/
abbrev XF (P : Program) (w : World) (K : PySem.W.Frag) (mg : Str → Option Value) (base : Heap) (N : List Str) (qual : Str) (scope : Scope) (f : Addr) (cdv : Value) (A : Around) (outer : List Env) (s : Shared) (H : Hp) (E : XK) : Cx := cxOf (L2.CX P w) P w K mg base N qual scope f cdv A outer s H E
abbrev WF (E : XK) : WX := fun cls d _ H' => E cls d H'
def bodySp (n N : Nat) (t : DS) : DSp := fun ds μ RX R => ds.length = n ∧ t { nx := fun _ μ' => R .non μ', rt := R, ex := fun C fs _ μ' => RX C fs μ' } (ds.map some ++ List.replicate (N - n) none) μ
theorem fnOk_of {P : Program} {w : World} {K : PySem.W.Frag} {mg : Str → Option Value} {base : Heap} {x qual : Str} {params : Arguments} {body : List Stmt} {scope : Scope} {dvs : List V} {kws : List (Str × V)} {f : Addr} {fd : FuncData} {N ps : List Str} {m : Nat} {sp : DSp} {t : DS}
    (F : FunD K x qual params body scope dvs kws f fd) (S : FnScope N ps scope)
    (hb : ∀ cdv A outer s H E, Ctx (XF P w K mg base N qual scope f cdv A outer s H E) (WF E) m → MSs (XF P w K mg base N qual scope f cdv A outer s H E) (WF E) body t)
    (imp : ∀ ds μ RX R, sp ds μ RX R → bodySp ps.length N.length t ds μ RX R) : FnOk P w K mg base (L2.CX P w) (m + 2) f fd ps (upSp K sp) := by
  refine F.ok S (fun vs H Q E h => ?_) (fun cdv A outer s H vs Q E hr h => ⟨upS K (WF E) t, hb cdv A outer s H E ⟨rfl, L2.takes_of rfl rfl rfl rfl, L2.passes_of rfl, S.nd, hr⟩, ?_⟩)
  · obtain ⟨ds, μ, RX, R, dd, rp, h, q, xl⟩ := h
    rw [← dd.length]
    exact (imp _ _ _ _ h).1
  · obtain ⟨ds, μ, RX, R, dd, rp, h, q, xl⟩ := h
    obtain ⟨hl, h⟩ := imp _ _ _ _ h
    have st := Sts.start (N := N) dd
    rw [hl] at st
    exact ⟨_, μ, _, st, rp, h, ⟨fun _ μ' σ' H' h t _ r => q _ _ _ _ h t (Den.non.mpr rfl) r, fun d μ' v H' h t dv r => q _ _ _ _ h t dv r, fun _ _ _ _ h => h.elim, fun _ _ _ _ h => h.elim, fun C fs _ μ' d gs σ' H' h t _ r hd dk => xl _ _ _ _ _ _ h t r hd dk⟩⟩
theorem fnc_of {P : Program} {w : World} {K : PySem.W.Frag} {mg : Str → Option Value} {base : Heap} {x : Str} {params : Arguments} {body : List Stmt} {scope : Scope} {kws : List (Str × V)} {f : Addr} {fd : FuncData} {N ps : List Str} {m : Nat} {sp : DSp} {t : DS}
    (hm : mg x = some (.ref f)) (F : FunD K x x params body scope [] kws f fd) (S : FnScope N ps scope)
    (bd : ∀ (kV doc pm : Value) (an : Option Addr) (cdv ct : Value) (us : List Value), us.length = ps.length → bindArgs (PySem.W.fnOf x x params body scope .none kV doc pm an cdv ct) ⟨us, []⟩ = pure (ps.zip us))
    (hb : ∀ cdv A outer s H E, Ctx (XF P w K mg base N x scope f cdv A outer s H E) (WF E) m → MSs (XF P w K mg base N x scope f cdv A outer s H E) (WF E) body t)
    (imp : ∀ ds μ RX R, sp ds μ RX R → bodySp ps.length N.length t ds μ RX R) : Fnc P w K mg base x (m + 2) ps [] sp :=
  ⟨f, fd, [], [], hm, F.kp, F.bindsN bd, .nil, fun _ => Dens.nil.mpr rfl, fnOk_of F S hb imp⟩
end
end DL

set_option Elab.async false
set_option linter.all false
set_option maxRecDepth 100000
set_option maxHeartbeats 1000000
/-! The D-layer, part 8: displays of dicts, minus. -/
namespace DL
open PySem PySem.Spec PyProof.Rows L2
section
variable {X : Cx} {W : WX} {m : Nat} {a b e o i : Expr} {es : List Expr} {ma mb mo mi me : DE} {mr : DA} {pos p px py pz pt tpos : Pos}
def negD : DR1
  | .int i, μ, R => R (.int (-i)) μ
  | _, _, _ => False
theorem und_neg : UnR X (unaryOp .USub) (upR1 X.K negD) := by
  intro pins s σ H x v Q I rx ⟨dx, μ, R, d1, rp, h, q⟩
  unfold negD at h
  split at h
  · rw [Den.int.mp d1] at rx
    exact un_neg pins s σ H _ v Q I rx ⟨_, rfl, q _ _ _ _ h (TK.refl H) (Den.int.mpr rfl) rp⟩
  · exact h.elim
theorem me_neg (ha : ME X W a ma) : ME X W (.UnaryOp .USub a pos) (mUn negD ma) := me_un und_neg ha
/-- pairs of a display with text keys -/
def mPairs : List (Str × DE) → DSt → Mu → DX → (List (Key × D) → Mu → Prop) → Prop
  | [], _, μ, _, R => R [] μ
  | (k, t) :: r, δ, μ, RX, R => t δ μ RX fun y μ1 => mPairs r δ μ1 RX fun ps μ2 => R ((.inr k, y) :: ps) μ2
def MPs (X : Cx) (W : WX) (pos : Pos) (keys : List (Option Expr)) (vals : List Expr) (ps : List (Str × DE)) : Prop :=
  ∃ trs, PPs X pos keys vals trs ∧ ∀ σ H (Q : List (V × V) → Hp → Prop) δ μ RX R, Sts X.K H δ σ → Rep X.K H μ → mPairs ps δ μ RX R → XL X.K W σ δ H RX →
    (∀ kvs μ' H' qs, R kvs μ' → TK H H' → Rep X.K H' μ' → DenKV X.K H' kvs qs → Q (qs.map fun kv => (kV kv.1, kv.2)) H') → tPairs trs σ H Q
theorem mps_nil : MPs X W pos [] [] [] := ⟨[], pps_nil, fun σ H Q δ μ RX R st rp h xl q => q [] μ H [] h (TK.refl H) rp .nil⟩
theorem mps_cons {k : Str} {j : Nat} {p : Pos} {ks : List (Option Expr)} {v : Expr} {vs : List Expr} {r : List (Str × DE)} (hv : ME X W v ma) (hr : MPs X W pos ks vs r) : MPs X W pos (some (.Constant (.str k) j p) :: ks) (v :: vs) ((k, ma) :: r) := by
  obtain ⟨trs, h1, h2⟩ := hr
  refine ⟨_, pps_cons pe_str hv h1, fun σ H Q δ μ RX R st rp h xl q => ?_⟩
  exact ⟨δ, μ, RX, _, st, rp, h, xl, fun y μ1 v1 H1 g1 t1 d1 r1 => h2 σ H1 _ δ μ1 RX _ (st.keep t1) r1 g1 (xl.keep t1) fun kvs μ' H' qs g2 t2 r2 dk => q _ μ' H' ((.inr k, v1) :: qs) g2 (t1.trans t2) r2 (.cons ⟨rfl, d1.keep t2⟩ dk)⟩
def mergeD (kvs more : List (Key × D)) : List (Key × D) := more.foldl (fun acc kv => putD acc kv.1 kv.2) kvs
theorem DenKV.merge {K : PySem.W.Frag} {H : Hp} {more : List (Key × D)} {qs : List (Key × V)} (h : DenKV K H more qs) : ∀ {kvs : List (Key × D)} {rs : List (Key × V)}, DenKV K H kvs rs → DenKV K H (mergeD kvs more) (mergeK rs qs) := by
  unfold DenKV at h
  induction h with
  | nil => intro _ _ g; exact g
  | @cons p q ps qs hp t ih =>
    intro kvs rs g
    have e := g.put (k := p.1) hp.2
    rw [show putK rs p.1 q.2 = putK rs q.1 q.2 from by rw [hp.1]] at e
    exact ih e
def mDisp (ps : List (Str × DE)) : DE := fun δ μ RX R => ∀ p, μ p = none → mPairs ps δ (updM μ p (.dic [])) RX fun kvs μ2 => μ2 p = some (.dic []) ∧ kvs.length ≤ 15 ∧ R (.ref p) (updM μ2 p (.dic (mergeD [] kvs)))
theorem me_disp {ks : List (Option Expr)} {vs : List Expr} {ps : List (Str × DE)} (h : MPs X W pos ks vs ps) (hall : ks.all (·.isSome) = true := by rfl) (hl : ks.length = vs.length := by rfl) (h0 : ks ≠ [] := by intro z; cases z)
    (h15 : ks.length ≤ 15 := by decide) : ME X W (.Dict ks vs pos) (mDisp ps) := by
  obtain ⟨trs, h1, h2⟩ := h
  refine me_of (pe_disp h1 hall hl h0 h15) fun σ H Q ⟨δ, μ, RX, R, st, rp, hm, xl, q⟩ => fun p hp => ?_
  have t0 : TK H (upd H p (.dK [])) := TK.new hp
  refine h2 σ _ _ δ _ RX _ (st.keep t0) (rp.newDic hp) (hm p (rp.none hp)) (xl.keep t0) fun kvs μ' H' qs g t r dk => ?_
  obtain ⟨e, hl, hq⟩ := g
  obtain ⟨q0, g0, f0⟩ := r.dic e
  cases f0
  exact ⟨g0, qs, rfl, by rw [← dk.length]; exact hl, q _ _ _ _ hq (t0.trans (t.trans (TK.dK g0))) (Den.ref.mpr rfl) (r.setDic g0 (dk.merge .nil))⟩
end
end DL

set_option Elab.async false
set_option linter.all false
set_option maxRecDepth 100000
set_option maxHeartbeats 1000000
/-! The D-layer, part 9: calls with keywords. -/
namespace DL
open PySem PySem.Spec PyProof.Rows L2
def ord {α : Type} (ix : List Nat) (ws : List α) : List α := ix.filterMap fun i => ws[i]?
/-- a def of the module called with n positional values and keywords ks -/
def FncK (P : Program) (w : World) (K : PySem.W.Frag) (mg : Str → Option Value) (base : Heap) (x : Str) (k : Nat) (ps : List Str) (n : Nat) (ks : List Str) (ix : List Nat) (sp : DSp) : Prop :=
  ∃ (f : Addr) (fd : FuncData), mg x = some (.ref f) ∧ PySem.W.keepIn K (.ref f) = true ∧ (∀ (s : Shared) (us ws : List Value), us.length = n → ws.length = ks.length → BindsTo s fd ⟨us, ks.zip ws⟩ (ps.zip (us ++ ord ix ws))) ∧ FnOk P w K mg base (L2.CX P w) k f fd ps (upSp K sp)
theorem ord_vals {vs : List V} {us : List Value} (h : Vals vs us) : ∀ ix : List Nat, Vals (ord ix vs) (ord ix us)
  | [] => .nil
  | i :: r => by
    have ih := ord_vals h r
    unfold ord at ih ⊢
    rw [List.filterMap_cons, List.filterMap_cons]
    have hl := h.length
    by_cases hi : i < vs.length
    · obtain ⟨u, hu, ru⟩ := h.get (List.getElem?_eq_getElem hi)
      rw [List.getElem?_eq_getElem hi, hu]
      exact .cons ru ih
    · rw [List.getElem?_eq_none (by omega), List.getElem?_eq_none (by omega)]
      exact ih
theorem ord_dens {K : PySem.W.Frag} {H : Hp} {ds : List D} {vs : List V} (h : Dens K H ds vs) : ∀ ix : List Nat, Dens K H (ord ix ds) (ord ix vs)
  | [] => Dens.nil.mpr rfl
  | i :: r => by
    have ih := ord_dens h r
    unfold ord at ih ⊢
    rw [List.filterMap_cons, List.filterMap_cons]
    have hl := h.length
    by_cases hi : i < ds.length
    · obtain ⟨u, hu, ru⟩ := h.get (List.getElem?_eq_getElem hi)
      rw [List.getElem?_eq_getElem hi, hu]
      exact Dens.mk ru ih
    · rw [List.getElem?_eq_none (by omega), List.getElem?_eq_none (by omega)]
      exact ih
section
variable {X : Cx} {W : WX} {m : Nat} {a b e o i : Expr} {es : List Expr} {ma mb mo mi me : DE} {mr mk : DA} {pos p kpos : Pos} {kws : List Keyword} {nm : Option Str}
def MK (X : Cx) (W : WX) (kws : List Keyword) (m : DA) : Prop := PK X kws (upA X.K W m)
theorem PK.imp {kws : List Keyword} {t t' : TA} (h : PK X kws t) (i : ∀ σ H Q, t' σ H Q → t σ H Q) : PK X kws t' := ⟨fun pos pins s σ H Q I h' => h.run pos pins s σ H Q I (i _ _ _ h')⟩
theorem mk_nil : MK X W [] mNil := PK.imp pk_nil fun σ H Q ⟨δ, μ, RX, R, st, rp, hm, xl, q⟩ => q [] μ [] H hm (TK.refl H) (Dens.nil.mpr rfl) rp
theorem mk_cons (ha : ME X W e ma) (hr : MK X W kws mr) : MK X W (⟨nm, e, kpos⟩ :: kws) (mCons ma mr) :=
  PK.imp (pk_cons ha hr) fun σ H Q ⟨δ, μ, RX, R, st, rp, hm, xl, q⟩ => ⟨δ, μ, RX, _, st, rp, hm, xl, fun x μ1 v1 H1 h1 t1 d1 r1 => ⟨δ, μ1, RX, _, st.keep t1, r1, h1, xl.keep t1, fun xs μ2 vs H2 h2 t2 d2 r2 =>
    q (x :: xs) μ2 _ H2 h2 (t1.trans t2) (Dens.mk (d1.keep t2) d2) r2⟩⟩
def mCallK (sp : DSp) (n k : Nat) (ix : List Nat) (t tk : DA) : DE := fun δ μ RX R => t δ μ RX fun ds μ1 => tk δ μ1 RX fun zs μ2 => (ds.length = n ∧ zs.length = k) ∧ sp (ds ++ ord ix zs) μ2 (fun C fs μ' => RX C fs δ μ') R
theorem run_kw {pins : List (Addr × Obj)} {σ : L2.St} {H : Hp} {s : Shared} {Q : VK} {us ws : List Value} {vs zs : List V} {CX : CXT} {k n : Nat} {f : Addr} {fd : FuncData} {ps ks : List Str} {ix : List Nat} {sp : Sp} {E : XK} (F : FnOk X.prog X.w X.K X.mg X.base CX k f fd ps sp) (hr : Room k X.A)
    (hb : ∀ (s : Shared) (us ws : List Value), us.length = n → ws.length = ks.length → BindsTo s fd ⟨us, ks.zip ws⟩ (ps.zip (us ++ ord ix ws))) (hx : PassesAt CX X σ E)
    (I : Inv X pins σ H s) (r : Vals vs us) (rz : Vals zs ws) (l1 : vs.length = n) (l2 : zs.length = ks.length) (h : sp (vs ++ ord ix zs) H Q E) : wpAny (model X.prog X.w) X.A (call (.ref f) us (ks.zip ws)) (EP X pins σ Q) X.xe s := by
  have r2 := r.append (ord_vals rz ix)
  refine wpAny_call (codeAny_mono (F.run X.A X.stack s H ⟨us, ks.zip ws⟩ (us ++ ord ix ws) (vs ++ ord ix zs) Q E hr I.env0 (hb s us ws (r.length.symm.trans l1) (rz.length.symm.trans l2)) r2 h) fun r s' hq => ?_)
  cases r with
  | error e => exact hx pins H s e s' I hq
  | ok fl =>
    cases fl with
    | ret u => exact I.after hq
    | next => exact False.elim hq
    | brk => exact False.elim hq
    | cont => exact False.elim hq
def tCallKS (sp : Sp) (n k : Nat) (ix : List Nat) (E : L2.St → XK) (t tk : TA) : TE := fun σ H Q => t σ H fun vs H1 => tk σ H1 fun zs H2 => (vs.length = n ∧ zs.length = k) ∧ sp (vs ++ ord ix zs) H2 Q (E σ)
variable {x : Str} {k n : Nat} {f : Addr} {fd : FuncData} {ps ks : List Str} {ix : List Nat}
theorem pe_callKS0 {CX : CXT} {sp : Sp} {E : L2.St → XK} {tk : TA} (F : FnOk X.prog X.w X.K X.mg X.base CX k f fd ps sp) (hr : Room k X.A) (hg : Gl X x) (hm : X.mg x = some (.ref f)) (hkp : PySem.W.keepIn X.K (.ref f) = true)
    (hb : ∀ (s : Shared) (us ws : List Value), us.length = 0 → ws.length = ks.length → BindsTo s fd ⟨us, ks.zip ws⟩ (ps.zip (us ++ ord ix ws))) (hx : ∀ σ, PassesAt CX X σ (E σ)) (hkw : PK X kws tk)
    (hall : (backToKw pos (keywordEach kws X.env)).all (·.1.isSome) = true := by rfl) (hks : (backToKw pos (keywordEach kws X.env)).filterMap (·.1) = ks := by rfl) (hdb : (x == ("__debug__" : Str)) = false := by decide)
    (hpl : ((backTo pos (starEach [] X.env)).any (·.1) || (backToKw pos (keywordEach kws X.env)).any (·.1.isNone)) = false := by rfl) : PE X (.Call (.Name x p) [] kws pos) (tCallKS sp 0 ks.length ix E tNil tk) := by
  refine ⟨fun pins s σ H Q I h => ?_⟩
  refine wpAny_Call_Name_kw (ld_glob I hg hm ?_ hdb)
  refine PySem.W.callWith_KW0 (h₀ := X.base) I.ok.mod.kin hkp hall ?_ hpl
  refine thn (hkw.run pos pins s σ H _ I h) fun ws s2 ⟨zv, H2, I2, rz, h2, h3⟩ => ⟨I2.kIn, ?_⟩
  rw [hks]
  exact run_kw (us := []) (vs := []) F hr hb (hx σ) I2 .nil rz rfl h2.2 h3
theorem pe_callKS {CX : CXT} {sp : Sp} {E : L2.St → XK} {t tk : TA} (F : FnOk X.prog X.w X.K X.mg X.base CX k f fd ps sp) (hr : Room k X.A) (hg : Gl X x) (hm : X.mg x = some (.ref f)) (hkp : PySem.W.keepIn X.K (.ref f) = true)
    (hb : ∀ (s : Shared) (us ws : List Value), us.length = n → ws.length = ks.length → BindsTo s fd ⟨us, ks.zip ws⟩ (ps.zip (us ++ ord ix ws))) (hx : ∀ σ, PassesAt CX X σ (E σ)) (ha : PA X (e :: es) t) (hkw : PK X kws tk)
    (hall : (backToKw pos (keywordEach kws X.env)).all (·.1.isSome) = true := by rfl) (hks : (backToKw pos (keywordEach kws X.env)).filterMap (·.1) = ks := by rfl) (hdb : (x == ("__debug__" : Str)) = false := by decide)
    (he : starEach (e :: es) X.env = (false, eval e X.env) :: starEach es X.env := by rfl)
    (hpl : ((backTo pos (starEach (e :: es) X.env)).any (·.1) || (backToKw pos (keywordEach kws X.env)).any (·.1.isNone)) = false := by rfl) : PE X (.Call (.Name x p) (e :: es) kws pos) (tCallKS sp n ks.length ix E t tk) := by
  refine ⟨fun pins s σ H Q I h => ?_⟩
  refine wpAny_Call_Name_kw (ld_glob I hg hm ?_ hdb)
  refine PySem.W.callWith_KW (h₀ := X.base) I.ok.mod.kin hkp hall (thn (ha.run pos pins s σ H _ I h) fun us s1 ⟨vs, H1, I1, r, q1⟩ => ?_) hpl he
  refine thn (hkw.run pos pins s1 σ H1 _ I1 q1) fun ws s2 ⟨zv, H2, I2, rz, h2, h3⟩ => ⟨I2.kIn, ?_⟩
  rw [hks]
  exact run_kw F hr hb (hx σ) I2 r rz h2.1 h2.2 h3
/-- f(k = v, ..) -/
theorem me_callK0 {sp : DSp} (c : Ctx X W m) (F : FncK X.prog X.w X.K X.mg X.base x k ps 0 ks ix sp) (hkw : MK X W kws mk) (hk : k ≤ m + 1 := by decide) (hg : Gl X x := by rfl)
    (hall : (backToKw pos (keywordEach kws X.env)).all (·.1.isSome) = true := by rfl) (hks : (backToKw pos (keywordEach kws X.env)).filterMap (·.1) = ks := by rfl) (hdb : (x == ("__debug__" : Str)) = false := by decide)
    (hpl : ((backTo pos (starEach [] X.env)).any (·.1) || (backToKw pos (keywordEach kws X.env)).any (·.1.isNone)) = false := by rfl) : ME X W (.Call (.Name x p) [] kws pos) (mCallK sp 0 ks.length ix mNil mk) := by
  obtain ⟨f, fd, hm, hkp, hb, hF⟩ := F
  exact me_of (pe_callKS0 (E := fun σ cls d H' => W cls d σ H') hF (c.rm.mono hk) hg hm hkp hb (fun σ => passAt c.tk σ) hkw hall hks hdb hpl) fun σ H Q ⟨δ, μ, RX, R, st, rp, h, xl, q⟩ =>
    ⟨δ, μ, RX, _, st, rp, h, xl, fun zs μ2 vs H2 h2 t2 d2 r2 => ⟨⟨rfl, by rw [← d2.length]; exact h2.1.2⟩, ord ix zs, μ2, _, R, ord_dens d2 ix, r2, h2.2, q.keep t2, fun C fs μ' d gs H' hx t' rp' hd' dk => xl C fs μ' d gs H' hx (t2.trans t') rp' hd' dk⟩⟩
/-- f(e, .., k = v, ..) -/
theorem me_callK {sp : DSp} (c : Ctx X W m) (F : FncK X.prog X.w X.K X.mg X.base x k ps n ks ix sp) (ha : MA X W (e :: es) mr) (hkw : MK X W kws mk) (hk : k ≤ m + 1 := by decide) (hg : Gl X x := by rfl)
    (hall : (backToKw pos (keywordEach kws X.env)).all (·.1.isSome) = true := by rfl) (hks : (backToKw pos (keywordEach kws X.env)).filterMap (·.1) = ks := by rfl) (hdb : (x == ("__debug__" : Str)) = false := by decide)
    (he : starEach (e :: es) X.env = (false, eval e X.env) :: starEach es X.env := by rfl)
    (hpl : ((backTo pos (starEach (e :: es) X.env)).any (·.1) || (backToKw pos (keywordEach kws X.env)).any (·.1.isNone)) = false := by rfl) : ME X W (.Call (.Name x p) (e :: es) kws pos) (mCallK sp n ks.length ix mr mk) := by
  obtain ⟨f, fd, hm, hkp, hb, hF⟩ := F
  exact me_of (pe_callKS (E := fun σ cls d H' => W cls d σ H') hF (c.rm.mono hk) hg hm hkp hb (fun σ => passAt c.tk σ) ha hkw hall hks hdb he hpl) fun σ H Q ⟨δ, μ, RX, R, st, rp, h, xl, q⟩ =>
    ⟨δ, μ, RX, _, st, rp, h, xl, fun ds μ1 vs H1 h1 t1 d1 r1 => ⟨δ, μ1, RX, _, st.keep t1, r1, h1, xl.keep t1, fun zs μ2 zv H2 h2 t2 d2 r2 => ⟨⟨by rw [← d1.length]; exact h2.1.1, by rw [← d2.length]; exact h2.1.2⟩, ds ++ ord ix zs, μ2, _, R, (d1.keep t2).app (ord_dens d2 ix), r2, h2.2, q.keep (t1.trans t2),
      fun C fs μ' d gs H' hx t' rp' hd' dk => xl C fs μ' d gs H' hx ((t1.trans t2).trans t') rp' hd' dk⟩⟩⟩
end
theorem fnck_of {P : Program} {w : World} {K : PySem.W.Frag} {mg : Str → Option Value} {base : Heap} {x : Str} {params : Arguments} {body : List Stmt} {scope : Scope} {f : Addr} {fd : FuncData} {ps ks : List Str} {k n : Nat} {ix : List Nat} {sp : DSp}
    (hm : mg x = some (.ref f)) (F : FunD K x x params body scope [] [] f fd)
    (bd : ∀ (kV doc pm : Value) (an : Option Addr) (cdv ct : Value) (us ws : List Value), us.length = n → ws.length = ks.length → bindArgs (PySem.W.fnOf x x params body scope .none kV doc pm an cdv ct) ⟨us, ks.zip ws⟩ = pure (ps.zip (us ++ ord ix ws)))
    (ok : FnOk P w K mg base (L2.CX P w) k f fd ps (upSp K sp)) : FncK P w K mg base x k ps n ks ix sp := by
  refine ⟨f, fd, hm, F.kp, fun s us ws h1 h2 => ?_, ok⟩
  obtain ⟨oc, od, dV, kV, doc, pm, an, cdv, ct, osl, rfl, lk, hcd, hD, hK⟩ := F.ex
  rcases hD with ⟨_, rfl⟩ | ⟨e, _⟩
  · exact BindsTo.of_eq (bd kV doc pm an cdv ct us ws h1 h2)
  · exact absurd rfl e
end DL

set_option Elab.async false
set_option linter.all false
set_option maxRecDepth 100000
/-! Plain laws over readings: the tools. -/
namespace DL
open PySem PySem.Spec L2
/-! ### what stays -/
def Kp (A : List Addr) (μ μ' : Mu) : Prop := ∀ a o, a ∉ A → μ a = some o → μ' a = some o
abbrev Ex (μ μ' : Mu) : Prop := Kp [] μ μ'
theorem Kp.refl {A : List Addr} {μ : Mu} : Kp A μ μ := fun _ _ _ h => h
theorem Kp.trans {A : List Addr} {μ μ' μ'' : Mu} (h : Kp A μ μ') (g : Kp A μ' μ'') : Kp A μ μ'' := fun a o ha e => g a o ha (h a o ha e)
theorem Kp.mono {A B : List Addr} {μ μ' : Mu} (h : Kp A μ μ') (s : ∀ a ∈ A, a ∈ B) : Kp B μ μ' := fun a o ha e => h a o (fun z => ha (s a z)) e
theorem Ex.kp {A : List Addr} {μ μ' : Mu} (h : Ex μ μ') : Kp A μ μ' := Kp.mono h (by simp)
theorem Kp.new {A : List Addr} {μ : Mu} {p : Addr} {o : DO} (h : μ p = none) : Kp A μ (updM μ p o) := fun a u _ e => by
  rw [updM_ne (mu_ne e h)]; exact e
theorem Kp.put {A : List Addr} {μ : Mu} {p : Addr} {o : DO} (h : p ∈ A) : Kp A μ (updM μ p o) := fun a u ha e => by
  rw [updM_ne (fun z : a = p => ha (by rw [z]; exact h))]; exact e
theorem Ex.at {μ μ' : Mu} (h : Ex μ μ') {a : Addr} {o : DO} (e : μ a = some o) : μ' a = some o := h a o (by simp) e
theorem Ex.ls {μ μ' : Mu} (h : Ex μ μ') {a : Addr} {ds : List D} (e : LsM μ a ds) : LsM μ' a ds := e.imp h.at h.at
/-- back to an address that was new: what was there before stays -/
theorem Ex.upd {μ μ' : Mu} {p : Addr} {o u : DO} (h0 : μ p = none) (h : Ex (updM μ p o) μ') : Ex μ (updM μ' p u) := fun a w _ e => by
  have hne := mu_ne e h0
  rw [updM_ne hne]
  exact h.at (by rw [updM_ne hne]; exact e)
/-! ### loops by induction -/
section
variable {g : DG} {tb : DS} {Δ : DEnds} {G : Mu → Prop}
theorem forD_ind (I : List D → DSt → Mu → Prop) (h0 : ∀ δ μ, I [] δ μ → G μ ∧ Δ.nx δ μ)
    (h1 : ∀ d ds δ μ (N : DSt → Mu → Prop), (∀ δ' μ', I ds δ' μ' → N δ' μ') → I (d :: ds) δ μ → G μ ∧ g d δ μ fun δ2 μ2 => tb { Δ with nx := N, ct := N, bk := Δ.nx } δ2 μ2) :
    ∀ ds δ μ, I ds δ μ → forD g tb Δ G ds δ μ
  | [], δ, μ, h => h0 δ μ h
  | d :: ds, δ, μ, h => h1 d ds δ μ _ (fun δ' μ' h' => forD_ind I h0 h1 ds δ' μ' h') h
variable {tt : DT} {te tk : DE} {p : Addr} {R : Mu → Prop} {δ0 : DSt}
theorem lcD_ind (I : List D → List D → Mu → Prop) (h0 : ∀ acc μ, I [] acc μ → G μ ∧ R μ)
    (h1 : ∀ d ds acc μ (N : List D → Mu → Prop), (∀ acc' μ', I ds acc' μ' → N acc' μ') → I (d :: ds) acc μ → G μ ∧ g d δ0 μ fun δ2 μ2 => tt δ2 μ2 RX0 fun b μ3 =>
      if b = true then te δ2 μ3 RX0 fun y μ4 => μ4 p = some (.lst acc) ∧ acc.length < sizeLine ∧ N (acc ++ [y]) (updM μ4 p (.lst (acc ++ [y]))) else N acc μ3) :
    ∀ ds acc μ, I ds acc μ → lcD g tt te G p R δ0 ds acc μ
  | [], acc, μ, h => h0 acc μ h
  | d :: ds, acc, μ, h => h1 d ds acc μ _ (fun acc' μ' h' => lcD_ind I h0 h1 ds acc' μ' h') h
/-- a comprehension that changes nothing else -/
theorem lcD_pure {μ : Mu} (f : D → Bool) (v : D → D) {ds : List D} (hG : ∀ acc, G (updM μ p (.lst acc))) (hl : ds.length < sizeLine)
    (hs : ∀ d ∈ ds, ∀ acc (N : Option D → Mu → Prop), N (if f d = true then some (v d) else none) (updM μ p (.lst acc)) →
      g d δ0 (updM μ p (.lst acc)) fun δ2 μ2 => tt δ2 μ2 RX0 fun b μ3 => if b = true then te δ2 μ3 RX0 fun y μ4 => N (some y) μ4 else N none μ3)
    (hR : R (updM μ p (.lst ((ds.filter f).map v)))) : lcD g tt te G p R δ0 ds [] (updM μ p (.lst [])) := by
  have key : ∀ (ds1 ds2 : List D), ds1 ++ ds2 = ds → lcD g tt te G p R δ0 ds2 ((ds1.filter f).map v) (updM μ p (.lst ((ds1.filter f).map v))) := fun ds1 ds2 => by
    induction ds2 generalizing ds1 with
    | nil => intro e; rw [List.append_nil] at e; subst e; exact ⟨hG _, hR⟩
    | cons d t ih =>
      intro e
      have hm : d ∈ ds := by rw [← e]; simp
      have ih' := ih (ds1 ++ [d]) (by rw [← e]; simp)
      refine ⟨hG _, ?_⟩
      have h := hs d hm ((ds1.filter f).map v) (fun o μ4 => match o with
        | some y => μ4 p = some (.lst ((ds1.filter f).map v)) ∧ ((ds1.filter f).map v).length < sizeLine ∧ lcD g tt te G p R δ0 t (((ds1.filter f).map v) ++ [y]) (updM μ4 p (.lst (((ds1.filter f).map v) ++ [y])))
        | none => lcD g tt te G p R δ0 t ((ds1.filter f).map v) μ4)
      refine h ?_
      by_cases hf : f d = true
      · rw [if_pos hf]
        refine ⟨updM_same, ?_, ?_⟩
        · have h1 := List.length_filter_le f ds1
          have h2 : ds1.length < ds.length := by rw [← e]; simp
          rw [List.length_map]; omega
        · rw [updM_updM]
          rw [List.filter_append, List.map_append, List.filter_cons_of_pos hf] at ih'
          exact ih'
      · rw [if_neg hf]
        rw [List.filter_append, List.filter_cons_of_neg hf, List.filter_nil, List.append_nil] at ih'
        exact ih'
  exact key [] ds rfl
end
/-! ### items -/
theorem ixN_nat {n : Nat} {i : Int} (h0 : 0 ≤ i) (h1 : i < n) : ixN n i = some i.toNat := by
  unfold ixN; rw [if_pos h0, if_pos h1]
theorem atI_nat {α : Type} {xs : List α} {i : Int} {x : α} (h0 : 0 ≤ i) (h : xs[i.toNat]? = some x) : atI xs i = some x := by
  have hl : i.toNat < xs.length := by
    rcases Nat.lt_or_ge i.toNat xs.length with z | z
    · exact z
    · rw [List.getElem?_eq_none z] at h; cases h
  unfold atI
  rw [ixN_nat h0 (by omega)]
  exact h
abbrev nI (l : List Int) : List D := l.map D.int
abbrev tI (l : List Int) : D := .tup (nI l)
theorem atI_ints {l : List Int} {i : Int} (h0 : 0 ≤ i) (h1 : i < l.length) : atI (nI l) i = some (.int (l.getD i.toNat 0)) := by
  refine atI_nat h0 ?_
  have hl : i.toNat < l.length := by omega
  simp [hl]
theorem plains_ints : ∀ l : List Int, plains (nI l) = true
  | [] => rfl
  | a :: t => by simp only [nI, List.map_cons, plains, plain, Bool.true_and]; exact plains_ints t
theorem rgD_ints (lo hi : Int) : rgD lo hi = nI ((List.range (hi - lo).toNat).map fun i : Nat => lo + i) := by
  unfold rgD nI; rw [List.map_map]; rfl
theorem sizeLine_big : 1000000 < sizeLine := by rw [sizeLine_eq]; omega
end DL
namespace DL
open PySem PySem.Spec L2
/-! ### readings at known values -/
section
variable {i j : Int} {x y : Str} {ds es : List D} {a b : Addr} {μ : Mu} {R : DK} {d : D}
theorem addD_i : addD (.int i) (.int j) μ R = R (.int (i + j)) μ := rfl
theorem addD_t : addD (.tup ds) (.tup es) μ R = (ds.length + es.length ≤ sizeLine ∧ R (.tup (ds ++ es)) μ) := rfl
theorem addD_r : addD (.ref a) (.ref b) μ R = ∃ xs ys, μ a = some (.lst xs) ∧ μ b = some (.lst ys) ∧ xs.length + ys.length ≤ sizeLine ∧ ∀ p, μ p = none → R (.ref p) (updM μ p (.lst (xs ++ ys))) := rfl
theorem addD_s : addD (.str x) (.str y) μ R = (x.length + y.length ≤ sizeLine ∧ R (.str (x ++ y)) μ) := rfl
theorem subD_i : subD (.int i) (.int j) μ R = R (.int (i - j)) μ := rfl
theorem mulD_i : mulD (.int i) (.int j) μ R = (CMulA i j ∧ R (.int (i * j)) μ) := rfl
theorem mulD_r : mulD (.ref a) (.int j) μ R = ∃ xs, μ a = some (.lst xs) ∧ (0 ≤ j ∧ j < 4611686018427387904) ∧ xs.length * j.toNat ≤ sizeLine ∧ ∀ p, μ p = none → R (.ref p) (updM μ p (.lst (List.replicate j.toNat xs).flatten)) := rfl
theorem divD_i : divD (.int i) (.int j) μ R = ((0 < j ∧ j < 1073741824) ∧ R (.int (i / j)) μ) := rfl
theorem modD_i : modD (.int i) (.int j) μ R = (0 < j ∧ R (.int (i % j)) μ) := rfl
theorem powD_i : powD (.int i) (.int j) μ R = (CPow i j ∧ R (.int (i ^ j.toNat)) μ) := rfl
theorem ltD_i : ltD (.int i) (.int j) μ R = R (.bl (decide (i < j))) μ := rfl
theorem leD_i : leD (.int i) (.int j) μ R = R (.bl (decide (i ≤ j))) μ := rfl
theorem gtD_i : gtD (.int i) (.int j) μ R = R (.bl (decide (j < i))) μ := rfl
theorem geD_i : geD (.int i) (.int j) μ R = R (.bl (decide (j ≤ i))) μ := rfl
theorem eqD_i : eqD (.int i) (.int j) μ R = R (.bl (decide (i = j))) μ := rfl
theorem eqD_s : eqD (.str x) (.str y) μ R = R (.bl (decide (x = y))) μ := rfl
theorem eqD_r : eqD (.ref a) (.ref b) μ R = ∃ xs ys, LsM μ a xs ∧ LsM μ b ys ∧ (plains xs = true ∧ plains ys = true ∧ deps xs < 64 ∧ deps ys < 64) ∧ R (.bl (beqs xs ys)) μ := rfl
theorem neD_i : neD (.int i) (.int j) μ R = R (.bl (!decide (i = j))) μ := rfl
theorem neD_s : neD (.str x) (.str y) μ R = R (.bl (!decide (x = y))) μ := rfl
theorem neD_r : neD (.ref a) (.ref b) μ R = ∃ xs ys, LsM μ a xs ∧ LsM μ b ys ∧ (plains xs = true ∧ plains ys = true ∧ deps xs < 64 ∧ deps ys < 64) ∧ R (.bl (!beqs xs ys)) μ := rfl
theorem negD_i : negD (.int i) μ R = R (.int (-i)) μ := rfl
theorem revD_t : revD (.tup ds) μ R = R (.tup ds.reverse) μ := rfl
theorem revD_r : revD (.ref a) μ R = ∃ ds, LsM μ a ds ∧ ∀ p, μ p = none → R (.ref p) (updM μ p (.lst ds.reverse)) := rfl
theorem lenR_t : lenR [.tup ds] μ R = R (.int ds.length) μ := rfl
theorem lenR_r (h : LsM μ a ds) : lenR [.ref a] μ R ↔ R (.int ds.length) μ := by
  constructor
  · rintro (⟨es, e, q⟩ | ⟨kvs, e, q⟩)
    · have hh : es = ds := by
        rcases h with h | h <;> rcases e with e | e <;> (rw [h] at e; cases e; try rfl)
      rw [← hh]; exact q
    · rcases h with h | h <;> (rw [h] at e; cases e)
  · exact fun q => .inl ⟨ds, h, q⟩
theorem ixD_t (h : atI ds i = some d) : ixD (.tup ds) (.int i) μ R ↔ R d μ := by
  constructor
  · rintro ⟨i', d', e, h', q⟩
    cases e
    rw [h] at h'; cases h'; exact q
  · exact fun q => ⟨_, _, rfl, h, q⟩
theorem LsM.eq {ds es : List D} (h : LsM μ a ds) (g : LsM μ a es) : ds = es := by
  rcases h with h | h <;> rcases g with g | g <;> (rw [h] at g; cases g; try rfl)
theorem ixD_l (hl : LsM μ a ds) (h : atI ds i = some d) : ixD (.ref a) (.int i) μ R ↔ R d μ := by
  constructor
  · rintro (⟨es, i', d', e, e2, h', q⟩ | ⟨kvs, k, d', e, _⟩)
    · cases e2
      rw [← hl.eq e, h] at h'
      cases h'; exact q
    · rcases hl with h | h <;> (rw [h] at e; cases e)
  · exact fun q => .inl ⟨_, _, _, hl, rfl, h, q⟩
theorem ixD_k {kvs : List (Key × D)} {k : Key} {z : D} (hl : μ a = some (.dic kvs)) (hz : z = keyD k) (h : valD kvs k = some d) : ixD (.ref a) z μ R ↔ R d μ := by
  subst hz
  constructor
  · rintro (⟨es, i', d', e, _⟩ | ⟨kvs', k', d', e, e2, h', q⟩)
    · rcases e with e | e <;> (rw [hl] at e; cases e)
    · rw [hl] at e; cases e
      have : k = k' := by
        cases k <;> cases k' <;> cases e2 <;> rfl
      subst this
      rw [h] at h'; cases h'; exact q
  · exact fun q => .inr ⟨_, _, _, hl, rfl, h, q⟩
end
end DL
namespace DL
open PySem PySem.Spec L2
section
variable {g : DG} {tb : DS} {Δ : DEnds} {G : Mu → Prop} {tt : DT} {te tk : DE} {p : Addr} {R : Mu → Prop} {δ0 : DSt}
/-- a for over ds, told by the turn -/
theorem forD_ix (ds : List D) (I : Nat → DSt → Mu → Prop) (hG : ∀ k δ μ, I k δ μ → G μ) (h0 : ∀ δ μ, I ds.length δ μ → Δ.nx δ μ)
    (h1 : ∀ k d δ μ (N : DSt → Mu → Prop), ds[k]? = some d → (∀ δ' μ', I (k + 1) δ' μ' → N δ' μ') → I k δ μ → g d δ μ fun δ2 μ2 => tb { Δ with nx := N, ct := N, bk := Δ.nx } δ2 μ2) :
    ∀ δ μ, I 0 δ μ → forD g tb Δ G ds δ μ := by
  intro δ μ h
  refine forD_ind (fun l δ μ => ∃ k, k ≤ ds.length ∧ l = ds.drop k ∧ I k δ μ) ?_ ?_ ds δ μ ⟨0, Nat.zero_le _, rfl, h⟩
  · rintro δ μ ⟨k, hk, e, hI⟩
    have hl : ds.length ≤ k := by
      have := congrArg List.length e
      rw [List.length_drop] at this
      simp at this; omega
    have ek : k = ds.length := by omega
    subst ek
    exact ⟨hG _ _ _ hI, h0 _ _ hI⟩
  · rintro d l δ μ N hN ⟨k, hk, e, hI⟩
    have hl : k < ds.length := by
      rcases Nat.lt_or_ge k ds.length with z | z
      · exact z
      · rw [List.drop_eq_nil_of_le z] at e; cases e
    rw [List.drop_eq_getElem_cons hl] at e
    injection e with e1 e2
    refine ⟨hG _ _ _ hI, h1 k d δ μ N (by rw [e1]; exact List.getElem?_eq_getElem hl) (fun δ' μ' h' => hN _ _ ⟨k + 1, hl, e2, h'⟩) hI⟩
theorem rgD_len (lo hi : Int) : (rgD lo hi).length = (hi - lo).toNat := by simp [rgD]
theorem rgD_get {lo hi : Int} {k : Nat} (h : k < (hi - lo).toNat) : (rgD lo hi)[k]? = some (.int (lo + k)) := by simp [rgD, h]
/-- a for over range(n) -/
theorem forD_rng (n : Nat) (I : Nat → DSt → Mu → Prop) (hG : ∀ μ, G μ) (h0 : ∀ δ μ, I n δ μ → Δ.nx δ μ)
    (h1 : ∀ k δ μ (N : DSt → Mu → Prop), k < n → (∀ δ' μ', I (k + 1) δ' μ' → N δ' μ') → I k δ μ → g (.int k) δ μ fun δ2 μ2 => tb { Δ with nx := N, ct := N, bk := Δ.nx } δ2 μ2) :
    ∀ δ μ, I 0 δ μ → forD g tb Δ G (rgD 0 n) δ μ := by
  have e : (((n : Int) - 0).toNat) = n := by omega
  refine forD_ix _ I (fun _ _ _ _ => hG _) (by rw [rgD_len, e]; exact h0) fun k d δ μ N hd hN hI => ?_
  have hk : k < n := by
    rcases Nat.lt_or_ge k n with z | z
    · exact z
    · rw [List.getElem?_eq_none (by rw [rgD_len, e]; exact z)] at hd; cases hd
  rw [rgD_get (by omega)] at hd
  cases hd
  have := h1 k δ μ N hk hN hI
  rwa [Int.zero_add]
/-- a comprehension over ints that changes nothing else -/
def fI (f : Int → Bool) : D → Bool
  | .int x => f x
  | _ => false
def vI (v : Int → D) : D → D
  | .int x => v x
  | d => d
theorem filter_nI (f : Int → Bool) (v : Int → D) : ∀ l : List Int, ((nI l).filter (fI f)).map (vI v) = (l.filter f).map v
  | [] => rfl
  | x :: t => by
    have ih := filter_nI f v t
    unfold nI at ih ⊢
    rw [List.map_cons]
    by_cases h : f x = true
    · rw [List.filter_cons_of_pos (show fI f (.int x) = true from h), List.filter_cons_of_pos h, List.map_cons, List.map_cons, ih]; rfl
    · rw [List.filter_cons_of_neg (show ¬ fI f (.int x) = true from h), List.filter_cons_of_neg h, ih]
theorem lcD_int {μ : Mu} (f : Int → Bool) (v : Int → D) {l : List Int} (hG : ∀ acc, G (updM μ p (.lst acc))) (hl : l.length < 1000000)
    (hs : ∀ x ∈ l, ∀ acc (N : Option D → Mu → Prop), N (if f x = true then some (v x) else none) (updM μ p (.lst acc)) →
      g (.int x) δ0 (updM μ p (.lst acc)) fun δ2 μ2 => tt δ2 μ2 RX0 fun b μ3 => if b = true then te δ2 μ3 RX0 fun y μ4 => N (some y) μ4 else N none μ3)
    (hR : R (updM μ p (.lst ((l.filter f).map v)))) : lcD g tt te G p R δ0 (nI l) [] (updM μ p (.lst [])) := by
  refine lcD_pure (fI f) (vI v) hG (by have := sizeLine_big; rw [List.length_map]; omega) (fun d hd acc N h => ?_) (by rw [filter_nI]; exact hR)
  obtain ⟨x, hx, rfl⟩ := List.mem_map.mp hd
  exact hs x hx acc N h
/-- every item, none left out -/
theorem lcD_map {μ : Mu} (v : D → D) {ds : List D} (hG : ∀ acc, G (updM μ p (.lst acc))) (hl : ds.length < 1000000)
    (hs : ∀ d ∈ ds, ∀ acc (N : D → Mu → Prop), N (v d) (updM μ p (.lst acc)) →
      g d δ0 (updM μ p (.lst acc)) fun δ2 μ2 => tt δ2 μ2 RX0 fun b μ3 => b = true ∧ te δ2 μ3 RX0 fun y μ4 => N y μ4)
    (hm : ∀ (P Q : Bool → Mu → Prop) (δ : DSt) (μ : Mu), (∀ b μ, P b μ → Q b μ) → tt δ μ RX0 P → tt δ μ RX0 Q)
    (hgm : ∀ (d : D) (P Q : DSt → Mu → Prop) (δ : DSt) (μ : Mu), (∀ δ μ, P δ μ → Q δ μ) → g d δ μ P → g d δ μ Q)
    (hR : R (updM μ p (.lst (ds.map v)))) : lcD g tt te G p R δ0 ds [] (updM μ p (.lst [])) := by
  refine lcD_pure (fun _ => true) v hG (by have := sizeLine_big; omega) (fun d hd acc N h => ?_) (by rw [List.filter_eq_self.mpr (by simp)]; exact hR)
  refine hgm d _ _ _ _ (fun δ2 μ2 h2 => hm _ _ _ _ (fun b μ3 h3 => ?_) h2) (hs d hd acc (fun y μ => N (some y) μ) (by simpa using h))
  obtain ⟨rfl, h3⟩ := h3
  exact h3
end
/-! ### displacements of D -/
def pairD (x : Int × Int) : D := .tup [.int x.1, .int x.2]
end DL
namespace DL
theorem cmul_l {i j : Int} (h : -(2 ^ 64) < i ∧ i < 2 ^ 64) : CMulA i j := .inl (.inl h)
theorem cmul_r {i j : Int} (h : -(2 ^ 64) < j ∧ j < 2 ^ 64) : CMulA i j := .inl (.inr h)
theorem nI_len (l : List Int) : (nI l).length = l.length := by simp
theorem Ex.new {μ : Mu} {p : PySem.Addr} {o : DO} (h : μ p = none) : Ex μ (updM μ p o) := Kp.new h
theorem Ex.trans {μ μ' μ'' : Mu} (h : Ex μ μ') (g : Ex μ' μ'') : Ex μ μ'' := Kp.trans h g
theorem Ex.refl {μ : Mu} : Ex μ μ := Kp.refl
theorem Ex.none {μ μ' : Mu} {p : PySem.Addr} (h : Ex μ μ') (e : μ' p = Option.none) : μ p = Option.none := by
  cases q : μ p with
  | none => rfl
  | some o => rw [h.at q] at e; cases e
end DL
namespace DL
open PySem PySem.Spec L2
section
variable {g : DG} {tb : DS} {Δ : DEnds} {G : Mu → Prop} {tt : DT} {te tk : DE} {p : Addr} {R : Mu → Prop} {δ0 : DSt}
/-- over enumerate, all taken, nothing else changed -/
theorem lcD_en {μ : Mu} (v : Nat → D) {ds : List D} (hG : ∀ acc, G (updM μ p (.lst acc))) (hl : ds.length < 1000000)
    (hs : ∀ (i : Nat) (d : D), ds[i]? = some d → ∀ acc (N : Option D → Mu → Prop), N (some (v i)) (updM μ p (.lst acc)) →
      g (.wtup [.int i, d]) δ0 (updM μ p (.lst acc)) fun δ2 μ2 => tt δ2 μ2 RX0 fun b μ3 => if b = true then te δ2 μ3 RX0 fun y μ4 => N (some y) μ4 else N none μ3)
    (hR : R (updM μ p (.lst ((List.range ds.length).map v)))) : lcD g tt te G p R δ0 (enumD ds) [] (updM μ p (.lst [])) := by
  have e0 : ((enumD ds).filter fun _ => true).map (fun d => match d with | .wtup [.int i, _] => v i.toNat | d => d) = (List.range ds.length).map v := by
    rw [List.filter_eq_self.mpr (by simp)]
    unfold enumD
    rw [List.map_map]
    refine List.map_congr_left fun i _ => ?_
    show v ((i : Int).toNat) = v i
    rw [Int.toNat_natCast]
  refine lcD_pure (fun _ => true) (fun d => match d with | .wtup [.int i, _] => v i.toNat | d => d) hG (by have := sizeLine_big; rw [enumD_len]; omega) (fun d hd acc N h => ?_) (by rw [e0]; exact hR)
  unfold enumD at hd
  obtain ⟨i, hi, rfl⟩ := List.mem_map.mp hd
  have hlt := List.mem_range.mp hi
  refine hs i _ (by rw [List.getD_eq_getElem?_getD, List.getElem?_eq_getElem hlt]; rfl) acc N ?_
  rw [if_pos rfl] at h
  have h' : N (some (v ((i : Int).toNat))) (updM μ p (.lst acc)) := h
  rwa [Int.toNat_natCast] at h'
/-- {k: v for i, x in enumerate(ds)}, the keys different -/
theorem dcD_en {μ : Mu} (kf : Nat → Key) (v : Nat → D) {ds : List D} (hG : ∀ acc, G (updM μ p (.dic acc))) (hl : ds.length < 1000000) (hn : ((List.range ds.length).map kf).Nodup)
    (hs : ∀ (i : Nat) (d : D), ds[i]? = some d → ∀ acc (N : D → D → Mu → Prop), N (keyD (kf i)) (v i) (updM μ p (.dic acc)) →
      g (.wtup [.int i, d]) δ0 (updM μ p (.dic acc)) fun δ2 μ2 => tt δ2 μ2 RX0 fun b μ3 => b = true ∧ tk δ2 μ3 RX0 fun y μ4 => te δ2 μ4 RX0 fun z μ5 => N y z μ5)
    (htt : ∀ (P Q : Bool → Mu → Prop) (δ : DSt) (μ : Mu), (∀ b μ, P b μ → Q b μ) → tt δ μ RX0 P → tt δ μ RX0 Q)
    (hgm : ∀ (d : D) (P Q : DSt → Mu → Prop) (δ : DSt) (μ : Mu), (∀ δ μ, P δ μ → Q δ μ) → g d δ μ P → g d δ μ Q)
    (hR : R (updM μ p (.dic ((List.range ds.length).map fun i => (kf i, v i))))) : dcD g tt tk te G p R δ0 (enumD ds) [] (updM μ p (.dic [])) := by
  have key : ∀ m k, k + m = ds.length → dcD g tt tk te G p R δ0 ((enumD ds).drop k) ((List.range k).map fun i => (kf i, v i)) (updM μ p (.dic ((List.range k).map fun i => (kf i, v i)))) := fun m => by
    induction m with
    | zero =>
      intro k e
      rw [List.drop_eq_nil_of_le (by rw [enumD_len]; omega)]
      have ek : k = ds.length := by omega
      subst ek
      exact ⟨hG _, hR⟩
    | succ m ih =>
      intro k e
      have hlt : k < ds.length := by omega
      have hd : (enumD ds).drop k = .wtup [.int (k : Nat), ds[k]] :: (enumD ds).drop (k + 1) := by
        have h1 : k < (enumD ds).length := by rw [enumD_len]; exact hlt
        rw [List.drop_eq_getElem_cons h1]
        congr 1
        have h2 := enumD_get (List.getElem?_eq_getElem hlt)
        rw [List.getElem?_eq_getElem h1] at h2
        exact Option.some.inj h2
      rw [hd]
      refine ⟨hG _, ?_⟩
      refine hgm _ _ _ _ _ (fun δ2 μ2 h2 => htt _ _ _ _ (fun b μ3 h3 => ?_) h2) (hs k ds[k] (List.getElem?_eq_getElem hlt) ((List.range k).map fun i => (kf i, v i)) (fun y z μ5 => ∃ k', y = keyD k' ∧ μ5 p = some (.dic ((List.range k).map fun i => (kf i, v i))) ∧ ((List.range k).map fun i => (kf i, v i)).length < sizeLine ∧
        dcD g tt tk te G p R δ0 ((enumD ds).drop (k + 1)) (putD ((List.range k).map fun i => (kf i, v i)) k' z) (updM μ5 p (.dic (putD ((List.range k).map fun i => (kf i, v i)) k' z)))) ?_)
      · obtain ⟨rfl, h3⟩ := h3
        exact h3
      · refine ⟨kf k, rfl, updM_same, by have := sizeLine_big; simp; omega, ?_⟩
        have hput : putD ((List.range k).map fun i => (kf i, v i)) (kf k) (v k) = (List.range (k + 1)).map fun i => (kf i, v i) := by
          unfold putD
          rw [if_neg, List.range_succ, List.map_append]
          · rfl
          · intro ha
            obtain ⟨q, hq, e1⟩ := List.any_eq_true.mp ha
            obtain ⟨i, hi, rfl⟩ := List.mem_map.mp hq
            have e1 : kf i = kf k := by simpa using e1
            have hik := List.mem_range.mp hi
            have := List.nodup_iff_pairwise_ne.mp hn
            rw [List.pairwise_map] at this
            have hp := List.pairwise_iff_getElem.mp this i k (by simp; omega) (by simp; omega) hik
            simp at hp
            exact hp e1
        rw [hput, updM_updM]
        exact ih (k + 1) (by omega)
  exact key ds.length 0 (by omega)
end
end DL
namespace DL
section
variable {ds : List D} {a : PySem.Addr} {μ : Mu} {R : DK}
theorem listR_t : listR [.tup ds] μ R = ∀ p, μ p = none → R (.ref p) (updM μ p (.lst ds)) := rfl
theorem listR_r : listR [.ref a] μ R = ∃ ds, LsM μ a ds ∧ ∀ p, μ p = none → R (.ref p) (updM μ p (.lst ds)) := rfl
theorem tupR_t : tupR [.tup ds] μ R = R (.tup ds) μ := rfl
theorem tupR_r : tupR [.ref a] μ R = ∃ ds, LsM μ a ds ∧ R (.tup ds) μ := rfl
end
end DL

set_option Elab.async false
set_option linter.all false
/-! Rings, plain: displacements as a periodic bijection of the whole numbers. -/
namespace RM
/-! ### sums over the first n -/
def S (f : Nat → Int) : Nat → Int
  | 0 => 0
  | k + 1 => S f k + f k
theorem S_list (f : Nat → Int) : ∀ n, S f n = ((List.range n).map f).sum
  | 0 => rfl
  | k + 1 => by rw [S, S_list f k, List.range_succ, List.map_append, List.sum_append]; simp
theorem S_congr {f g : Nat → Int} : ∀ {n}, (∀ i, i < n → f i = g i) → S f n = S g n
  | 0, _ => rfl
  | k + 1, h => by rw [S, S, S_congr fun i hi => h i (Nat.lt_succ_of_lt hi), h k (Nat.lt_succ_self k)]
theorem S_add (f g : Nat → Int) : ∀ n, S (fun i => f i + g i) n = S f n + S g n
  | 0 => rfl
  | k + 1 => by rw [S, S, S, S_add f g k]; omega
theorem S_sub (f g : Nat → Int) : ∀ n, S (fun i => f i - g i) n = S f n - S g n
  | 0 => rfl
  | k + 1 => by rw [S, S, S, S_sub f g k]; omega
theorem S_mul (a : Int) (f : Nat → Int) : ∀ n, S (fun i => a * f i) n = a * S f n
  | 0 => by simp [S]
  | k + 1 => by rw [S, S, S_mul a f k, Int.mul_add]
theorem S_const (a : Int) : ∀ n : Nat, S (fun _ => a) n = n * a
  | 0 => by simp [S]
  | k + 1 => by rw [S, S_const a k, Int.natCast_succ, Int.add_mul]; omega
theorem S_le {f g : Nat → Int} : ∀ {n}, (∀ i, i < n → f i ≤ g i) → S f n ≤ S g n
  | 0, _ => Int.le_refl _
  | k + 1, h => by
    have h1 := S_le fun i hi => h i (Nat.lt_succ_of_lt hi)
    have h2 := h k (Nat.lt_succ_self k)
    rw [S, S]; omega
theorem S_lt {f g : Nat → Int} : ∀ {n}, (∀ i, i < n → f i ≤ g i) → (∃ i, i < n ∧ f i < g i) → S f n < S g n
  | 0, _, ⟨i, hi, _⟩ => absurd hi (Nat.not_lt_zero i)
  | k + 1, h, ⟨i, hi, hl⟩ => by
    have h2 := h k (Nat.lt_succ_self k)
    rw [S, S]
    by_cases e : i = k
    · subst e
      have h1 := S_le fun j hj => h j (Nat.lt_succ_of_lt hj)
      omega
    · have h1 := S_lt (fun j hj => h j (Nat.lt_succ_of_lt hj)) ⟨i, by omega, hl⟩
      omega
/-- a list without repeats inside another of the same length holds the same things -/
theorem perm_of_sub {α : Type} [BEq α] [LawfulBEq α] : ∀ {l r : List α}, l.Nodup → (∀ x ∈ l, x ∈ r) → r.length ≤ l.length → l.Perm r
  | [], r, _, _, h => by
    have : r = [] := List.length_eq_zero_iff.mp (by simpa using h)
    rw [this]
  | a :: t, r, hn, hs, h => by
    have ha : a ∈ r := hs a List.mem_cons_self
    obtain ⟨hat, ht⟩ := List.nodup_cons.mp hn
    have p := List.perm_cons_erase ha
    have hl := p.length_eq
    refine (List.Perm.cons a (perm_of_sub ht (fun x hx => ?_) ?_)).trans p.symm
    · have hne : x ≠ a := fun e => hat (e ▸ hx)
      exact (List.mem_erase_of_ne hne).mpr (hs x (List.mem_cons_of_mem _ hx))
    · simp only [List.length_cons] at h hl; omega
theorem sub_len {α : Type} [BEq α] [LawfulBEq α] : ∀ {l r : List α}, l.Nodup → (∀ x ∈ l, x ∈ r) → l.length ≤ r.length
  | [], r, _, _ => Nat.zero_le _
  | a :: t, r, hn, hs => by
    have ha : a ∈ r := hs a List.mem_cons_self
    obtain ⟨hat, ht⟩ := List.nodup_cons.mp hn
    have hl := (List.perm_cons_erase ha).length_eq
    have ih := sub_len (l := t) (r := r.erase a) ht fun x hx => by
      have hne : x ≠ a := fun e => hat (e ▸ hx)
      exact (List.mem_erase_of_ne hne).mpr (hs x (List.mem_cons_of_mem _ hx))
    simp only [List.length_cons] at hl ⊢; omega
theorem same_len {α : Type} [BEq α] [LawfulBEq α] {l r : List α} (h1 : l.Nodup) (h2 : r.Nodup) (h : ∀ x, x ∈ l ↔ x ∈ r) : l.length = r.length :=
  Nat.le_antisymm (sub_len h1 fun x hx => (h x).mp hx) (sub_len h2 fun x hx => (h x).mpr hx)
theorem nodup_inj {α : Type} {l : List α} (h : l.Nodup) {i j : Nat} {hi : i < l.length} {hj : j < l.length} (e : l[i] = l[j]) : i = j := by
  have hp := List.pairwise_iff_getElem.mp (List.nodup_iff_pairwise_ne.mp h)
  rcases Nat.lt_trichotomy i j with z | z | z
  · exact absurd e (hp i j hi hj z)
  · exact z
  · exact absurd e.symm (hp j i hj hi z)
theorem nat_perm {l : List Nat} {n : Nat} (hn : l.Nodup) (hl : l.length = n) (hb : ∀ x ∈ l, x < n) : l.Perm (List.range n) :=
  perm_of_sub hn (fun x hx => List.mem_range.mpr (hb x hx)) (by simp [hl])
theorem perm_sum {l r : List Int} (h : l.Perm r) : l.sum = r.sum := by
  induction h with
  | nil => rfl
  | cons x _ ih => simp [ih]
  | swap x y l => simp only [List.sum_cons]; omega
  | trans _ _ h1 h2 => exact h1.trans h2
/-- residues all different -/
def Res (n : Nat) (g : Nat → Int) : Prop := ∀ i j, i < n → j < n → g i % n = g j % n → i = j
theorem nodup_map_on {α β : Type} {f : α → β} : ∀ {l : List α}, l.Nodup → (∀ x ∈ l, ∀ y ∈ l, f x = f y → x = y) → (l.map f).Nodup
  | [], _, _ => by simp
  | a :: t, h, hf => by
    obtain ⟨h1, h2⟩ := List.nodup_cons.mp h
    rw [List.map_cons, List.nodup_cons]
    refine ⟨fun hm => ?_, nodup_map_on h2 fun x hx y hy => hf x (List.mem_cons_of_mem _ hx) y (List.mem_cons_of_mem _ hy)⟩
    obtain ⟨y, hy, e⟩ := List.mem_map.mp hm
    exact h1 (hf y (List.mem_cons_of_mem _ hy) a List.mem_cons_self e ▸ hy)
theorem Res.perm {n : Nat} {g : Nat → Int} (h : Res n g) (hn : 0 < n) : ((List.range n).map fun i => (g i % n).toNat).Perm (List.range n) := by
  have hp : (0 : Int) < n := by omega
  refine nat_perm (nodup_map_on List.nodup_range fun x hx y hy e => ?_) (by simp) fun x hx => ?_
  · have b1 := Int.emod_nonneg (g x) (Int.ne_of_gt hp)
    have b2 := Int.emod_nonneg (g y) (Int.ne_of_gt hp)
    exact h x y (List.mem_range.mp hx) (List.mem_range.mp hy) (by omega)
  · obtain ⟨i, hi, rfl⟩ := List.mem_map.mp hx
    have b1 := Int.emod_nonneg (g i) (Int.ne_of_gt hp)
    have b2 := Int.emod_lt_of_pos (g i) hp
    omega
theorem emod_add_self {n : Nat} (c : Int) : (c + n) % n = c % n := by simp
/-- a periodic summand, residues in any order -/
theorem S_res {n : Nat} {F : Int → Int} {g h : Nat → Int} (hn : 0 < n) (hF : ∀ c, F (c % n) = F c) (hg : Res n g) (hh : Res n h) : S (fun i => F (g i)) n = S (fun i => F (h i)) n := by
  have hp : (0 : Int) < n := by omega
  have key : ∀ {g : Nat → Int}, Res n g → S (fun i => F (g i)) n = ((List.range n).map fun i : Nat => F i).sum := fun {g} hg => by
    rw [S_list]
    have e : (List.range n).map (fun i => F (g i)) = ((List.range n).map fun i => (g i % n).toNat).map fun i : Nat => F i := by
      rw [List.map_map]
      refine List.map_congr_left fun i _ => ?_
      show F (g i) = F (((g i % n).toNat : Nat) : Int)
      rw [Int.toNat_of_nonneg (Int.emod_nonneg _ (Int.ne_of_gt hp)), hF]
    rw [e]
    exact perm_sum ((hg.perm hn).map _)
  rw [key hg, key hh]

/-! ### a ring -/
structure Rg (n : Nat) (E : Int → Int) : Prop where
  pos : 0 < n
  per : ∀ c, E (c + n) = E c + n
  inj : ∀ a b, E a % n = E b % n → a % n = b % n
  sum : S (fun i => E i - i) n = 0
section
variable {n : Nat} {E : Int → Int}
theorem Rg.perk (r : Rg n E) (c : Int) : ∀ k : Nat, E (c + k * n) = E c + k * n
  | 0 => by simp
  | k + 1 => by
    have h := r.perk c k
    have e : c + ((k + 1 : Nat) : Int) * n = (c + k * n) + n := by rw [Int.natCast_succ, Int.add_mul]; omega
    rw [e, r.per, h, Int.natCast_succ, Int.add_mul]; omega
theorem Rg.perz (r : Rg n E) (c k : Int) : E (c + k * n) = E c + k * n := by
  rcases Int.le_total 0 k with h | h
  · obtain ⟨m, rfl⟩ := Int.eq_ofNat_of_zero_le h
    exact r.perk c m
  · obtain ⟨m, hm⟩ := Int.eq_ofNat_of_zero_le (show 0 ≤ -k by omega)
    have h2 := r.perk (c + k * n) m
    have e : c + k * n + (m : Int) * n = c := by rw [← hm]; rw [Int.neg_mul]; omega
    rw [e] at h2
    have e2 : k * (n : Int) = -((m : Int) * n) := by rw [← hm, Int.neg_mul]; omega
    omega
theorem Rg.emod (r : Rg n E) (c : Int) : E (c % n) = E c - (c / n) * n := by
  have h := r.perz (c % n) (c / n)
  have e : c % n + c / n * n = c := by have := Int.emod_add_mul_ediv c n; rw [Int.mul_comm] at this; omega
  rw [e] at h; omega
theorem Rg.inj' (r : Rg n E) {a b : Int} (h : E a = E b) : a = b := by
  have h1 := r.inj a b (by rw [h])
  have h2 := r.emod a
  have h3 := r.emod b
  rw [h1] at h2
  have ea := Int.emod_add_mul_ediv a n
  have eb := Int.emod_add_mul_ediv b n
  have hc := Int.mul_comm (n : Int) (a / n)
  have hd := Int.mul_comm (n : Int) (b / n)
  omega
def Inv (E : Int → Int) (x z : Int) : Prop := x < z ∧ E z < E x
def Tri (E : Int → Int) : Prop := ∃ x y z, Inv E x y ∧ Inv E y z
theorem res_id (hn : 0 < n) (y : Int) : Res n fun j => (j : Int) - y := fun i j hi hj h => by
  have hd : ((n : Int)) ∣ ((i : Int) - y) - ((j : Int) - y) := Int.dvd_of_emod_eq_zero (by rw [Int.sub_emod, h]; simp)
  have e : ((i : Int) - y) - ((j : Int) - y) = (i : Int) - j := by omega
  rw [e] at hd
  obtain ⟨k, hk⟩ := hd
  have h1 : -(n : Int) < n * k := by omega
  have h2 : (n : Int) * k < n := by omega
  have k0 : k = 0 := by
    rcases Int.lt_trichotomy k 0 with z | z | z
    · have : (n : Int) * k ≤ n * (-1) := Int.mul_le_mul_of_nonneg_left (by omega) (by omega)
      omega
    · exact z
    · have : (n : Int) * 1 ≤ n * k := Int.mul_le_mul_of_nonneg_left (by omega) (by omega)
      omega
  rw [k0] at hk
  omega
theorem Rg.res (r : Rg n E) (y : Int) : Res n fun j => E j - E y := fun i j hi hj h => by
  have h1 : E i % n = E j % n := by
    have hd : ((n : Int)) ∣ (E i - E y) - (E j - E y) := Int.dvd_of_emod_eq_zero (by rw [Int.sub_emod, h]; simp)
    have e : (E i - E y) - (E j - E y) = E i - E j := by omega
    rw [e] at hd
    exact (Int.emod_emod_of_dvd _ (Int.dvd_refl _)).symm.trans (by
      obtain ⟨k, hk⟩ := hd
      have : E i = E j + n * k := by omega
      rw [this]; simp)
  have h2 := r.inj i j h1
  rw [Int.emod_eq_of_lt (by omega) (by omega), Int.emod_eq_of_lt (by omega) (by omega)] at h2
  omega
/-- net crossings of the item at y by class j -/
def cr (n : Nat) (E : Int → Int) (y : Int) (j : Nat) : Int := ((j : Int) - y) / n - (E j - E y) / n
theorem Rg.flow (r : Rg n E) (y : Int) : S (cr n E y) n = E y - y := by
  have hp : (0 : Int) < n := by have := r.pos; omega
  have h1 : S (fun j => (n : Int) * cr n E y j) n = n * (E y - y) := by
    have e : ∀ j : Nat, (n : Int) * cr n E y j = (((E y - y) - (E j - j)) + ((E j - E y) % n)) - (((j : Int) - y) % n) := fun j => by
      unfold cr
      have a1 := Int.emod_add_mul_ediv ((j : Int) - y) n
      have a2 := Int.emod_add_mul_ediv (E j - E y) n
      rw [Int.mul_sub]; omega
    rw [S_congr fun j _ => e j, S_sub, S_add, S_sub, S_const, r.sum]
    have := S_res (F := fun c => c % n) (g := fun j => E j - E y) (h := fun j => (j : Int) - y) r.pos (fun c => Int.emod_emod_of_dvd _ (Int.dvd_refl _)) (r.res y) (res_id r.pos y)
    omega
  rw [S_mul] at h1
  exact Int.eq_of_mul_eq_mul_left (Int.ne_of_gt hp) h1
/-- nothing crosses y from the right: each class's net is at most 0 -/
theorem Rg.cr_le (r : Rg n E) {y : Int} (h : ∀ z, ¬ Inv E y z) (j : Nat) : cr n E y j ≤ 0 := by
  have hp : (0 : Int) < n := by have := r.pos; omega
  unfold cr
  -- the lift k of class j just below the bound
  rcases (show (E j - E y) / n < ((j : Int) - y) / n ∨ ((j : Int) - y) / n ≤ (E j - E y) / n by omega) with hl | hl
  · exfalso
    -- k with  j + k n > y  and  E j + k n < E y
    have a1 := Int.emod_add_mul_ediv ((j : Int) - y) n
    have a2 := Int.emod_add_mul_ediv (E j - E y) n
    have b1 := Int.emod_nonneg ((j : Int) - y) (Int.ne_of_gt hp)
    have b2 := Int.emod_lt_of_pos (E j - E y) hp
    have hk := r.perz j (-(((j : Int) - y) / n))
    have m1 : (-(((j : Int) - y) / n)) * (n : Int) = -((n : Int) * (((j : Int) - y) / n)) := by rw [Int.neg_mul, Int.mul_comm]
    have m2 : (n : Int) * ((E j - E y) / n + 1) ≤ n * (((j : Int) - y) / n) := Int.mul_le_mul_of_nonneg_left (by omega) (by omega)
    rw [Int.mul_add] at m2
    rw [m1] at hk
    have lt : E ((j : Int) + -((n : Int) * (((j : Int) - y) / n))) < E y := by rw [hk]; omega
    have ge : y ≤ (j : Int) + -((n : Int) * (((j : Int) - y) / n)) := by omega
    refine h _ ⟨?_, lt⟩
    rcases Int.lt_or_eq_of_le ge with z | z
    · exact z
    · rw [← z] at lt; omega
  · omega
theorem Rg.cr_ge (r : Rg n E) {y : Int} (h : ∀ x, ¬ Inv E x y) (j : Nat) : 0 ≤ cr n E y j := by
  have hp : (0 : Int) < n := by have := r.pos; omega
  unfold cr
  rcases (show ((j : Int) - y) / n < (E j - E y) / n ∨ (E j - E y) / n ≤ ((j : Int) - y) / n by omega) with hl | hl
  · exfalso
    have a1 := Int.emod_add_mul_ediv ((j : Int) - y) n
    have a2 := Int.emod_add_mul_ediv (E j - E y) n
    have b1 := Int.emod_lt_of_pos ((j : Int) - y) hp
    have b2 := Int.emod_nonneg (E j - E y) (Int.ne_of_gt hp)
    have hk := r.perz j (-((E j - E y) / n))
    have m1 : (-((E j - E y) / n)) * (n : Int) = -((n : Int) * ((E j - E y) / n)) := by rw [Int.neg_mul, Int.mul_comm]
    have m2 : (n : Int) * (((j : Int) - y) / n + 1) ≤ n * ((E j - E y) / n) := Int.mul_le_mul_of_nonneg_left (by omega) (by omega)
    rw [Int.mul_add] at m2
    rw [m1] at hk
    have ge : E y ≤ E ((j : Int) + -((n : Int) * ((E j - E y) / n))) := by rw [hk]; omega
    have lt : (j : Int) + -((n : Int) * ((E j - E y) / n)) < y := by omega
    refine h _ ⟨lt, ?_⟩
    rcases Int.lt_or_eq_of_le ge with z | z
    · exact z
    · have := r.inj' z; omega
  · omega
theorem Rg.cr_lift (r : Rg n E) (x y : Int) : (x % n).toNat < n ∧ cr n E y (x % n).toNat = (x - y) / n - (E x - E y) / n := by
  have hp : (0 : Int) < n := by have := r.pos; omega
  have b0 := Int.emod_nonneg x (Int.ne_of_gt hp)
  refine ⟨?_, ?_⟩
  · have := Int.emod_lt_of_pos x hp
    omega
  · unfold cr
    rw [Int.toNat_of_nonneg b0, r.emod]
    have ex : x % n = x - n * (x / n) := by have := Int.emod_add_mul_ediv x n; omega
    have e1 : (x % n - y) / n = (x - y) / n - x / n := by
      rw [ex, show x - n * (x / n) - y = (x - y) + n * (-(x / n)) by rw [Int.mul_neg]; omega, Int.add_mul_ediv_left _ _ (Int.ne_of_gt hp)]; omega
    have e2 : (E x - x / n * n - E y) / n = (E x - E y) / n - x / n := by
      rw [show E x - x / n * n - E y = (E x - E y) + n * (-(x / n)) by rw [Int.mul_neg, Int.mul_comm]; omega, Int.add_mul_ediv_left _ _ (Int.ne_of_gt hp)]; omega
    rw [e1, e2]; omega
/-- the class of x crosses y -/
theorem Rg.cr_neg (r : Rg n E) {x y : Int} (h : Inv E x y) : ∃ j, j < n ∧ cr n E y j < 0 := by
  have hp : (0 : Int) < n := by have := r.pos; omega
  obtain ⟨h0, e⟩ := r.cr_lift x y
  refine ⟨_, h0, ?_⟩
  rw [e]
  have h1 : (x - y) / n < 0 := Int.ediv_neg_of_neg_of_pos (by have := h.1; omega) hp
  have h2 : 0 ≤ (E x - E y) / n := Int.ediv_nonneg (by have := h.2; omega) (by omega)
  omega
theorem Rg.cr_pos (r : Rg n E) {y z : Int} (h : Inv E y z) : ∃ j, j < n ∧ 0 < cr n E y j := by
  have hp : (0 : Int) < n := by have := r.pos; omega
  obtain ⟨h0, e⟩ := r.cr_lift z y
  refine ⟨_, h0, ?_⟩
  rw [e]
  have h1 : (E z - E y) / n < 0 := Int.ediv_neg_of_neg_of_pos (by have := h.2; omega) hp
  have h2 : 0 ≤ (z - y) / n := Int.ediv_nonneg (by have := h.1; omega) (by omega)
  omega
theorem S_zero (n : Nat) : S (fun _ => 0) n = 0 := by rw [S_const]; simp
theorem Rg.left (r : Rg n E) (nt : ¬ Tri E) {x y : Int} (h : Inv E x y) : E y < y := by
  have hno : ∀ z, ¬ Inv E y z := fun z hz => nt ⟨x, y, z, h, hz⟩
  have := S_lt (f := cr n E y) (g := fun _ => 0) (n := n) (fun i _ => r.cr_le hno i) (r.cr_neg h)
  rw [r.flow, S_zero] at this
  omega
theorem Rg.right (r : Rg n E) (nt : ¬ Tri E) {y z : Int} (h : Inv E y z) : y < E y := by
  have hno : ∀ x, ¬ Inv E x y := fun x hx => nt ⟨x, y, z, hx, h⟩
  have := S_lt (g := cr n E y) (f := fun _ => 0) (n := n) (fun i _ => r.cr_ge hno i) (r.cr_pos h)
  rw [r.flow, S_zero] at this
  omega
theorem Rg.between (r : Rg n E) (nt : ¬ Tri E) {x y z : Int} (h : Inv E x z) (h1 : x < y) (h2 : y < z) : E y ≠ y := by
  by_cases e : E y < E x
  · have := r.left nt (x := x) ⟨h1, e⟩; omega
  · have hne : E y ≠ E x := fun z => by have := r.inj' z; omega
    have := r.right nt (z := z) ⟨h2, by have := h.2; omega⟩; omega
theorem Rg.meets (r : Rg n E) {x : Int} (h : x < E x) : ∃ z, Inv E x z := by
  by_cases q : ∃ z, Inv E x z
  · exact q
  · exfalso
    have hno : ∀ z, ¬ Inv E x z := fun z hz => q ⟨z, hz⟩
    have := S_le (f := cr n E x) (g := fun _ => 0) (n := n) fun i _ => r.cr_le hno i
    rw [r.flow, S_zero] at this
    omega
theorem adjacent (r : Rg n E) : ∀ (k : Nat) {x z : Int}, Inv E x z → (z - x).toNat ≤ k → ∃ x, Inv E x (x + 1)
  | 0, x, z, h, hk => by have := h.1; omega
  | k + 1, x, z, h, hk => by
    by_cases e : z = x + 1
    · exact ⟨x, e ▸ h⟩
    · have h1 := h.1
      by_cases q : E (x + 1) < E x
      · exact ⟨x, by omega, q⟩
      · have hne : E (x + 1) ≠ E x := fun z => by have := r.inj' z; omega
        exact adjacent r k (x := x + 1) (z := z) ⟨by omega, by have := h.2; omega⟩ (by omega)
/-- while something is to move, two neighbours may swap -/
theorem Rg.next (r : Rg n E) (nt : ¬ Tri E) (h : ∃ i : Nat, i < n ∧ E i ≠ i) : ∃ s : Nat, s < n ∧ (s : Int) < E s ∧ E (s + 1) < s + 1 := by
  have hp : (0 : Int) < n := by have := r.pos; omega
  have h1 : ∃ x : Int, x < E x := by
    by_cases q : ∃ x : Int, x < E x
    · exact q
    · exfalso
      obtain ⟨i, hi, hne⟩ := h
      have hle : ∀ x : Int, E x ≤ x := fun x => by
        rcases (show E x ≤ x ∨ x < E x by omega) with z | z
        · exact z
        · exact absurd ⟨x, z⟩ q
      have := S_lt (f := fun i : Nat => E i - i) (g := fun _ => 0) (n := n) (fun i _ => by have := hle i; omega) ⟨i, hi, by have := hle i; omega⟩
      rw [r.sum, S_zero] at this
      omega
  obtain ⟨x, hx⟩ := h1
  obtain ⟨z, hz⟩ := r.meets hx
  obtain ⟨y, hy⟩ := adjacent r _ hz (Nat.le_refl _)
  have a := r.right nt hy
  have b := r.left nt hy
  have b0 := Int.emod_nonneg y (Int.ne_of_gt hp)
  have b1 := Int.emod_lt_of_pos y hp
  have e1 := r.emod y
  have e2 := r.perz (y + 1) (-(y / n))
  have ey : y % n + 1 = y + 1 + -(y / n) * n := by
    have h := Int.emod_add_mul_ediv y n
    rw [Int.mul_comm] at h
    rw [Int.neg_mul]; omega
  have m1 : -(y / n) * (n : Int) = -(y / n * n) := by rw [Int.neg_mul]
  refine ⟨(y % n).toNat, by omega, ?_, ?_⟩
  · rw [Int.toNat_of_nonneg b0, e1]; omega
  · rw [Int.toNat_of_nonneg b0, ey, e2]; omega
end

/-! ### turned, mirrored, one swap done -/
section
variable {n : Nat} {E : Int → Int}
theorem Rg.resg (r : Rg n E) : Res n fun j => (j : Int) := by
  have := res_id (n := n) r.pos 0
  intro i j hi hj h
  exact this i j hi hj (by simpa using h)
theorem emod_eq_iff {n : Nat} {a b : Int} : a % n = b % n ↔ (n : Int) ∣ a - b := by
  constructor
  · intro h; exact Int.dvd_of_emod_eq_zero (by rw [Int.sub_emod, h]; simp)
  · rintro ⟨k, hk⟩
    have : a = b + n * k := by omega
    rw [this]; simp
def rot (f : Int) (E : Int → Int) : Int → Int := fun c => E (c - f) + f
def mir (m : Int) (E : Int → Int) : Int → Int := fun c => m - E (m - c)
theorem Rg.F (r : Rg n E) (c : Int) : E (c % n) - c % n = E c - c := by
  rw [r.emod]
  have h := Int.emod_add_mul_ediv c n
  rw [Int.mul_comm] at h
  omega
theorem Rg.rot (r : Rg n E) (f : Int) : Rg n (RM.rot f E) where
  pos := r.pos
  per := fun c => by
    show E (c + n - f) + f = E (c - f) + f + n
    rw [show c + (n : Int) - f = (c - f) + n by omega, r.per]; omega
  inj := fun a b h => by
    have h' : E (a - f) % n = E (b - f) % n := by
      rw [emod_eq_iff] at h ⊢
      have e : E (a - f) + f - (E (b - f) + f) = E (a - f) - E (b - f) := by omega
      unfold RM.rot at h
      rw [e] at h; exact h
    have := r.inj _ _ h'
    rw [emod_eq_iff] at this ⊢
    rw [show a - f - (b - f) = a - b by omega] at this
    exact this
  sum := by
    have e : S (fun i => RM.rot f E i - i) n = S (fun i : Nat => (fun c => E c - c) ((i : Int) - f)) n := S_congr fun i _ => by
      show E (i - f) + f - i = E (i - f) - (i - f); omega
    rw [e, S_res (F := fun c => E c - c) (h := fun i => (i : Int)) r.pos (fun c => r.F c) (res_id r.pos f) r.resg]
    exact r.sum
theorem res_mir (hn : 0 < n) (m : Int) : Res n fun j => m - (j : Int) := fun i j hi hj h => by
  rw [emod_eq_iff] at h
  have h2 : ((j : Int) - m) % n = ((i : Int) - m) % n := by
    rw [emod_eq_iff]
    rw [show (j : Int) - m - (i - m) = m - i - (m - j) by omega]; exact h
  exact (res_id hn m j i hj hi h2).symm
theorem Rg.mir (r : Rg n E) (m : Int) : Rg n (RM.mir m E) where
  pos := r.pos
  per := fun c => by
    show m - E (m - (c + n)) = m - E (m - c) + n
    have := r.per (m - (c + n))
    rw [show m - (c + (n : Int)) + n = m - c by omega] at this
    omega
  inj := fun a b h => by
    have h' : E (m - b) % n = E (m - a) % n := by
      rw [emod_eq_iff] at h ⊢
      unfold RM.mir at h
      rw [show m - E (m - a) - (m - E (m - b)) = E (m - b) - E (m - a) by omega] at h; exact h
    have := r.inj _ _ h'
    rw [emod_eq_iff] at this ⊢
    rw [show m - b - (m - a) = a - b by omega] at this
    exact this
  sum := by
    have e : S (fun i => RM.mir m E i - i) n = S (fun i : Nat => 0 - (fun c => E c - c) (m - (i : Int))) n := S_congr fun i _ => by
      show m - E (m - i) - i = 0 - (E (m - i) - (m - i)); omega
    rw [e, S_sub, S_zero, S_res (F := fun c => E c - c) (h := fun i => (i : Int)) r.pos (fun c => r.F c) (res_mir r.pos m) r.resg, r.sum]; rfl
theorem inv_rot {f x z : Int} : Inv (rot f E) x z ↔ Inv E (x - f) (z - f) := by unfold Inv rot; constructor <;> (intro h; omega)
theorem inv_mir {m x z : Int} : Inv (mir m E) x z ↔ Inv E (m - z) (m - x) := by unfold Inv mir; constructor <;> (intro h; omega)
theorem tri_rot {f : Int} : Tri (rot f E) ↔ Tri E := by
  constructor
  · rintro ⟨x, y, z, h1, h2⟩; exact ⟨_, _, _, inv_rot.mp h1, inv_rot.mp h2⟩
  · rintro ⟨x, y, z, h1, h2⟩
    exact ⟨x + f, y + f, z + f, inv_rot.mpr (by simpa [Int.add_sub_cancel] using h1), inv_rot.mpr (by simpa [Int.add_sub_cancel] using h2)⟩
theorem tri_mir {m : Int} : Tri (mir m E) ↔ Tri E := by
  constructor
  · rintro ⟨x, y, z, h1, h2⟩; exact ⟨_, _, _, inv_mir.mp h2, inv_mir.mp h1⟩
  · rintro ⟨x, y, z, h1, h2⟩
    exact ⟨m - z, m - y, m - x, inv_mir.mpr (by simpa [Int.sub_sub_self] using h2), inv_mir.mpr (by simpa [Int.sub_sub_self] using h1)⟩
/-- the places s, s + 1 (and their copies) exchanged -/
def sw (n : Nat) (s c : Int) : Int := if (n : Int) ∣ c - s then c + 1 else if (n : Int) ∣ c - (s + 1) then c - 1 else c
theorem sw_cases (n : Nat) (s c : Int) : ((n : Int) ∣ c - s ∧ sw n s c = c + 1) ∨ (¬ (n : Int) ∣ c - s ∧ (n : Int) ∣ c - (s + 1) ∧ sw n s c = c - 1) ∨ (¬ (n : Int) ∣ c - s ∧ ¬ (n : Int) ∣ c - (s + 1) ∧ sw n s c = c) := by
  unfold sw
  by_cases h1 : (n : Int) ∣ c - s
  · exact .inl ⟨h1, if_pos h1⟩
  · by_cases h2 : (n : Int) ∣ c - (s + 1)
    · exact .inr (.inl ⟨h1, h2, by rw [if_neg h1, if_pos h2]⟩)
    · exact .inr (.inr ⟨h1, h2, by rw [if_neg h1, if_neg h2]⟩)
theorem not_dvd_one (hn : 2 ≤ n) {c s : Int} (h : (n : Int) ∣ c - s) : ¬ (n : Int) ∣ c - (s + 1) := fun h2 => by
  have h3 := Int.dvd_sub h h2
  rw [show c - s - (c - (s + 1)) = 1 by omega] at h3
  have := Int.le_of_dvd (by omega) h3
  omega
theorem sw_sw (hn : 2 ≤ n) (s c : Int) : sw n s (sw n s c) = c := by
  rcases sw_cases n s c with ⟨h1, e⟩ | ⟨h1, h2, e⟩ | ⟨h1, h2, e⟩
  · rw [e]
    have a : (n : Int) ∣ c + 1 - (s + 1) := by rw [show c + 1 - (s + 1) = c - s by omega]; exact h1
    rcases sw_cases n s (c + 1) with ⟨g1, _⟩ | ⟨_, _, e'⟩ | ⟨_, g2, _⟩
    · exact absurd a (not_dvd_one hn g1)
    · rw [e']; omega
    · exact absurd a g2
  · rw [e]
    have a : (n : Int) ∣ c - 1 - s := by rw [show c - 1 - s = c - (s + 1) by omega]; exact h2
    unfold sw
    rw [if_pos a]; omega
  · rw [e, e]
theorem sw_per (s c : Int) : sw n s (c + n) = sw n s c + n := by
  have k : ∀ t : Int, (n : Int) ∣ c + n - t ↔ (n : Int) ∣ c - t := fun t => by
    rw [show c + (n : Int) - t = (c - t) + n by omega]
    exact Int.dvd_add_left (Int.dvd_refl _)
  unfold sw
  simp only [k]
  split
  · omega
  · split <;> omega
end
end RM

set_option Elab.async false
set_option linter.all false
namespace RM
section
variable {n : Nat} {E : Int → Int}
theorem S_ind (a : Nat) (v : Int) : ∀ n, S (fun i => if i = a then v else 0) n = if a < n then v else 0
  | 0 => by simp [S]
  | k + 1 => by
    rw [S, S_ind a v k]
    by_cases h1 : a < k
    · rw [if_pos h1, if_neg (by omega), if_pos (by omega)]; omega
    · by_cases h2 : k = a
      · rw [if_neg h1, if_pos h2, if_pos (by omega)]; omega
      · rw [if_neg h1, if_neg h2, if_neg (by omega)]; omega
/-- E behind the exchange -/
def swp (n : Nat) (s : Int) (E : Int → Int) : Int → Int := fun c => E (sw n s c)
theorem sw_inj (hn : 2 ≤ n) {s a b : Int} (h : sw n s a = sw n s b) : a = b := by
  have := congrArg (sw n s) h
  rwa [sw_sw hn, sw_sw hn] at this
theorem sw_mod {s c : Int} (hn : 0 < n) : ∃ k : Int, sw n s c = sw n s (c % n) + k * n ∧ c = c % n + k * n := by
  have h := Int.emod_add_mul_ediv c n
  rw [Int.mul_comm] at h
  refine ⟨c / n, ?_, by omega⟩
  have key : ∀ (k : Nat) (t : Int), sw n s (t + k * n) = sw n s t + k * n := fun k => by
    induction k with
    | zero => intro t; simp
    | succ k ih =>
      intro t
      rw [show t + ((k + 1 : Nat) : Int) * n = (t + k * n) + n by rw [Int.natCast_succ, Int.add_mul]; omega, sw_per, ih, Int.natCast_succ, Int.add_mul]; omega
  rcases Int.le_total 0 (c / n) with g | g
  · obtain ⟨m, hm⟩ := Int.eq_ofNat_of_zero_le g
    have := key m (c % n)
    rw [← hm] at this
    rw [← this]; congr 1; omega
  · obtain ⟨m, hm⟩ := Int.eq_ofNat_of_zero_le (show 0 ≤ -(c / n) by omega)
    have := key m c
    have e : c + (m : Int) * n = c % n := by
      rw [← hm, Int.neg_mul]; omega
    rw [e] at this
    have e2 : (m : Int) * n = -(c / n * n) := by rw [← hm, Int.neg_mul]
    omega
theorem Rg.swp (r : Rg n E) (hn : 2 ≤ n) (s : Nat) (hs : s < n) : Rg n (RM.swp n s E) where
  pos := r.pos
  per := fun c => by
    show E (sw n s (c + n)) = E (sw n s c) + n
    rw [sw_per, r.per]
  inj := fun a b h => by
    have h1 := r.inj _ _ h
    -- the same residue behind sw: the same residue ahead
    have hp : (0 : Int) < n := by omega
    have key : ∀ x y : Int, x % n = y % n → sw n s x % n = sw n s y % n := fun x y e => by
      obtain ⟨k, h2, _⟩ := sw_mod (n := n) (s := s) (c := x) (by omega)
      obtain ⟨l, h3, _⟩ := sw_mod (n := n) (s := s) (c := y) (by omega)
      rw [h2, h3, e]; simp
    have := key _ _ h1
    rwa [sw_sw hn, sw_sw hn] at this
  sum := by
    have hp : (0 : Int) < n := by omega
    have hres : Res n fun i => sw n s (i : Int) := fun i j hi hj h => by
      have key : ∀ x y : Int, x % n = y % n → sw n s x % n = sw n s y % n := fun x y e => by
        obtain ⟨k, h2, _⟩ := sw_mod (n := n) (s := s) (c := x) (by omega)
        obtain ⟨l, h3, _⟩ := sw_mod (n := n) (s := s) (c := y) (by omega)
        rw [h2, h3, e]; simp
      have h2 := key _ _ h
      rw [sw_sw hn, sw_sw hn] at h2
      exact r.resg i j hi hj h2
    have e : S (fun i => RM.swp n s E i - i) n = S (fun i : Nat => (fun c => E c - c) (sw n s i) + (sw n s i - i)) n := S_congr fun i _ => by
      show E (sw n s i) - i = E (sw n s i) - sw n s i + (sw n s i - i); omega
    rw [e, S_add, S_res (F := fun c => E c - c) (h := fun i => (i : Int)) r.pos (fun c => r.F c) hres r.resg, r.sum]
    -- the moves of sw itself
    have nd : ∀ (i : Nat) (t : Int), i < n → 0 ≤ t → t < n → ((n : Int) ∣ (i : Int) - t ↔ (i : Int) = t) := fun i t hi h0 h1 => by
      constructor
      · rintro ⟨k, hk⟩
        have k0 : k = 0 := by
          rcases Int.lt_trichotomy k 0 with z | z | z
          · have : (n : Int) * k ≤ n * (-1) := Int.mul_le_mul_of_nonneg_left (by omega) (by omega)
            omega
          · exact z
          · have : (n : Int) * 1 ≤ n * k := Int.mul_le_mul_of_nonneg_left (by omega) (by omega)
            omega
        rw [k0] at hk; omega
      · intro e; rw [e]; simp
    by_cases hl : s + 1 < n
    · have e2 : S (fun i : Nat => sw n s i - i) n = S (fun i => (if i = s then 1 else 0) + (if i = s + 1 then -1 else 0)) n := S_congr fun i hi => by
        rcases sw_cases n s i with ⟨h1, q⟩ | ⟨h1, h2, q⟩ | ⟨h1, h2, q⟩
        · have a := (nd i s hi (by omega) (by omega)).mp h1
          rw [q, if_pos (by omega), if_neg (by omega)]; omega
        · have b := (nd i (s + 1) hi (by omega) (by omega)).mp h2
          rw [q, if_neg (by omega), if_pos (by omega)]; omega
        · have a : ¬ (i : Int) = s := fun z => h1 ((nd i s hi (by omega) (by omega)).mpr z)
          have b : ¬ (i : Int) = s + 1 := fun z => h2 ((nd i (s + 1) hi (by omega) (by omega)).mpr z)
          rw [q, if_neg (by omega), if_neg (by omega)]; omega
      rw [e2, S_add, S_ind, S_ind, if_pos hs, if_pos hl]; rfl
    · have e1 : ∀ i : Nat, ((n : Int) ∣ (i : Int) - (s + 1) ↔ (n : Int) ∣ (i : Int) - 0) := fun i => by
        rw [show (i : Int) - 0 = (i - (s + 1)) + n by omega]
        exact (Int.dvd_add_left (Int.dvd_refl _)).symm
      have e2 : S (fun i : Nat => sw n s i - i) n = S (fun i => (if i = s then 1 else 0) + (if i = 0 then -1 else 0)) n := S_congr fun i hi => by
        rcases sw_cases n s i with ⟨h1, q⟩ | ⟨h1, h2, q⟩ | ⟨h1, h2, q⟩
        · have a := (nd i s hi (by omega) (by omega)).mp h1
          rw [q, if_pos (by omega), if_neg (by omega)]; omega
        · have b := (nd i 0 hi (by omega) (by omega)).mp ((e1 i).mp h2)
          rw [q, if_neg (by omega), if_pos (by omega)]; omega
        · have a : ¬ (i : Int) = s := fun z => h1 ((nd i s hi (by omega) (by omega)).mpr z)
          have b : ¬ (i : Int) = 0 := fun z => h2 ((e1 i).mpr ((nd i 0 hi (by omega) (by omega)).mpr z))
          rw [q, if_neg (by omega), if_neg (by omega)]; omega
      rw [e2, S_add, S_ind, S_ind, if_pos hs, if_pos (by omega)]; rfl
theorem Rg.atk (r : Rg n E) {s c : Int} (h : (n : Int) ∣ c - s) : E c - c = E s - s := by
  obtain ⟨k, hk⟩ := h
  have := r.perz s k
  rw [show s + k * (n : Int) = c by rw [Int.mul_comm]; omega] at this
  have := Int.mul_comm k (n : Int)
  omega
theorem tri_swp (r : Rg n E) (hn : 2 ≤ n) {s : Int} (h1 : s < E s) (h2 : E (s + 1) < s + 1) (t : Tri (swp n s E)) : Tri E := by
  have key : ∀ {a b : Int}, Inv (swp n s E) a b → Inv E (sw n s a) (sw n s b) := fun {a b} h => by
    refine ⟨?_, h.2⟩
    have hlt := h.1
    have hne : sw n s a ≠ sw n s b := fun e => by have := sw_inj hn e; omega
    rcases sw_cases n s a with ⟨g1, e1⟩ | ⟨g1, g2, e1⟩ | ⟨g1, g2, e1⟩
    · rcases sw_cases n s b with ⟨k1, e2⟩ | ⟨k1, k2, e2⟩ | ⟨k1, k2, e2⟩
      · omega
      · -- a + 1 against b - 1
        by_cases q : b = a + 1
        · exfalso
          have hi : E (sw n s b) < E (sw n s a) := h.2
          rw [e1, e2, q, Int.add_sub_cancel] at hi
          have x1 := r.atk g1
          have x2 := r.atk (s := s + 1) (c := a + 1) (by rw [show a + 1 - (s + 1) = a - s by omega]; exact g1)
          omega
        · omega
      · by_cases q : b = a + 1
        · exact absurd (by rw [q, show a + 1 - (s + 1) = a - s by omega]; exact g1) k2
        · omega
    · rcases sw_cases n s b with ⟨k1, e2⟩ | ⟨k1, k2, e2⟩ | ⟨k1, k2, e2⟩ <;> omega
    · rcases sw_cases n s b with ⟨k1, e2⟩ | ⟨k1, k2, e2⟩ | ⟨k1, k2, e2⟩ <;> omega
  obtain ⟨x, y, z, ha, hb⟩ := t
  exact ⟨_, _, _, key ha, key hb⟩

/-! ### counting -/
/-- how many of lo, lo + 1, .. (k of them) have p -/
def cnt (p : Int → Bool) (lo : Int) (k : Nat) : Int := S (fun i => if p (lo + i) = true then 1 else 0) k
theorem cnt_shift (p : Int → Bool) (lo f : Int) (k : Nat) : cnt (fun c => p (c - f)) (lo + f) k = cnt p lo k := S_congr fun i _ => by
  show (if p (lo + f + i - f) = true then (1 : Int) else 0) = _
  rw [show lo + f + (i : Int) - f = lo + i by omega]
theorem S_rev (f : Nat → Int) : ∀ n, S (fun i => f (n - 1 - i)) n = S f n
  | 0 => rfl
  | k + 1 => by
    have hs : ∀ (g : Nat → Int) m, S g (m + 1) = g 0 + S (fun i => g (i + 1)) m := fun g m => by
      induction m with
      | zero => simp [S]
      | succ m ih => rw [S, ih, S]; omega
    rw [hs, S, ← S_rev f k]
    have e : S (fun i => f (k + 1 - 1 - (i + 1))) k = S (fun i => f (k - 1 - i)) k := S_congr fun i _ => by rw [show k + 1 - 1 - (i + 1) = k - 1 - i by omega]
    rw [e]
    show f (k + 1 - 1 - 0) + _ = _
    rw [show k + 1 - 1 - 0 = k by omega]; omega
/-- read from the other end -/
theorem cnt_mir (p : Int → Bool) (lo m : Int) (k : Nat) : cnt (fun c => p (m - c)) (m - (lo + k - 1)) k = cnt p lo k := by
  unfold cnt
  rw [← S_rev (fun i => if p (lo + i) = true then 1 else 0)]
  refine S_congr fun i hi => ?_
  show (if p (m - (m - (lo + (k : Int) - 1) + i)) = true then (1 : Int) else 0) = _
  rw [show m - (m - (lo + (k : Int) - 1) + i) = lo + ((k - 1 - i : Nat) : Int) by omega]
theorem cnt_not (p q : Int → Bool) (lo : Int) (k : Nat) (h : ∀ i : Nat, i < k → p (lo + i) = !q (lo + i)) : cnt p lo k + cnt q lo k = k := by
  unfold cnt
  rw [← S_add, S_congr (g := fun _ => 1) fun i hi => ?_, S_const]; · omega
  show (if p (lo + i) = true then 1 else 0) + (if q (lo + i) = true then 1 else 0) = (1 : Int)
  rw [h i hi]
  cases q (lo + i) <;> rfl
theorem cnt_len (p : Int → Bool) (lo : Int) (k : Nat) : ((((List.range k).map fun i : Nat => lo + i).filter p).length : Int) = cnt p lo k := by
  unfold cnt
  induction k with
  | zero => rfl
  | succ k ih =>
    rw [List.range_succ, List.map_append, List.filter_append, List.length_append, S, Int.natCast_add, ih]
    congr 1
    simp only [List.map_cons, List.map_nil]
    by_cases h : p (lo + k) = true
    · rw [List.filter_cons_of_pos h, if_pos h]; rfl
    · rw [List.filter_cons_of_neg h, if_neg h]; rfl
theorem S_comm (f : Nat → Nat → Int) (m : Nat) : ∀ n, S (fun i => S (fun j => f i j) m) n = S (fun j => S (fun i => f i j) n) m
  | 0 => (S_zero m).symm
  | k + 1 => by
    rw [S, S_comm f m k, ← S_add]; rfl
/-- crossings counted from the left side and from the right -/
theorem Rg.two_sides (r : Rg n E) (M : Nat) :
    S (fun i => cnt (fun z => decide (E z < E i)) (i + 1) M) n = S (fun i => cnt (fun z => decide (E i < E z)) (i - M) M) n := by
  have hq : ∀ k : Nat, ∀ c : Int, (fun c : Int => if E (c + 1 + k) < E c then (1 : Int) else 0) (c % n) = (fun c : Int => if E (c + 1 + k) < E c then (1 : Int) else 0) c := fun k c => by
    have h := Int.emod_add_mul_ediv c n
    rw [Int.mul_comm] at h
    have h1 := r.emod c
    have h2 := r.perz (c % n + 1 + k) (c / n)
    rw [show c % n + 1 + (k : Int) + c / n * n = c + 1 + k by omega] at h2
    show (if E (c % n + 1 + k) < E (c % n) then (1 : Int) else 0) = if E (c + 1 + k) < E c then 1 else 0
    by_cases g : E (c + 1 + k) < E c
    · rw [if_pos g, if_pos (by omega)]
    · rw [if_neg g, if_neg (by omega)]
  have h1 : S (fun i => cnt (fun z => decide (E z < E i)) (i + 1) M) n = S (fun k : Nat => S (fun i : Nat => (fun c : Int => if E (c + 1 + k) < E c then (1 : Int) else 0) i) n) M := by
    rw [← S_comm]
    refine S_congr fun i _ => ?_
    unfold cnt
    refine S_congr fun k _ => ?_
    simp only [decide_eq_true_eq]
  have h2 : S (fun i => cnt (fun z => decide (E i < E z)) (i - M) M) n = S (fun k : Nat => S (fun i : Nat => (fun c : Int => if E (c + 1 + k) < E c then (1 : Int) else 0) (i - (k + 1))) n) M := by
    rw [← S_comm]
    refine S_congr fun i _ => ?_
    unfold cnt
    rw [← S_rev]
    refine S_congr fun k hk => ?_
    simp only [decide_eq_true_eq]
    rw [show (i : Int) - M + ((M - 1 - k : Nat) : Int) = i - (k + 1) by omega, show (i : Int) - (k + 1) + 1 + k = i by omega]
  rw [h1, h2]
  refine S_congr fun k _ => ?_
  exact (S_res (F := fun c : Int => if E (c + 1 + k) < E c then (1 : Int) else 0) r.pos (hq k) (res_id r.pos (k + 1)) r.resg).symm

/-! ### where two meet, who minds -/
/-- how many between x and z go left -/
def lf (E : Int → Int) (x z : Int) : Int := cnt (fun y => decide (E y < y)) (x + 1) (z - (x + 1)).toNat
def plc (E : Int → Int) (x z : Int) : Int := x + lf E x z
def Ref (T : Int → Int → Int) (E : Int → Int) : Prop := ∃ x z, Inv E x z ∧ (T (plc E x z) x < T (plc E x z) z ∨ T (plc E x z + 1) z < T (plc E x z + 1) x)
theorem lf_rot (f x z : Int) : lf (rot f E) (x + f) (z + f) = lf E x z := by
  unfold lf
  rw [show z + f - (x + f + 1) = z - (x + 1) by omega, show x + f + 1 = (x + 1) + f by omega, ← cnt_shift (fun y => decide (E y < y)) (x + 1) f]
  unfold cnt
  refine S_congr fun i _ => ?_
  have e : decide (rot f E (x + 1 + f + i) < x + 1 + f + i) = decide (E (x + 1 + f + i - f) < x + 1 + f + i - f) := by
    unfold rot
    exact decide_eq_decide.mpr (by omega)
  show (if decide (rot f E (x + 1 + f + i) < x + 1 + f + i) = true then (1 : Int) else 0) = _
  rw [e]
theorem ref_rot {T T' : Int → Int → Int} (f : Int) (hT : ∀ a b, T' (a + f) (b + f) = T a b) : Ref T' (rot f E) ↔ Ref T E := by
  have key : ∀ x z, (T' (plc (rot f E) (x + f) (z + f)) (x + f) < T' (plc (rot f E) (x + f) (z + f)) (z + f) ∨ T' (plc (rot f E) (x + f) (z + f) + 1) (z + f) < T' (plc (rot f E) (x + f) (z + f) + 1) (x + f)) ↔
      (T (plc E x z) x < T (plc E x z) z ∨ T (plc E x z + 1) z < T (plc E x z + 1) x) := fun x z => by
    unfold plc
    rw [lf_rot, show x + f + lf E x z = (x + lf E x z) + f by omega, show x + lf E x z + f + 1 = (x + lf E x z + 1) + f by omega, hT, hT, hT, hT]
  constructor
  · rintro ⟨x, z, h, g⟩
    refine ⟨x - f, z - f, inv_rot.mp h, (key _ _).mp ?_⟩
    rw [show x - f + f = x by omega, show z - f + f = z by omega]; exact g
  · rintro ⟨x, z, h, g⟩
    exact ⟨x + f, z + f, inv_rot.mpr (by rw [show x + f - f = x by omega, show z + f - f = z by omega]; exact h), (key _ _).mpr g⟩
theorem plc_mir (r : Rg n E) (nt : ¬ Tri E) {m x z : Int} (h : Inv E x z) : plc (mir m E) (m - z) (m - x) = m - (plc E x z + 1) := by
  have h1 := h.1
  unfold plc lf
  have e1 : (m - x - (m - z + 1)).toNat = (z - (x + 1)).toNat := by omega
  rw [e1]
  generalize hk : (z - (x + 1)).toNat = k
  have e2 : m - z + 1 = m - ((x + 1) + (k : Int) - 1) := by omega
  rw [e2]
  have e3 : cnt (fun y => decide (mir m E y < y)) (m - (x + 1 + (k : Int) - 1)) k = cnt (fun y => decide (y < E y)) (x + 1) k := by
    rw [← cnt_mir (fun y => decide (y < E y)) (x + 1) m k]
    unfold cnt
    refine S_congr fun i _ => ?_
    have e : ∀ t : Int, decide (mir m E t < t) = decide (m - t < E (m - t)) := fun t => decide_eq_decide.mpr (by unfold mir; omega)
    show (if decide (mir m E (m - (x + 1 + (k : Int) - 1) + i) < m - (x + 1 + (k : Int) - 1) + i) = true then (1 : Int) else 0) = _
    rw [e]
  rw [e3]
  have e4 := cnt_not (fun y => decide (y < E y)) (fun y => decide (E y < y)) (x + 1) k fun i hi => by
    have := r.between nt h (y := x + 1 + i) (by omega) (by omega)
    by_cases g : E (x + 1 + i) < x + 1 + i
    · rw [decide_eq_true g, decide_eq_false (by omega)]; rfl
    · rw [decide_eq_false g, decide_eq_true (by omega)]; rfl
  omega
theorem ref_mir {T T' : Int → Int → Int} (r : Rg n E) (nt : ¬ Tri E) (m : Int) (hT : ∀ a b, T' (m - a) (m - b) = T a b) : Ref T' (mir m E) ↔ Ref T E := by
  have key : ∀ x z, Inv E x z → ((T' (plc (mir m E) (m - z) (m - x)) (m - z) < T' (plc (mir m E) (m - z) (m - x)) (m - x) ∨ T' (plc (mir m E) (m - z) (m - x) + 1) (m - x) < T' (plc (mir m E) (m - z) (m - x) + 1) (m - z)) ↔
      (T (plc E x z) x < T (plc E x z) z ∨ T (plc E x z + 1) z < T (plc E x z + 1) x)) := fun x z h => by
    rw [plc_mir r nt h, show m - (plc E x z + 1) + 1 = m - plc E x z by omega, hT, hT, hT, hT]
    exact ⟨fun q => q.symm, fun q => q.symm⟩
  constructor
  · rintro ⟨x, z, h, g⟩
    have h' := inv_mir.mp h
    refine ⟨m - z, m - x, h', (key _ _ h').mp ?_⟩
    rw [show m - (m - x) = x by omega, show m - (m - z) = z by omega]; exact g
  · rintro ⟨x, z, h, g⟩
    exact ⟨m - z, m - x, inv_mir.mpr (by rw [show m - (m - x) = x by omega, show m - (m - z) = z by omega]; exact h), (key _ _ h).mpr g⟩
end
end RM

set_option Elab.async false
set_option linter.all false
namespace RM
section
variable {n : Nat} {E : Int → Int} {s : Int}
theorem cnt_succ (p : Int → Bool) (lo : Int) (k : Nat) : cnt p lo (k + 1) = (if p lo = true then 1 else 0) + cnt p (lo + 1) k := by
  unfold cnt
  induction k with
  | zero => simp [S]
  | succ k ih =>
    rw [S, ih, S]
    rw [show lo + ((k + 1 : Nat) : Int) = lo + 1 + (k : Int) by omega]; omega
theorem cnt_last (p : Int → Bool) (lo : Int) (k : Nat) : cnt p lo (k + 1) = cnt p lo k + (if p (lo + k) = true then 1 else 0) := rfl
theorem sw_at (h : (n : Int) ∣ c - s) : sw n s c = c + 1 := by unfold sw; rw [if_pos h]
theorem sw_nx (hn : 2 ≤ n) {c : Int} (h : (n : Int) ∣ c - (s + 1)) : sw n s c = c - 1 := by
  unfold sw
  rw [if_neg (fun z => not_dvd_one hn z h), if_pos h]
theorem sw_no {c : Int} (h1 : ¬ (n : Int) ∣ c - s) (h2 : ¬ (n : Int) ∣ c - (s + 1)) : sw n s c = c := by
  unfold sw; rw [if_neg h1, if_neg h2]
/-- an interval that cuts no pair -/
theorem cnt_sw (hn : 2 ≤ n) (p : Int → Bool) : ∀ (k : Nat) (lo : Int), ¬ (n : Int) ∣ lo - (s + 1) → (k = 0 ∨ ¬ (n : Int) ∣ lo + k - (s + 1)) → cnt (fun y => p (sw n s y)) lo k = cnt p lo k
  | 0, lo, _, _ => rfl
  | 1, lo, h1, h2 => by
    by_cases h : (n : Int) ∣ lo - s
    · exfalso
      rcases h2 with z | z
      · omega
      · exact z (by rw [show lo + ((1 : Nat) : Int) - (s + 1) = lo - s by omega]; exact h)
    · rw [cnt_succ, cnt_succ]
      rw [sw_no h h1]; rfl
  | k + 2, lo, h1, h2 => by
    by_cases h : (n : Int) ∣ lo - s
    · have a : (n : Int) ∣ lo + 1 - (s + 1) := by rw [show lo + 1 - (s + 1) = lo - s by omega]; exact h
      have b : ¬ (n : Int) ∣ lo + 1 + 1 - (s + 1) := fun z => not_dvd_one hn (c := lo + 1 + 1) (s := s + 1) z (by rw [show lo + 1 + 1 - (s + 1 + 1) = lo - s by omega]; exact h)
      have ih := cnt_sw hn p k (lo + 1 + 1) b (by
        rcases h2 with z | z
        · omega
        · rw [show lo + ((k + 2 : Nat) : Int) - (s + 1) = lo + 1 + 1 + (k : Int) - (s + 1) by omega] at z
          exact .inr z)
      rw [cnt_succ, cnt_succ, cnt_succ p, cnt_succ p, ih, sw_at h, sw_nx hn a, show lo + 1 - 1 = lo by omega]; omega
    · have b : ¬ (n : Int) ∣ lo + 1 - (s + 1) := by rw [show lo + 1 - (s + 1) = lo - s by omega]; exact h
      have ih := cnt_sw hn p (k + 1) (lo + 1) b (by
        rcases h2 with z | z
        · omega
        · rw [show lo + ((k + 2 : Nat) : Int) - (s + 1) = lo + 1 + ((k + 1 : Nat) : Int) - (s + 1) by omega] at z
          exact .inr z)
      rw [cnt_succ, cnt_succ p, ih, sw_no h h1]
/-- between an inversion the left-goers are those that x passes -/
theorem lf_alt (r : Rg n E) (nt : ¬ Tri E) {x z : Int} (h : Inv E x z) : lf E x z = cnt (fun y => decide (E y < E x)) (x + 1) (z - (x + 1)).toNat := by
  have h1 := h.1
  have h2 := h.2
  unfold lf cnt
  refine S_congr fun i hi => ?_
  have e : decide (E (x + 1 + i) < x + 1 + i) = decide (E (x + 1 + i) < E x) := by
    refine decide_eq_decide.mpr ⟨fun a => ?_, fun a => r.left nt (x := x) ⟨by omega, a⟩⟩
    rcases (show E (x + 1 + i) < E x ∨ E x ≤ E (x + 1 + i) by omega) with q | q
    · exact q
    · have := r.right nt (y := x + 1 + i) (z := z) ⟨by omega, by omega⟩
      omega
  show (if decide (E (x + 1 + i) < x + 1 + i) = true then (1 : Int) else 0) = if decide (E (x + 1 + i) < E x) = true then 1 else 0
  rw [e]
/-- order behind the exchange -/
theorem sw_lt (hn : 2 ≤ n) {a b : Int} (h : a < b) : sw n s a < sw n s b ∨ ((n : Int) ∣ a - s ∧ b = a + 1) := by
  rcases sw_cases n s a with ⟨g1, e1⟩ | ⟨g1, g2, e1⟩ | ⟨g1, g2, e1⟩
  · by_cases q : b = a + 1
    · exact .inr ⟨g1, q⟩
    · left
      rcases sw_cases n s b with ⟨k1, e2⟩ | ⟨k1, k2, e2⟩ | ⟨k1, k2, e2⟩
      · omega
      · have hne : sw n s a ≠ sw n s b := fun e => by have := sw_inj hn e; omega
        omega
      · omega
  · left
    rcases sw_cases n s b with ⟨k1, e2⟩ | ⟨k1, k2, e2⟩ | ⟨k1, k2, e2⟩ <;> omega
  · rcases sw_cases n s b with ⟨k1, e2⟩ | ⟨k1, k2, e2⟩ | ⟨k1, k2, e2⟩
    · left; omega
    · left
      have hne : sw n s a ≠ sw n s b := fun e => by have := sw_inj hn e; omega
      omega
    · left; omega
/-- where two meet does not change by a swap of others -/
theorem plc_swp (r : Rg n E) (nt : ¬ Tri E) (hn : 2 ≤ n) (h1 : s < E s) (h2 : E (s + 1) < s + 1) (nt' : ¬ Tri (swp n s E)) (r' : Rg n (swp n s E)) {x z : Int} (h : Inv E x z) (hne : ¬ ((n : Int) ∣ x - s ∧ z = x + 1)) :
    plc (swp n s E) (sw n s x) (sw n s z) = plc E x z := by
  have hlt := h.1
  have hE := h.2
  have hord : sw n s x < sw n s z := (sw_lt hn hlt).resolve_right hne
  have hI : Inv (swp n s E) (sw n s x) (sw n s z) := ⟨hord, by unfold swp; rw [sw_sw hn, sw_sw hn]; exact hE⟩
  -- x is no left-goer at s + 1, z no right-goer at s
  have hx : ¬ (n : Int) ∣ x - (s + 1) := fun g => by
    have a := r.atk g
    have b := r.right nt h
    omega
  have hz : ¬ (n : Int) ∣ z - s := fun g => by
    have a := r.atk g
    have b := r.left nt h
    omega
  unfold plc
  rw [lf_alt r' nt' hI, lf_alt r nt h]
  have e0 : cnt (fun y => decide (swp n s E y < swp n s E (sw n s x))) (sw n s x + 1) (sw n s z - (sw n s x + 1)).toNat = cnt (fun y => (fun y => decide (E y < E x)) (sw n s y)) (sw n s x + 1) (sw n s z - (sw n s x + 1)).toNat := by
    have : (fun y => decide (swp n s E y < swp n s E (sw n s x))) = fun y => (fun y => decide (E y < E x)) (sw n s y) := by
      funext y; unfold swp; rw [sw_sw hn]
    rw [this]
  rw [e0]
  generalize hp : (fun y : Int => decide (E y < E x)) = p
  -- the right-goer just ahead of z
  have pz : (n : Int) ∣ z - (s + 1) → p (z - 1) = false := fun g => by
    have g' : (n : Int) ∣ (z - 1) - s := by rw [show z - 1 - s = z - (s + 1) by omega]; exact g
    have a := r.atk g'
    rw [← hp]
    refine decide_eq_false fun q => ?_
    by_cases q2 : z - 1 = x
    · rw [q2] at q; omega
    · have := r.left nt (x := x) (y := z - 1) ⟨by omega, q⟩
      omega
  by_cases gx : (n : Int) ∣ x - s
  · have px : p (x + 1) = true := by
      have a := r.atk gx
      have b := r.atk (s := s + 1) (c := x + 1) (by rw [show x + 1 - (s + 1) = x - s by omega]; exact gx)
      rw [← hp]
      exact decide_eq_true (by omega)
    have hxz : z ≠ x + 1 := fun q => hne ⟨gx, q⟩
    have g2 : ¬ (n : Int) ∣ x + 1 + 1 - (s + 1) := fun q => not_dvd_one hn (c := x + 1 + 1) (s := s + 1) q (by rw [show x + 1 + 1 - (s + 1 + 1) = x - s by omega]; exact gx)
    rw [sw_at gx]
    by_cases gz : (n : Int) ∣ z - (s + 1)
    · rw [sw_nx hn gz]
      have hz2 : z ≠ x + 2 := fun q => g2 (by rw [show x + 1 + 1 - (s + 1) = z - (s + 1) by omega]; exact gz)
      obtain ⟨k, hk⟩ : ∃ k : Nat, (z - 1 - (x + 1 + 1)).toNat = k := ⟨_, rfl⟩
      have e1 : (z - (x + 1)).toNat = k + 1 + 1 := by omega
      rw [hk, e1, cnt_last, cnt_succ, if_pos px, cnt_sw hn p k (x + 1 + 1) g2 (.inr (by
        rw [show x + 1 + 1 + (k : Int) - (s + 1) = (z - 1) - (s + 1) by omega]
        exact not_dvd_one hn (by rw [show z - 1 - s = z - (s + 1) by omega]; exact gz)))]
      rw [show x + 1 + ((k + 1 : Nat) : Int) = z - 1 by omega, pz gz]
      simp; omega
    · rw [sw_no hz gz]
      obtain ⟨k, hk⟩ : ∃ k : Nat, (z - (x + 1 + 1)).toNat = k := ⟨_, rfl⟩
      have e1 : (z - (x + 1)).toNat = k + 1 := by omega
      rw [hk, e1, cnt_succ, if_pos px, cnt_sw hn p k (x + 1 + 1) g2 (.inr (by rw [show x + 1 + 1 + (k : Int) = z by omega]; exact gz))]
      omega
  · have g1 : ¬ (n : Int) ∣ x + 1 - (s + 1) := by rw [show x + 1 - (s + 1) = x - s by omega]; exact gx
    rw [sw_no gx hx]
    by_cases gz : (n : Int) ∣ z - (s + 1)
    · rw [sw_nx hn gz]
      have hxz : z ≠ x + 1 := fun q => gx (by rw [q] at gz; rwa [show x + 1 - (s + 1) = x - s by omega] at gz)
      obtain ⟨k, hk⟩ : ∃ k : Nat, (z - 1 - (x + 1)).toNat = k := ⟨_, rfl⟩
      have e1 : (z - (x + 1)).toNat = k + 1 := by omega
      rw [hk, e1, cnt_last, cnt_sw hn p k (x + 1) g1 (.inr (by
        rw [show x + 1 + (k : Int) - (s + 1) = (z - 1) - (s + 1) by omega]
        exact not_dvd_one hn (by rw [show z - 1 - s = z - (s + 1) by omega]; exact gz)))]
      rw [show x + 1 + (k : Int) = z - 1 by omega, pz gz]
      simp
    · rw [sw_no hz gz]
      obtain ⟨k, hk⟩ : ∃ k : Nat, (z - (x + 1)).toNat = k := ⟨_, rfl⟩
      rw [hk, cnt_sw hn p k (x + 1) g1 (.inr (by rw [show x + 1 + (k : Int) = z by omega]; exact gz))]
/-! ### refusals, the items told by their places -/
/-- U p x: the rank, for the person at p, of the item that stands at x -/
def RefP (U : Int → Int → Int) (E : Int → Int) : Prop := ∃ x z, Inv E x z ∧ (U (plc E x z) x < U (plc E x z) z ∨ U (plc E x z + 1) z < U (plc E x z + 1) x)
theorem refP_fwd (r : Rg n E) (nt : ¬ Tri E) (hn : 2 ≤ n) (h1 : s < E s) (h2 : E (s + 1) < s + 1) (r' : Rg n (swp n s E)) {U U' : Int → Int → Int} (hU : ∀ p x, U' p (sw n s x) = U p x) (h : RefP U' (swp n s E)) : RefP U E := by
  have nt' : ¬ Tri (swp n s E) := fun t => nt (tri_swp r hn h1 h2 t)
  obtain ⟨x', z', hI, hc⟩ := h
  have ex : sw n s (sw n s x') = x' := sw_sw hn s x'
  have ez : sw n s (sw n s z') = z' := sw_sw hn s z'
  have hE : E (sw n s z') < E (sw n s x') := hI.2
  have hlt : sw n s x' < sw n s z' := by
    rcases sw_lt (s := s) hn hI.1 with q | ⟨g, q⟩
    · exact q
    · exfalso
      have g2 : (n : Int) ∣ z' - (s + 1) := by rw [q, show x' + 1 - (s + 1) = x' - s by omega]; exact g
      rw [sw_at g, sw_nx hn g2, q, show x' + 1 - 1 = x' by omega] at hE
      have a := r.atk g
      have b := r.atk (s := s + 1) (c := x' + 1) (by rw [show x' + 1 - (s + 1) = x' - s by omega]; exact g)
      omega
  have hne : ¬ ((n : Int) ∣ sw n s x' - s ∧ sw n s z' = sw n s x' + 1) := fun ⟨g, q⟩ => by
    have a := sw_at (s := s) g
    have b := sw_nx (s := s) hn (c := sw n s z') (by rw [q, show sw n s x' + 1 - (s + 1) = sw n s x' - s by omega]; exact g)
    rw [ex] at a
    rw [ez] at b
    have := hI.1
    omega
  have hp := plc_swp r nt hn h1 h2 nt' r' (x := sw n s x') (z := sw n s z') ⟨hlt, hE⟩ hne
  rw [ex, ez] at hp
  refine ⟨sw n s x', sw n s z', ⟨hlt, hE⟩, ?_⟩
  rw [hp] at hc
  have ux : ∀ p, U' p x' = U p (sw n s x') := fun p => by rw [← hU p (sw n s x'), ex]
  have uz : ∀ p, U' p z' = U p (sw n s z') := fun p => by rw [← hU p (sw n s z'), ez]
  rw [ux, uz, ux, uz] at hc
  exact hc
theorem refP_back (r : Rg n E) (nt : ¬ Tri E) (hn : 2 ≤ n) (h1 : s < E s) (h2 : E (s + 1) < s + 1) (r' : Rg n (swp n s E)) {U U' : Int → Int → Int} (hU : ∀ p x, U' p (sw n s x) = U p x)
    (hper : ∀ (p x k : Int), U (p + k * n) (x + k * n) = U p x) (hp1 : U s (s + 1) < U s s) (hp2 : U (s + 1) s < U (s + 1) (s + 1)) (hUn : ∀ (p x k : Int), U p (x + k * n) = U p x) (h : RefP U E) : RefP U' (swp n s E) := by
  have nt' : ¬ Tri (swp n s E) := fun t => nt (tri_swp r hn h1 h2 t)
  obtain ⟨x, z, hI, hc⟩ := h
  by_cases hne : (n : Int) ∣ x - s ∧ z = x + 1
  · exfalso
    obtain ⟨⟨k, hk⟩, rfl⟩ := hne
    have ex : x = s + k * n := by rw [Int.mul_comm]; omega
    have e0 : plc E x (x + 1) = x := by
      unfold plc lf
      rw [show (x + 1 - (x + 1)).toNat = 0 by omega]
      show x + 0 = x
      omega
    rw [e0] at hc
    have a1 : U x x = U s s := by rw [ex]; exact hper s s k
    have a2 : U x (x + 1) = U s (s + 1) := by rw [show x + 1 = (s + 1) + k * n by omega, ex]; exact hper s (s + 1) k
    have a3 : U (x + 1) x = U (s + 1) s := by rw [show x + 1 = (s + 1) + k * n by omega, ex]; exact hper (s + 1) s k
    have a4 : U (x + 1) (x + 1) = U (s + 1) (s + 1) := by rw [show x + 1 = (s + 1) + k * n by omega]; exact hper (s + 1) (s + 1) k
    rw [a1, a2, a3, a4] at hc
    omega
  · have hp := plc_swp r nt hn h1 h2 nt' r' hI hne
    refine ⟨sw n s x, sw n s z, ⟨(sw_lt hn hI.1).resolve_right hne, by unfold swp; rw [sw_sw hn, sw_sw hn]; exact hI.2⟩, ?_⟩
    rw [hp, hU, hU, hU, hU]
    exact hc
/-- no triple ahead of a swap of two that go on or stay -/
theorem tri_back {F : Int → Int} (r : Rg n F) (nt : ¬ Tri F) (hn : 2 ≤ n) (h1 : F s ≤ s) (h2 : s + 1 ≤ F (s + 1)) : ¬ Tri (swp n s F) := by
  rintro ⟨x, y, z, a, b⟩
  have key : ∀ {u v : Int}, Inv (swp n s F) u v → ¬ ((n : Int) ∣ u - s ∧ v = u + 1) → Inv F (sw n s u) (sw n s v) := fun {u v} h hne => ⟨(sw_lt hn h.1).resolve_right hne, h.2⟩
  by_cases ha : (n : Int) ∣ x - s ∧ y = x + 1
  · -- y stands at s + 1: it came from s
    have gy : (n : Int) ∣ y - (s + 1) := by rw [ha.2, show x + 1 - (s + 1) = x - s by omega]; exact ha.1
    have hb : ¬ ((n : Int) ∣ y - s ∧ z = y + 1) := fun q => not_dvd_one hn q.1 gy
    have k := key b hb
    have q := r.right nt k
    rw [sw_nx hn gy] at q
    have := r.atk (s := s) (c := y - 1) (by rw [show y - 1 - s = y - (s + 1) by omega]; exact gy)
    omega
  · have ka := key a ha
    by_cases hb : (n : Int) ∣ y - s ∧ z = y + 1
    · have q := r.left nt ka
      rw [sw_at hb.1] at q
      have := r.atk (s := s + 1) (c := y + 1) (by rw [show y + 1 - (s + 1) = y - s by omega]; exact hb.1)
      omega
    · exact nt ⟨_, _, _, ka, key b hb⟩
end
end RM

set_option Elab.async false
set_option linter.all false
set_option maxRecDepth 100000
set_option maxHeartbeats 1000000
namespace Sw
open PySem PySem.Spec L2 DL RM
/-! ### ends of copies -/
def dsp (d : List Int) (c : Int) : Int := d.getD (c % d.length).toNat 0
def E (d : List Int) (c : Int) : Int := c + dsp d c
def sp_end_of_copy : DSp := fun ds μ RX R => ∃ d c, ds = [tI d, .int c] ∧ (0 < d.length ∧ d.length ≤ 1000) ∧ R (.int (E d c)) μ
def t_end_of_copy : DS :=
  (mRet (mOp addD (mVar 1) (mOp ixD (mVar 0) (mOp modD (mVar 1) (mB lenR (mCons (mVar 0) mNil))))))
abbrev N_end_of_copy : List Str := ["displacements", "copy"]
abbrev P_end_of_copy : List Str := ["displacements", "copy"]
theorem law_end_of_copy : ∀ ds μ RX R, sp_end_of_copy ds μ RX R → bodySp P_end_of_copy.length N_end_of_copy.length t_end_of_copy ds μ RX R := by
  rintro _ μ RX R ⟨d, c, rfl, ⟨h0, h1⟩, h⟩
  refine ⟨rfl, ?_⟩
  simp only [t_end_of_copy, bodySp, mSeq, mRet, mRetN, mExp, mOp, mUn, mVar, mC, mB, mCons, mNil, mSet, mPar, mPar3, mCall, mTest, mIfS, mIf, mAnd, mOr, mNot, mAndV, mOrV, mNotV, mChain, mNx, mPass, mAsg, gNm, gTp, gsCons, gsNil, mIt, mEnum, mR1, mR2, rk1, rk2, mTup, mLst, mYes, mAug, mSl, mPart, mNoPart, addD_i, addD_t, addD_r, addD_s, subD_i, mulD_i, mulD_r, divD_i, modD_i, powD_i, ltD_i, leD_i, gtD_i, geD_i, eqD_i, eqD_s, eqD_r, neD_i, neD_s, neD_r, isND, notND, negD_i, revD_t, revD_r, lenR_t, listR_t, tupR_t, mListRg, mTupRg, mRg1, mRg2, ipAdd, ipSub, List.map_cons, List.map_nil, List.length_cons, List.length_nil, List.replicate, List.cons_append, List.nil_append, List.append_nil, List.getElem?_cons_zero, List.getElem?_cons_succ, List.set_cons_zero, List.set_cons_succ, Option.some.injEq, exists_eq_left', List.cons.injEq, and_assoc, D.int.injEq, D.bl.injEq, D.str.injEq, D.tup.injEq, D.wtup.injEq, D.flst.injEq, D.ref.injEq, wipeD, Nat.reduceSub, Nat.reduceAdd, true_and, and_true, Bool.false_eq_true, if_false, if_true, exists_and_left, exists_and_right, exists_eq_left, reduceCtorEq, false_and, exists_false, or_false, false_or, exists_const, ite_true, ite_false, ↓reduceIte, Bool.not_true, Bool.not_false, Bool.true_eq_false, Nat.zero_eq, Nat.succ_eq_add_one, Nat.sub_self, Nat.sub_zero, Nat.reduceEqDiff]
  have hp : (0 : Int) < d.length := by omega
  have b0 := Int.emod_nonneg c (Int.ne_of_gt hp)
  have b1 := Int.emod_lt_of_pos c hp
  rw [show ((nI d).length : Int) = d.length by simp]
  refine ⟨hp, ?_⟩
  rw [ixD_t (atI_ints b0 b1), addD_i]
  exact h
def laterL (d : List Int) (c : Int) : List Int := ((List.range (2 * d.length - 2)).map fun i : Nat => c + 1 + i).filter fun o => decide (E d o < E d c)
def sp_later_copies : DSp := fun ds μ RX R => ∃ d c, ds = [tI d, .int c] ∧ (0 < d.length ∧ d.length ≤ 1000) ∧ (-1000000 < c ∧ c < 1000000) ∧ ∀ p μ', μ p = none → Ex μ μ' → μ' p = some (.lst (nI (laterL d c))) → R (.ref p) μ'
def t_later_copies : DS :=
  (mSeq (mAsg (mTup (mCons (mCall sp_end_of_copy [] (mCons (mVar 0) (mCons (mVar 1) mNil))) (mCons (mB lenR (mCons (mVar 0) mNil)) mNil))) (gTp 2 (gsCons (gNm 2) (gsCons (gNm 3) gsNil))))
  (mRet (mLc (mR2 (mOp addD (mVar 1) (mC (.int 1))) (mOp subD (mOp addD (mVar 1) (mOp mulD (mC (.int 2)) (mVar 3))) (mC (.int 1)))) (gNm 4) (mTest (mOp ltD (mCall sp_end_of_copy [] (mCons (mVar 0) (mCons (mVar 4) mNil))) (mVar 2))) (mVar 4) [4])))
abbrev N_later_copies : List Str := ["displacements", "copy", "end", "size", "other"]
abbrev P_later_copies : List Str := ["displacements", "copy"]
theorem law_later_copies : ∀ ds μ RX R, sp_later_copies ds μ RX R → bodySp P_later_copies.length N_later_copies.length t_later_copies ds μ RX R := by
  rintro _ μ RX R ⟨d, c, rfl, ⟨h0, h1⟩, ⟨c0, c1⟩, h⟩
  refine ⟨rfl, ?_⟩
  simp only [t_later_copies, bodySp, mSeq, mRet, mRetN, mExp, mOp, mUn, mVar, mC, mB, mCons, mNil, mSet, mPar, mPar3, mCall, mTest, mIfS, mIf, mAnd, mOr, mNot, mAndV, mOrV, mNotV, mChain, mNx, mPass, mAsg, gNm, gTp, gsCons, gsNil, mIt, mEnum, mR1, mR2, rk1, rk2, mTup, mLst, mYes, mAug, mSl, mPart, mNoPart, addD_i, addD_t, addD_r, addD_s, subD_i, mulD_i, mulD_r, divD_i, modD_i, powD_i, ltD_i, leD_i, gtD_i, geD_i, eqD_i, eqD_s, eqD_r, neD_i, neD_s, neD_r, isND, notND, negD_i, revD_t, revD_r, lenR_t, listR_t, tupR_t, mListRg, mTupRg, mRg1, mRg2, ipAdd, ipSub, List.map_cons, List.map_nil, List.length_cons, List.length_nil, List.replicate, List.cons_append, List.nil_append, List.append_nil, List.getElem?_cons_zero, List.getElem?_cons_succ, List.set_cons_zero, List.set_cons_succ, Option.some.injEq, exists_eq_left', List.cons.injEq, and_assoc, D.int.injEq, D.bl.injEq, D.str.injEq, D.tup.injEq, D.wtup.injEq, D.flst.injEq, D.ref.injEq, wipeD, Nat.reduceSub, Nat.reduceAdd, true_and, and_true, Bool.false_eq_true, if_false, if_true, exists_and_left, exists_and_right, exists_eq_left, reduceCtorEq, false_and, exists_false, or_false, false_or, exists_const, ite_true, ite_false, ↓reduceIte, Bool.not_true, Bool.not_false, Bool.true_eq_false, Nat.zero_eq, Nat.succ_eq_add_one, Nat.sub_self, Nat.sub_zero, Nat.reduceEqDiff]
  refine ⟨d, c, rfl, ⟨h0, h1⟩, ?_⟩
  simp only [bodySp, mSeq, mRet, mRetN, mExp, mOp, mUn, mVar, mC, mB, mCons, mNil, mSet, mPar, mPar3, mCall, mTest, mIfS, mIf, mAnd, mOr, mNot, mAndV, mOrV, mNotV, mChain, mNx, mPass, mAsg, gNm, gTp, gsCons, gsNil, mIt, mEnum, mR1, mR2, rk1, rk2, mTup, mLst, mYes, mAug, mSl, mPart, mNoPart, addD_i, addD_t, addD_r, addD_s, subD_i, mulD_i, mulD_r, divD_i, modD_i, powD_i, ltD_i, leD_i, gtD_i, geD_i, eqD_i, eqD_s, eqD_r, neD_i, neD_s, neD_r, isND, notND, negD_i, revD_t, revD_r, lenR_t, listR_t, tupR_t, mListRg, mTupRg, mRg1, mRg2, ipAdd, ipSub, List.map_cons, List.map_nil, List.length_cons, List.length_nil, List.replicate, List.cons_append, List.nil_append, List.append_nil, List.getElem?_cons_zero, List.getElem?_cons_succ, List.set_cons_zero, List.set_cons_succ, Option.some.injEq, exists_eq_left', List.cons.injEq, and_assoc, D.int.injEq, D.bl.injEq, D.str.injEq, D.tup.injEq, D.wtup.injEq, D.flst.injEq, D.ref.injEq, wipeD, Nat.reduceSub, Nat.reduceAdd, true_and, and_true, Bool.false_eq_true, if_false, if_true, exists_and_left, exists_and_right, exists_eq_left, reduceCtorEq, false_and, exists_false, or_false, false_or, exists_const, ite_true, ite_false, ↓reduceIte, Bool.not_true, Bool.not_false, Bool.true_eq_false, Nat.zero_eq, Nat.succ_eq_add_one, Nat.sub_self, Nat.sub_zero, Nat.reduceEqDiff]
  refine ⟨by have := sizeLine_big; omega, ?_⟩
  simp only [mLc, bodySp, mSeq, mRet, mRetN, mExp, mOp, mUn, mVar, mC, mB, mCons, mNil, mSet, mPar, mPar3, mCall, mTest, mIfS, mIf, mAnd, mOr, mNot, mAndV, mOrV, mNotV, mChain, mNx, mPass, mAsg, gNm, gTp, gsCons, gsNil, mIt, mEnum, mR1, mR2, rk1, rk2, mTup, mLst, mYes, mAug, mSl, mPart, mNoPart, addD_i, addD_t, addD_r, addD_s, subD_i, mulD_i, mulD_r, divD_i, modD_i, powD_i, ltD_i, leD_i, gtD_i, geD_i, eqD_i, eqD_s, eqD_r, neD_i, neD_s, neD_r, isND, notND, negD_i, revD_t, revD_r, lenR_t, listR_t, tupR_t, mListRg, mTupRg, mRg1, mRg2, ipAdd, ipSub, List.map_cons, List.map_nil, List.length_cons, List.length_nil, List.replicate, List.cons_append, List.nil_append, List.append_nil, List.getElem?_cons_zero, List.getElem?_cons_succ, List.set_cons_zero, List.set_cons_succ, Option.some.injEq, exists_eq_left', List.cons.injEq, and_assoc, D.int.injEq, D.bl.injEq, D.str.injEq, D.tup.injEq, D.wtup.injEq, D.flst.injEq, D.ref.injEq, wipeD, Nat.reduceSub, Nat.reduceAdd, true_and, and_true, Bool.false_eq_true, if_false, if_true, exists_and_left, exists_and_right, exists_eq_left, reduceCtorEq, false_and, exists_false, or_false, false_or, exists_const, ite_true, ite_false, ↓reduceIte, Bool.not_true, Bool.not_false, Bool.true_eq_false, Nat.zero_eq, Nat.succ_eq_add_one, Nat.sub_self, Nat.sub_zero, Nat.reduceEqDiff]
  rw [show ((nI d).length : Int) = d.length by simp]
  refine ⟨cmul_l (by omega), by omega, by omega, by omega, by omega, fun p hp => ?_⟩
  rw [rgD_ints, show (c + 2 * (d.length : Int) - 1 - (c + 1)).toNat = 2 * d.length - 2 by omega]
  refine lcD_int (fun o => decide (E d o < E d c)) (fun o => .int o) (fun _ => trivial) (by simp; omega) (fun x hx acc N hN => ?_) ?_
  · simp only [bodySp, mSeq, mRet, mRetN, mExp, mOp, mUn, mVar, mC, mB, mCons, mNil, mSet, mPar, mPar3, mCall, mTest, mIfS, mIf, mAnd, mOr, mNot, mAndV, mOrV, mNotV, mChain, mNx, mPass, mAsg, gNm, gTp, gsCons, gsNil, mIt, mEnum, mR1, mR2, rk1, rk2, mTup, mLst, mYes, mAug, mSl, mPart, mNoPart, addD_i, addD_t, addD_r, addD_s, subD_i, mulD_i, mulD_r, divD_i, modD_i, powD_i, ltD_i, leD_i, gtD_i, geD_i, eqD_i, eqD_s, eqD_r, neD_i, neD_s, neD_r, isND, notND, negD_i, revD_t, revD_r, lenR_t, listR_t, tupR_t, mListRg, mTupRg, mRg1, mRg2, ipAdd, ipSub, List.map_cons, List.map_nil, List.length_cons, List.length_nil, List.replicate, List.cons_append, List.nil_append, List.append_nil, List.getElem?_cons_zero, List.getElem?_cons_succ, List.set_cons_zero, List.set_cons_succ, Option.some.injEq, exists_eq_left', List.cons.injEq, and_assoc, D.int.injEq, D.bl.injEq, D.str.injEq, D.tup.injEq, D.wtup.injEq, D.flst.injEq, D.ref.injEq, wipeD, Nat.reduceSub, Nat.reduceAdd, true_and, and_true, Bool.false_eq_true, if_false, if_true, exists_and_left, exists_and_right, exists_eq_left, reduceCtorEq, false_and, exists_false, or_false, false_or, exists_const, ite_true, ite_false, ↓reduceIte, Bool.not_true, Bool.not_false, Bool.true_eq_false, Nat.zero_eq, Nat.succ_eq_add_one, Nat.sub_self, Nat.sub_zero, Nat.reduceEqDiff]
    refine ⟨d, x, rfl, ⟨h0, h1⟩, ?_⟩
    simp only [bodySp, mSeq, mRet, mRetN, mExp, mOp, mUn, mVar, mC, mB, mCons, mNil, mSet, mPar, mPar3, mCall, mTest, mIfS, mIf, mAnd, mOr, mNot, mAndV, mOrV, mNotV, mChain, mNx, mPass, mAsg, gNm, gTp, gsCons, gsNil, mIt, mEnum, mR1, mR2, rk1, rk2, mTup, mLst, mYes, mAug, mSl, mPart, mNoPart, addD_i, addD_t, addD_r, addD_s, subD_i, mulD_i, mulD_r, divD_i, modD_i, powD_i, ltD_i, leD_i, gtD_i, geD_i, eqD_i, eqD_s, eqD_r, neD_i, neD_s, neD_r, isND, notND, negD_i, revD_t, revD_r, lenR_t, listR_t, tupR_t, mListRg, mTupRg, mRg1, mRg2, ipAdd, ipSub, List.map_cons, List.map_nil, List.length_cons, List.length_nil, List.replicate, List.cons_append, List.nil_append, List.append_nil, List.getElem?_cons_zero, List.getElem?_cons_succ, List.set_cons_zero, List.set_cons_succ, Option.some.injEq, exists_eq_left', List.cons.injEq, and_assoc, D.int.injEq, D.bl.injEq, D.str.injEq, D.tup.injEq, D.wtup.injEq, D.flst.injEq, D.ref.injEq, wipeD, Nat.reduceSub, Nat.reduceAdd, true_and, and_true, Bool.false_eq_true, if_false, if_true, exists_and_left, exists_and_right, exists_eq_left, reduceCtorEq, false_and, exists_false, or_false, false_or, exists_const, ite_true, ite_false, ↓reduceIte, Bool.not_true, Bool.not_false, Bool.true_eq_false, Nat.zero_eq, Nat.succ_eq_add_one, Nat.sub_self, Nat.sub_zero, Nat.reduceEqDiff]
    by_cases g : E d x < E d c
    · simpa [g] using hN
    · simpa [g] using hN
  · exact h p _ hp (Ex.new hp) updM_same
/-! ### inversions -/
def prs (l : List (Int × Int)) : List D := l.map pairD
def invs (d : List Int) : List (Int × Int) := (List.range d.length).flatMap fun x : Nat => (laterL d x).map fun z => ((x : Int), z)
theorem later_len (d : List Int) (c : Int) : (laterL d c).length ≤ 2 * d.length := by
  unfold laterL
  exact Nat.le_trans (List.length_filter_le _ _) (by simp)
def sp_inversions_there : DSp := fun ds μ RX R => ∃ d, ds = [tI d] ∧ (0 < d.length ∧ d.length ≤ 100) ∧ ∀ p μ', μ p = none → Ex μ μ' → μ' p = some (.lst (prs (invs d))) → R (.ref p) μ'
def t_inversions_there : DS :=
  (mSeq (mSet 1 (mLst mNil))
  (mSeq (mFor (mR1 (mB lenR (mCons (mVar 0) mNil))) (gNm 2)
  (mAug 1 ipAdd (mLc (mIt (mCall sp_later_copies [] (mCons (mVar 0) (mCons (mVar 2) mNil)))) (gNm 3) mYes (mTup (mCons (mVar 2) (mCons (mVar 3) mNil))) [3])))
  (mRet (mVar 1))))
abbrev N_inversions_there : List Str := ["displacements", "found", "x", "z"]
abbrev P_inversions_there : List Str := ["displacements"]
def invk (d : List Int) (k : Nat) : List (Int × Int) := (List.range k).flatMap fun x : Nat => (laterL d x).map fun z => ((x : Int), z)
theorem invk_succ (d : List Int) (k : Nat) : invk d (k + 1) = invk d k ++ (laterL d k).map fun z => ((k : Int), z) := by
  unfold invk; rw [List.range_succ, List.flatMap_append]; simp
theorem invk_len (d : List Int) : ∀ k, (invk d k).length ≤ k * (2 * d.length)
  | 0 => by simp [invk]
  | k + 1 => by
    rw [invk_succ, List.length_append, List.length_map, Nat.add_mul]
    have := invk_len d k
    have := later_len d k
    omega
theorem law_inversions_there : ∀ ds μ RX R, sp_inversions_there ds μ RX R → bodySp P_inversions_there.length N_inversions_there.length t_inversions_there ds μ RX R := by
  rintro _ μ RX R ⟨d, rfl, ⟨h0, h1⟩, h⟩
  refine ⟨rfl, ?_⟩
  simp only [t_inversions_there, mFor, bodySp, mSeq, mRet, mRetN, mExp, mOp, mUn, mVar, mC, mB, mCons, mNil, mSet, mPar, mPar3, mCall, mTest, mIfS, mIf, mAnd, mOr, mNot, mAndV, mOrV, mNotV, mChain, mNx, mPass, mAsg, gNm, gTp, gsCons, gsNil, mIt, mEnum, mR1, mR2, rk1, rk2, mTup, mLst, mYes, mAug, mSl, mPart, mNoPart, addD_i, addD_t, addD_r, addD_s, subD_i, mulD_i, mulD_r, divD_i, modD_i, powD_i, ltD_i, leD_i, gtD_i, geD_i, eqD_i, eqD_s, eqD_r, neD_i, neD_s, neD_r, isND, notND, negD_i, revD_t, revD_r, lenR_t, listR_t, tupR_t, mListRg, mTupRg, mRg1, mRg2, ipAdd, ipSub, List.map_cons, List.map_nil, List.length_cons, List.length_nil, List.replicate, List.cons_append, List.nil_append, List.append_nil, List.getElem?_cons_zero, List.getElem?_cons_succ, List.set_cons_zero, List.set_cons_succ, Option.some.injEq, exists_eq_left', List.cons.injEq, and_assoc, D.int.injEq, D.bl.injEq, D.str.injEq, D.tup.injEq, D.wtup.injEq, D.flst.injEq, D.ref.injEq, wipeD, Nat.reduceSub, Nat.reduceAdd, true_and, and_true, Bool.false_eq_true, if_false, if_true, exists_and_left, exists_and_right, exists_eq_left, reduceCtorEq, false_and, exists_false, or_false, false_or, exists_const, ite_true, ite_false, ↓reduceIte, Bool.not_true, Bool.not_false, Bool.true_eq_false, Nat.zero_eq, Nat.succ_eq_add_one, Nat.sub_self, Nat.sub_zero, Nat.reduceEqDiff]
  refine ⟨by omega, fun p hp => ⟨by omega, ?_⟩⟩
  rw [nI_len]
  refine ⟨by omega, ?_⟩
  refine forD_rng d.length (fun k δ μ' => ∃ o2 o3, δ = [some (tI d), some (.ref p), o2, o3] ∧ Ex μ μ' ∧ μ' p = some (.lst (prs (invk d k)))) (fun _ => trivial) ?_ ?_ _ _ ⟨_, _, rfl, Ex.new hp, updM_same⟩
  · rintro _ μ' ⟨o2, o3, rfl, hE, hm⟩
    simp only [bodySp, mSeq, mRet, mRetN, mExp, mOp, mUn, mVar, mC, mB, mCons, mNil, mSet, mPar, mPar3, mCall, mTest, mIfS, mIf, mAnd, mOr, mNot, mAndV, mOrV, mNotV, mChain, mNx, mPass, mAsg, gNm, gTp, gsCons, gsNil, mIt, mEnum, mR1, mR2, rk1, rk2, mTup, mLst, mYes, mAug, mSl, mPart, mNoPart, addD_i, addD_t, addD_r, addD_s, subD_i, mulD_i, mulD_r, divD_i, modD_i, powD_i, ltD_i, leD_i, gtD_i, geD_i, eqD_i, eqD_s, eqD_r, neD_i, neD_s, neD_r, isND, notND, negD_i, revD_t, revD_r, lenR_t, listR_t, tupR_t, mListRg, mTupRg, mRg1, mRg2, ipAdd, ipSub, List.map_cons, List.map_nil, List.length_cons, List.length_nil, List.replicate, List.cons_append, List.nil_append, List.append_nil, List.getElem?_cons_zero, List.getElem?_cons_succ, List.set_cons_zero, List.set_cons_succ, Option.some.injEq, exists_eq_left', List.cons.injEq, and_assoc, D.int.injEq, D.bl.injEq, D.str.injEq, D.tup.injEq, D.wtup.injEq, D.flst.injEq, D.ref.injEq, wipeD, Nat.reduceSub, Nat.reduceAdd, true_and, and_true, Bool.false_eq_true, if_false, if_true, exists_and_left, exists_and_right, exists_eq_left, reduceCtorEq, false_and, exists_false, or_false, false_or, exists_const, ite_true, ite_false, ↓reduceIte, Bool.not_true, Bool.not_false, Bool.true_eq_false, Nat.zero_eq, Nat.succ_eq_add_one, Nat.sub_self, Nat.sub_zero, Nat.reduceEqDiff]
    exact h p μ' hp hE hm
  · rintro k _ μ' N hk hN ⟨o2, o3, rfl, hE, hm⟩
    simp only [mLc, bodySp, mSeq, mRet, mRetN, mExp, mOp, mUn, mVar, mC, mB, mCons, mNil, mSet, mPar, mPar3, mCall, mTest, mIfS, mIf, mAnd, mOr, mNot, mAndV, mOrV, mNotV, mChain, mNx, mPass, mAsg, gNm, gTp, gsCons, gsNil, mIt, mEnum, mR1, mR2, rk1, rk2, mTup, mLst, mYes, mAug, mSl, mPart, mNoPart, addD_i, addD_t, addD_r, addD_s, subD_i, mulD_i, mulD_r, divD_i, modD_i, powD_i, ltD_i, leD_i, gtD_i, geD_i, eqD_i, eqD_s, eqD_r, neD_i, neD_s, neD_r, isND, notND, negD_i, revD_t, revD_r, lenR_t, listR_t, tupR_t, mListRg, mTupRg, mRg1, mRg2, ipAdd, ipSub, List.map_cons, List.map_nil, List.length_cons, List.length_nil, List.replicate, List.cons_append, List.nil_append, List.append_nil, List.getElem?_cons_zero, List.getElem?_cons_succ, List.set_cons_zero, List.set_cons_succ, Option.some.injEq, exists_eq_left', List.cons.injEq, and_assoc, D.int.injEq, D.bl.injEq, D.str.injEq, D.tup.injEq, D.wtup.injEq, D.flst.injEq, D.ref.injEq, wipeD, Nat.reduceSub, Nat.reduceAdd, true_and, and_true, Bool.false_eq_true, if_false, if_true, exists_and_left, exists_and_right, exists_eq_left, reduceCtorEq, false_and, exists_false, or_false, false_or, exists_const, ite_true, ite_false, ↓reduceIte, Bool.not_true, Bool.not_false, Bool.true_eq_false, Nat.zero_eq, Nat.succ_eq_add_one, Nat.sub_self, Nat.sub_zero, Nat.reduceEqDiff]
    refine ⟨d, k, rfl, ⟨h0, by omega⟩, ⟨by omega, by omega⟩, fun q μ2 hq hE2 hm2 => ?_⟩
    simp only [bodySp, mSeq, mRet, mRetN, mExp, mOp, mUn, mVar, mC, mB, mCons, mNil, mSet, mPar, mPar3, mCall, mTest, mIfS, mIf, mAnd, mOr, mNot, mAndV, mOrV, mNotV, mChain, mNx, mPass, mAsg, gNm, gTp, gsCons, gsNil, mIt, mEnum, mR1, mR2, rk1, rk2, mTup, mLst, mYes, mAug, mSl, mPart, mNoPart, addD_i, addD_t, addD_r, addD_s, subD_i, mulD_i, mulD_r, divD_i, modD_i, powD_i, ltD_i, leD_i, gtD_i, geD_i, eqD_i, eqD_s, eqD_r, neD_i, neD_s, neD_r, isND, notND, negD_i, revD_t, revD_r, lenR_t, listR_t, tupR_t, mListRg, mTupRg, mRg1, mRg2, ipAdd, ipSub, List.map_cons, List.map_nil, List.length_cons, List.length_nil, List.replicate, List.cons_append, List.nil_append, List.append_nil, List.getElem?_cons_zero, List.getElem?_cons_succ, List.set_cons_zero, List.set_cons_succ, Option.some.injEq, exists_eq_left', List.cons.injEq, and_assoc, D.int.injEq, D.bl.injEq, D.str.injEq, D.tup.injEq, D.wtup.injEq, D.flst.injEq, D.ref.injEq, wipeD, Nat.reduceSub, Nat.reduceAdd, true_and, and_true, Bool.false_eq_true, if_false, if_true, exists_and_left, exists_and_right, exists_eq_left, reduceCtorEq, false_and, exists_false, or_false, false_or, exists_const, ite_true, ite_false, ↓reduceIte, Bool.not_true, Bool.not_false, Bool.true_eq_false, Nat.zero_eq, Nat.succ_eq_add_one, Nat.sub_self, Nat.sub_zero, Nat.reduceEqDiff]
    refine ⟨_, .inl hm2, fun r hr => ?_⟩
    have hl := later_len d k
    refine lcD_int (fun _ => true) (fun z => .tup [.int k, .int z]) (fun acc => .inl ?_) (by omega) (fun x hx acc N2 hN2 => ?_) ?_
    · rw [updM_ne (mu_ne hm2 hr)]; exact hm2
    · simp only [bodySp, mSeq, mRet, mRetN, mExp, mOp, mUn, mVar, mC, mB, mCons, mNil, mSet, mPar, mPar3, mCall, mTest, mIfS, mIf, mAnd, mOr, mNot, mAndV, mOrV, mNotV, mChain, mNx, mPass, mAsg, gNm, gTp, gsCons, gsNil, mIt, mEnum, mR1, mR2, rk1, rk2, mTup, mLst, mYes, mAug, mSl, mPart, mNoPart, addD_i, addD_t, addD_r, addD_s, subD_i, mulD_i, mulD_r, divD_i, modD_i, powD_i, ltD_i, leD_i, gtD_i, geD_i, eqD_i, eqD_s, eqD_r, neD_i, neD_s, neD_r, isND, notND, negD_i, revD_t, revD_r, lenR_t, listR_t, tupR_t, mListRg, mTupRg, mRg1, mRg2, ipAdd, ipSub, List.map_cons, List.map_nil, List.length_cons, List.length_nil, List.replicate, List.cons_append, List.nil_append, List.append_nil, List.getElem?_cons_zero, List.getElem?_cons_succ, List.set_cons_zero, List.set_cons_succ, Option.some.injEq, exists_eq_left', List.cons.injEq, and_assoc, D.int.injEq, D.bl.injEq, D.str.injEq, D.tup.injEq, D.wtup.injEq, D.flst.injEq, D.ref.injEq, wipeD, Nat.reduceSub, Nat.reduceAdd, true_and, and_true, Bool.false_eq_true, if_false, if_true, exists_and_left, exists_and_right, exists_eq_left, reduceCtorEq, false_and, exists_false, or_false, false_or, exists_const, ite_true, ite_false, ↓reduceIte, Bool.not_true, Bool.not_false, Bool.true_eq_false, Nat.zero_eq, Nat.succ_eq_add_one, Nat.sub_self, Nat.sub_zero, Nat.reduceEqDiff]
      exact ⟨by have := sizeLine_big; omega, by simpa using hN2⟩
    · have hm3 := hE2.at hm
      have hpr := mu_ne hm3 hr
      refine ⟨prs (invk d k), by rw [updM_ne hpr]; exact hm3, _, updM_same, ?_, ?_⟩
      · have := invk_len d k
        have := sizeLine_big
        have h2 : k * (2 * d.length) ≤ 100 * 200 := Nat.mul_le_mul (by omega) (by omega)
        have := List.length_filter_le (fun _ => true) (laterL d k)
        simp only [prs, List.length_map]
        omega
      · refine hN _ _ ⟨_, _, rfl, ?_, ?_⟩
        · have h3 : Ex μ μ2 := hE.trans hE2
          intro a o ha e
          have hap : a ≠ p := mu_ne e hp
          rw [updM_ne hap]
          exact (h3.trans (Ex.new hr)).at e
        · rw [updM_same, invk_succ]
          rw [List.filter_eq_self.mpr (by simp)]
          simp [prs, Function.comp_def, pairD]
end Sw

set_option Elab.async false
set_option linter.all false
set_option maxRecDepth 100000
set_option maxHeartbeats 1000000
namespace Sw
open PySem PySem.Spec L2 DL RM
/-! ### the checks, of what is right -/
def sp_is_integer : DSp := fun ds μ RX R => ∃ i, ds = [.int i] ∧ R (.bl true) μ
def t_is_integer : DS :=
  (mRet (mAndV (mB isiR (mCons (mVar 0) (mCons (mC (.ty "int")) mNil))) (mNotV (mB isiR (mCons (mVar 0) (mCons (mC (.ty "bool")) mNil))))))
abbrev N_is_integer : List Str := ["value"]
abbrev P_is_integer : List Str := ["value"]
theorem isiR_i {i : Int} {n : String} {μ : Mu} {R : DK} (hn : n ∈ ["bool", "int", "str", "tuple", "list", "dict"]) (h : R (.bl (isB "int" n)) μ) : isiR [.int i, .ty n] μ R := ⟨_, n, "int", rfl, hn, rfl, h⟩
theorem isiR_t {l : List D} {n : String} {μ : Mu} {R : DK} (hn : n ∈ ["bool", "int", "str", "tuple", "list", "dict"]) (h : R (.bl (isB "tuple" n)) μ) : isiR [.tup l, .ty n] μ R := ⟨_, n, "tuple", rfl, hn, rfl, h⟩
theorem law_is_integer : ∀ ds μ RX R, sp_is_integer ds μ RX R → bodySp P_is_integer.length N_is_integer.length t_is_integer ds μ RX R := by
  rintro _ μ RX R ⟨i, rfl, h⟩
  refine ⟨rfl, ?_⟩
  simp only [t_is_integer, bodySp, mSeq, mRet, mRetN, mExp, mOp, mUn, mVar, mC, mB, mCons, mNil, mSet, mPar, mPar3, mCall, mTest, mIfS, mIf, mAnd, mOr, mNot, mAndV, mOrV, mNotV, mChain, mNx, mPass, mAsg, gNm, gTp, gsCons, gsNil, mIt, mEnum, mR1, mR2, rk1, rk2, mTup, mLst, mYes, mAug, mSl, mPart, mNoPart, addD_i, addD_t, addD_r, addD_s, subD_i, mulD_i, mulD_r, divD_i, modD_i, powD_i, ltD_i, leD_i, gtD_i, geD_i, eqD_i, eqD_s, eqD_r, neD_i, neD_s, neD_r, isND, notND, negD_i, revD_t, revD_r, lenR_t, listR_t, tupR_t, mListRg, mTupRg, mRg1, mRg2, ipAdd, ipSub, List.map_cons, List.map_nil, List.length_cons, List.length_nil, List.replicate, List.cons_append, List.nil_append, List.append_nil, List.getElem?_cons_zero, List.getElem?_cons_succ, List.set_cons_zero, List.set_cons_succ, Option.some.injEq, exists_eq_left', List.cons.injEq, and_assoc, D.int.injEq, D.bl.injEq, D.str.injEq, D.tup.injEq, D.wtup.injEq, D.flst.injEq, D.ref.injEq, wipeD, Nat.reduceSub, Nat.reduceAdd, true_and, and_true, Bool.false_eq_true, if_false, if_true, exists_and_left, exists_and_right, exists_eq_left, reduceCtorEq, false_and, exists_false, or_false, false_or, exists_const, ite_true, ite_false, ↓reduceIte, Bool.not_true, Bool.not_false, Bool.true_eq_false, Nat.zero_eq, Nat.succ_eq_add_one, Nat.sub_self, Nat.sub_zero, Nat.reduceEqDiff]
  refine isiR_i (n := "int") (by simp) ⟨true, rfl, ?_⟩
  rw [if_pos rfl]
  exact isiR_i (n := "bool") (by simp) ⟨false, rfl, h⟩
def sp_is_number_below : DSp := fun ds μ RX R => ∃ i n : Int, ds = [.int i, .int n] ∧ R (.bl (decide (0 ≤ i ∧ i < n))) μ
def t_is_number_below : DS :=
  (mRet (mAndV (mCall sp_is_integer [] (mCons (mVar 0) mNil)) (mChain leD ltD (mC (.int 0)) (mVar 0) (mVar 1))))
abbrev N_is_number_below : List Str := ["value", "limit"]
abbrev P_is_number_below : List Str := ["value", "limit"]
theorem law_is_number_below : ∀ ds μ RX R, sp_is_number_below ds μ RX R → bodySp P_is_number_below.length N_is_number_below.length t_is_number_below ds μ RX R := by
  rintro _ μ RX R ⟨i, n, rfl, h⟩
  refine ⟨rfl, ?_⟩
  simp only [t_is_number_below, bodySp, mSeq, mRet, mRetN, mExp, mOp, mUn, mVar, mC, mB, mCons, mNil, mSet, mPar, mPar3, mCall, mTest, mIfS, mIf, mAnd, mOr, mNot, mAndV, mOrV, mNotV, mChain, mNx, mPass, mAsg, gNm, gTp, gsCons, gsNil, mIt, mEnum, mR1, mR2, rk1, rk2, mTup, mLst, mYes, mAug, mSl, mPart, mNoPart, addD_i, addD_t, addD_r, addD_s, subD_i, mulD_i, mulD_r, divD_i, modD_i, powD_i, ltD_i, leD_i, gtD_i, geD_i, eqD_i, eqD_s, eqD_r, neD_i, neD_s, neD_r, isND, notND, negD_i, revD_t, revD_r, lenR_t, listR_t, tupR_t, mListRg, mTupRg, mRg1, mRg2, ipAdd, ipSub, List.map_cons, List.map_nil, List.length_cons, List.length_nil, List.replicate, List.cons_append, List.nil_append, List.append_nil, List.getElem?_cons_zero, List.getElem?_cons_succ, List.set_cons_zero, List.set_cons_succ, Option.some.injEq, exists_eq_left', List.cons.injEq, and_assoc, D.int.injEq, D.bl.injEq, D.str.injEq, D.tup.injEq, D.wtup.injEq, D.flst.injEq, D.ref.injEq, wipeD, Nat.reduceSub, Nat.reduceAdd, true_and, and_true, Bool.false_eq_true, if_false, if_true, exists_and_left, exists_and_right, exists_eq_left, reduceCtorEq, false_and, exists_false, or_false, false_or, exists_const, ite_true, ite_false, ↓reduceIte, Bool.not_true, Bool.not_false, Bool.true_eq_false, Nat.zero_eq, Nat.succ_eq_add_one, Nat.sub_self, Nat.sub_zero, Nat.reduceEqDiff]
  refine ⟨i, rfl, ?_⟩
  simp only [bodySp, mSeq, mRet, mRetN, mExp, mOp, mUn, mVar, mC, mB, mCons, mNil, mSet, mPar, mPar3, mCall, mTest, mIfS, mIf, mAnd, mOr, mNot, mAndV, mOrV, mNotV, mChain, mNx, mPass, mAsg, gNm, gTp, gsCons, gsNil, mIt, mEnum, mR1, mR2, rk1, rk2, mTup, mLst, mYes, mAug, mSl, mPart, mNoPart, addD_i, addD_t, addD_r, addD_s, subD_i, mulD_i, mulD_r, divD_i, modD_i, powD_i, ltD_i, leD_i, gtD_i, geD_i, eqD_i, eqD_s, eqD_r, neD_i, neD_s, neD_r, isND, notND, negD_i, revD_t, revD_r, lenR_t, listR_t, tupR_t, mListRg, mTupRg, mRg1, mRg2, ipAdd, ipSub, List.map_cons, List.map_nil, List.length_cons, List.length_nil, List.replicate, List.cons_append, List.nil_append, List.append_nil, List.getElem?_cons_zero, List.getElem?_cons_succ, List.set_cons_zero, List.set_cons_succ, Option.some.injEq, exists_eq_left', List.cons.injEq, and_assoc, D.int.injEq, D.bl.injEq, D.str.injEq, D.tup.injEq, D.wtup.injEq, D.flst.injEq, D.ref.injEq, wipeD, Nat.reduceSub, Nat.reduceAdd, true_and, and_true, Bool.false_eq_true, if_false, if_true, exists_and_left, exists_and_right, exists_eq_left, reduceCtorEq, false_and, exists_false, or_false, false_or, exists_const, ite_true, ite_false, ↓reduceIte, Bool.not_true, Bool.not_false, Bool.true_eq_false, Nat.zero_eq, Nat.succ_eq_add_one, Nat.sub_self, Nat.sub_zero, Nat.reduceEqDiff]
  by_cases g : 0 ≤ i
  · simpa [g, bodySp, mSeq, mRet, mRetN, mExp, mOp, mUn, mVar, mC, mB, mCons, mNil, mSet, mPar, mPar3, mCall, mTest, mIfS, mIf, mAnd, mOr, mNot, mAndV, mOrV, mNotV, mChain, mNx, mPass, mAsg, gNm, gTp, gsCons, gsNil, mIt, mEnum, mR1, mR2, rk1, rk2, mTup, mLst, mYes, mAug, mSl, mPart, mNoPart, addD_i, addD_t, addD_r, addD_s, subD_i, mulD_i, mulD_r, divD_i, modD_i, powD_i, ltD_i, leD_i, gtD_i, geD_i, eqD_i, eqD_s, eqD_r, neD_i, neD_s, neD_r, isND, notND, negD_i, revD_t, revD_r, lenR_t, listR_t, tupR_t, mListRg, mTupRg, mRg1, mRg2, ipAdd, ipSub, List.map_cons, List.map_nil, List.length_cons, List.length_nil, List.replicate, List.cons_append, List.nil_append, List.append_nil, List.getElem?_cons_zero, List.getElem?_cons_succ, List.set_cons_zero, List.set_cons_succ, Option.some.injEq, exists_eq_left', List.cons.injEq, and_assoc, D.int.injEq, D.bl.injEq, D.str.injEq, D.tup.injEq, D.wtup.injEq, D.flst.injEq, D.ref.injEq, wipeD, Nat.reduceSub, Nat.reduceAdd, true_and, and_true, Bool.false_eq_true, if_false, if_true, exists_and_left, exists_and_right, exists_eq_left, reduceCtorEq, false_and, exists_false, or_false, false_or, exists_const, ite_true, ite_false, ↓reduceIte, Bool.not_true, Bool.not_false, Bool.true_eq_false, Nat.zero_eq, Nat.succ_eq_add_one, Nat.sub_self, Nat.sub_zero, Nat.reduceEqDiff] using h
  · simpa [g, bodySp, mSeq, mRet, mRetN, mExp, mOp, mUn, mVar, mC, mB, mCons, mNil, mSet, mPar, mPar3, mCall, mTest, mIfS, mIf, mAnd, mOr, mNot, mAndV, mOrV, mNotV, mChain, mNx, mPass, mAsg, gNm, gTp, gsCons, gsNil, mIt, mEnum, mR1, mR2, rk1, rk2, mTup, mLst, mYes, mAug, mSl, mPart, mNoPart, addD_i, addD_t, addD_r, addD_s, subD_i, mulD_i, mulD_r, divD_i, modD_i, powD_i, ltD_i, leD_i, gtD_i, geD_i, eqD_i, eqD_s, eqD_r, neD_i, neD_s, neD_r, isND, notND, negD_i, revD_t, revD_r, lenR_t, listR_t, tupR_t, mListRg, mTupRg, mRg1, mRg2, ipAdd, ipSub, List.map_cons, List.map_nil, List.length_cons, List.length_nil, List.replicate, List.cons_append, List.nil_append, List.append_nil, List.getElem?_cons_zero, List.getElem?_cons_succ, List.set_cons_zero, List.set_cons_succ, Option.some.injEq, exists_eq_left', List.cons.injEq, and_assoc, D.int.injEq, D.bl.injEq, D.str.injEq, D.tup.injEq, D.wtup.injEq, D.flst.injEq, D.ref.injEq, wipeD, Nat.reduceSub, Nat.reduceAdd, true_and, and_true, Bool.false_eq_true, if_false, if_true, exists_and_left, exists_and_right, exists_eq_left, reduceCtorEq, false_and, exists_false, or_false, false_or, exists_const, ite_true, ite_false, ↓reduceIte, Bool.not_true, Bool.not_false, Bool.true_eq_false, Nat.zero_eq, Nat.succ_eq_add_one, Nat.sub_self, Nat.sub_zero, Nat.reduceEqDiff] using h
/-- a list of n different things below n -/
structure Rk (l : List Int) (n : Nat) : Prop where
  len : l.length = n
  bd : ∀ x ∈ l, 0 ≤ x ∧ x < n
  nd : l.Nodup
def sp_is_ranking : DSp := fun ds μ RX R => ∃ l n, ds = [tI l, .int (n : Nat)] ∧ (Rk l n ∧ n ≤ 40) ∧ ∀ μ', Ex μ μ' → R (.bl true) μ'
def t_is_ranking : DS :=
  (mSeq (mIfS (mOr (mNot (mTest (mB isiR (mCons (mVar 0) (mCons (mC (.ty "tuple")) mNil))))) (mOr (mTest (mOp neD (mB lenR (mCons (mVar 0) mNil)) (mVar 1))) (mNot (mTest (mB allR (mCons (mLc (mIt (mVar 0)) (gNm 2) mYes (mCall sp_is_number_below [] (mCons (mVar 2) (mCons (mVar 1) mNil))) [2]) mNil))))))
  (mRet (mC (.bl false)))
  mNx)
  (mRet (mOp eqD (mLenSet (mVar 0)) (mVar 1))))
abbrev N_is_ranking : List Str := ["value", "size", "item"]
abbrev P_is_ranking : List Str := ["value", "size"]
theorem bls_true (l : List Int) (f : Int → Bool) (h : ∀ x ∈ l, f x = true) : ((l.filter fun _ => true).map fun x => D.bl (f x)) = (List.replicate l.length true).map D.bl := by
  rw [List.filter_eq_self.mpr (by simp)]
  induction l with
  | nil => rfl
  | cons a t ih =>
    rw [List.map_cons, h a List.mem_cons_self, ih fun x hx => h x (List.mem_cons_of_mem _ hx)]; rfl
theorem law_is_ranking : ∀ ds μ RX R, sp_is_ranking ds μ RX R → bodySp P_is_ranking.length N_is_ranking.length t_is_ranking ds μ RX R := by
  rintro _ μ RX R ⟨l, n, rfl, ⟨rk, hn⟩, h⟩
  refine ⟨rfl, ?_⟩
  simp only [t_is_ranking, mLc, bodySp, mSeq, mRet, mRetN, mExp, mOp, mUn, mVar, mC, mB, mCons, mNil, mSet, mPar, mPar3, mCall, mTest, mIfS, mIf, mAnd, mOr, mNot, mAndV, mOrV, mNotV, mChain, mNx, mPass, mAsg, gNm, gTp, gsCons, gsNil, mIt, mEnum, mR1, mR2, rk1, rk2, mTup, mLst, mYes, mAug, mSl, mPart, mNoPart, addD_i, addD_t, addD_r, addD_s, subD_i, mulD_i, mulD_r, divD_i, modD_i, powD_i, ltD_i, leD_i, gtD_i, geD_i, eqD_i, eqD_s, eqD_r, neD_i, neD_s, neD_r, isND, notND, negD_i, revD_t, revD_r, lenR_t, listR_t, tupR_t, mListRg, mTupRg, mRg1, mRg2, ipAdd, ipSub, List.map_cons, List.map_nil, List.length_cons, List.length_nil, List.replicate, List.cons_append, List.nil_append, List.append_nil, List.getElem?_cons_zero, List.getElem?_cons_succ, List.set_cons_zero, List.set_cons_succ, Option.some.injEq, exists_eq_left', List.cons.injEq, and_assoc, D.int.injEq, D.bl.injEq, D.str.injEq, D.tup.injEq, D.wtup.injEq, D.flst.injEq, D.ref.injEq, wipeD, Nat.reduceSub, Nat.reduceAdd, true_and, and_true, Bool.false_eq_true, if_false, if_true, exists_and_left, exists_and_right, exists_eq_left, reduceCtorEq, false_and, exists_false, or_false, false_or, exists_const, ite_true, ite_false, ↓reduceIte, Bool.not_true, Bool.not_false, Bool.true_eq_false, Nat.zero_eq, Nat.succ_eq_add_one, Nat.sub_self, Nat.sub_zero, Nat.reduceEqDiff]
  refine isiR_t (by simp) ?_
  simp only [show isB "tuple" "tuple" = true from rfl, bodySp, mSeq, mRet, mRetN, mExp, mOp, mUn, mVar, mC, mB, mCons, mNil, mSet, mPar, mPar3, mCall, mTest, mIfS, mIf, mAnd, mOr, mNot, mAndV, mOrV, mNotV, mChain, mNx, mPass, mAsg, gNm, gTp, gsCons, gsNil, mIt, mEnum, mR1, mR2, rk1, rk2, mTup, mLst, mYes, mAug, mSl, mPart, mNoPart, addD_i, addD_t, addD_r, addD_s, subD_i, mulD_i, mulD_r, divD_i, modD_i, powD_i, ltD_i, leD_i, gtD_i, geD_i, eqD_i, eqD_s, eqD_r, neD_i, neD_s, neD_r, isND, notND, negD_i, revD_t, revD_r, lenR_t, listR_t, tupR_t, mListRg, mTupRg, mRg1, mRg2, ipAdd, ipSub, List.map_cons, List.map_nil, List.length_cons, List.length_nil, List.replicate, List.cons_append, List.nil_append, List.append_nil, List.getElem?_cons_zero, List.getElem?_cons_succ, List.set_cons_zero, List.set_cons_succ, Option.some.injEq, exists_eq_left', List.cons.injEq, and_assoc, D.int.injEq, D.bl.injEq, D.str.injEq, D.tup.injEq, D.wtup.injEq, D.flst.injEq, D.ref.injEq, wipeD, Nat.reduceSub, Nat.reduceAdd, true_and, and_true, Bool.false_eq_true, if_false, if_true, exists_and_left, exists_and_right, exists_eq_left, reduceCtorEq, false_and, exists_false, or_false, false_or, exists_const, ite_true, ite_false, ↓reduceIte, Bool.not_true, Bool.not_false, Bool.true_eq_false, Nat.zero_eq, Nat.succ_eq_add_one, Nat.sub_self, Nat.sub_zero, Nat.reduceEqDiff]
  rw [show (((nI l).length : Nat) : Int) = (n : Int) by rw [nI_len, rk.len]]
  simp only [decide_true, bodySp, mSeq, mRet, mRetN, mExp, mOp, mUn, mVar, mC, mB, mCons, mNil, mSet, mPar, mPar3, mCall, mTest, mIfS, mIf, mAnd, mOr, mNot, mAndV, mOrV, mNotV, mChain, mNx, mPass, mAsg, gNm, gTp, gsCons, gsNil, mIt, mEnum, mR1, mR2, rk1, rk2, mTup, mLst, mYes, mAug, mSl, mPart, mNoPart, addD_i, addD_t, addD_r, addD_s, subD_i, mulD_i, mulD_r, divD_i, modD_i, powD_i, ltD_i, leD_i, gtD_i, geD_i, eqD_i, eqD_s, eqD_r, neD_i, neD_s, neD_r, isND, notND, negD_i, revD_t, revD_r, lenR_t, listR_t, tupR_t, mListRg, mTupRg, mRg1, mRg2, ipAdd, ipSub, List.map_cons, List.map_nil, List.length_cons, List.length_nil, List.replicate, List.cons_append, List.nil_append, List.append_nil, List.getElem?_cons_zero, List.getElem?_cons_succ, List.set_cons_zero, List.set_cons_succ, Option.some.injEq, exists_eq_left', List.cons.injEq, and_assoc, D.int.injEq, D.bl.injEq, D.str.injEq, D.tup.injEq, D.wtup.injEq, D.flst.injEq, D.ref.injEq, wipeD, Nat.reduceSub, Nat.reduceAdd, true_and, and_true, Bool.false_eq_true, if_false, if_true, exists_and_left, exists_and_right, exists_eq_left, reduceCtorEq, false_and, exists_false, or_false, false_or, exists_const, ite_true, ite_false, ↓reduceIte, Bool.not_true, Bool.not_false, Bool.true_eq_false, Nat.zero_eq, Nat.succ_eq_add_one, Nat.sub_self, Nat.sub_zero, Nat.reduceEqDiff]
  intro p hp
  refine lcD_int (fun _ => true) (fun x => .bl (decide (0 ≤ x ∧ x < n))) (fun _ => trivial) (by have := rk.len; omega) (fun x hx acc N hN => ?_) ?_
  · simp only [bodySp, mSeq, mRet, mRetN, mExp, mOp, mUn, mVar, mC, mB, mCons, mNil, mSet, mPar, mPar3, mCall, mTest, mIfS, mIf, mAnd, mOr, mNot, mAndV, mOrV, mNotV, mChain, mNx, mPass, mAsg, gNm, gTp, gsCons, gsNil, mIt, mEnum, mR1, mR2, rk1, rk2, mTup, mLst, mYes, mAug, mSl, mPart, mNoPart, addD_i, addD_t, addD_r, addD_s, subD_i, mulD_i, mulD_r, divD_i, modD_i, powD_i, ltD_i, leD_i, gtD_i, geD_i, eqD_i, eqD_s, eqD_r, neD_i, neD_s, neD_r, isND, notND, negD_i, revD_t, revD_r, lenR_t, listR_t, tupR_t, mListRg, mTupRg, mRg1, mRg2, ipAdd, ipSub, List.map_cons, List.map_nil, List.length_cons, List.length_nil, List.replicate, List.cons_append, List.nil_append, List.append_nil, List.getElem?_cons_zero, List.getElem?_cons_succ, List.set_cons_zero, List.set_cons_succ, Option.some.injEq, exists_eq_left', List.cons.injEq, and_assoc, D.int.injEq, D.bl.injEq, D.str.injEq, D.tup.injEq, D.wtup.injEq, D.flst.injEq, D.ref.injEq, wipeD, Nat.reduceSub, Nat.reduceAdd, true_and, and_true, Bool.false_eq_true, if_false, if_true, exists_and_left, exists_and_right, exists_eq_left, reduceCtorEq, false_and, exists_false, or_false, false_or, exists_const, ite_true, ite_false, ↓reduceIte, Bool.not_true, Bool.not_false, Bool.true_eq_false, Nat.zero_eq, Nat.succ_eq_add_one, Nat.sub_self, Nat.sub_zero, Nat.reduceEqDiff]
    exact ⟨x, n, rfl, by simpa using hN⟩
  · refine ⟨p, List.replicate l.length true, rfl, .inl ?_, ?_⟩
    · rw [bls_true l _ fun x hx => by simpa using rk.bd x hx]
      exact updM_same
    · simp only [show (List.replicate l.length true).all id = true by simp, mLenSet, bodySp, mSeq, mRet, mRetN, mExp, mOp, mUn, mVar, mC, mB, mCons, mNil, mSet, mPar, mPar3, mCall, mTest, mIfS, mIf, mAnd, mOr, mNot, mAndV, mOrV, mNotV, mChain, mNx, mPass, mAsg, gNm, gTp, gsCons, gsNil, mIt, mEnum, mR1, mR2, rk1, rk2, mTup, mLst, mYes, mAug, mSl, mPart, mNoPart, addD_i, addD_t, addD_r, addD_s, subD_i, mulD_i, mulD_r, divD_i, modD_i, powD_i, ltD_i, leD_i, gtD_i, geD_i, eqD_i, eqD_s, eqD_r, neD_i, neD_s, neD_r, isND, notND, negD_i, revD_t, revD_r, lenR_t, listR_t, tupR_t, mListRg, mTupRg, mRg1, mRg2, ipAdd, ipSub, List.map_cons, List.map_nil, List.length_cons, List.length_nil, List.replicate, List.cons_append, List.nil_append, List.append_nil, List.getElem?_cons_zero, List.getElem?_cons_succ, List.set_cons_zero, List.set_cons_succ, Option.some.injEq, exists_eq_left', List.cons.injEq, and_assoc, D.int.injEq, D.bl.injEq, D.str.injEq, D.tup.injEq, D.wtup.injEq, D.flst.injEq, D.ref.injEq, wipeD, Nat.reduceSub, Nat.reduceAdd, true_and, and_true, Bool.false_eq_true, if_false, if_true, exists_and_left, exists_and_right, exists_eq_left, reduceCtorEq, false_and, exists_false, or_false, false_or, exists_const, ite_true, ite_false, ↓reduceIte, Bool.not_true, Bool.not_false, Bool.true_eq_false, Nat.zero_eq, Nat.succ_eq_add_one, Nat.sub_self, Nat.sub_zero, Nat.reduceEqDiff]
      refine ⟨l, rfl, by have := rk.len; omega, fun ks k1 k2 => ?_⟩
      rw [show (ks.length : Int) = n by rw [same_len k1 rk.nd k2, rk.len], decide_eq_true rfl]
      exact h _ (Ex.new hp)
def sp_check_rankings : DSp := fun ds μ RX R => ∃ rs : List (List Int), ds = [.tup (rs.map tI)] ∧ ((∀ l ∈ rs, Rk l rs.length) ∧ 1 ≤ rs.length ∧ rs.length ≤ 40) ∧ ∀ μ', Ex μ μ' → R .non μ'
def t_check_rankings : DS :=
  (mSeq (mIfS (mOr (mNot (mTest (mB isiR (mCons (mVar 0) (mCons (mC (.ty "tuple")) mNil))))) (mNot (mTest (mChain leD leD (mC (.int 1)) (mB lenR (mCons (mVar 0) mNil)) (mC (.int 40))))))
  mNever
  mNx)
  (mFor (mEnum (mVar 0)) (gTp 2 (gsCons (gNm 1) (gsCons (gNm 2) gsNil)))
  (mIfS (mNot (mTest (mCall sp_is_ranking [] (mCons (mVar 2) (mCons (mB lenR (mCons (mVar 0) mNil)) mNil)))))
  mNever
  mNx)))
abbrev N_check_rankings : List Str := ["value", "person", "ranking"]
abbrev P_check_rankings : List Str := ["value"]
theorem law_check_rankings : ∀ ds μ RX R, sp_check_rankings ds μ RX R → bodySp P_check_rankings.length N_check_rankings.length t_check_rankings ds μ RX R := by
  rintro _ μ RX R ⟨rs, rfl, ⟨hr, h1, h2⟩, h⟩
  refine ⟨rfl, ?_⟩
  simp only [t_check_rankings, mFor, bodySp, mSeq, mRet, mRetN, mExp, mOp, mUn, mVar, mC, mB, mCons, mNil, mSet, mPar, mPar3, mCall, mTest, mIfS, mIf, mAnd, mOr, mNot, mAndV, mOrV, mNotV, mChain, mNx, mPass, mAsg, gNm, gTp, gsCons, gsNil, mIt, mEnum, mR1, mR2, rk1, rk2, mTup, mLst, mYes, mAug, mSl, mPart, mNoPart, addD_i, addD_t, addD_r, addD_s, subD_i, mulD_i, mulD_r, divD_i, modD_i, powD_i, ltD_i, leD_i, gtD_i, geD_i, eqD_i, eqD_s, eqD_r, neD_i, neD_s, neD_r, isND, notND, negD_i, revD_t, revD_r, lenR_t, listR_t, tupR_t, mListRg, mTupRg, mRg1, mRg2, ipAdd, ipSub, List.map_cons, List.map_nil, List.length_cons, List.length_nil, List.replicate, List.cons_append, List.nil_append, List.append_nil, List.getElem?_cons_zero, List.getElem?_cons_succ, List.set_cons_zero, List.set_cons_succ, Option.some.injEq, exists_eq_left', List.cons.injEq, and_assoc, D.int.injEq, D.bl.injEq, D.str.injEq, D.tup.injEq, D.wtup.injEq, D.flst.injEq, D.ref.injEq, wipeD, Nat.reduceSub, Nat.reduceAdd, true_and, and_true, Bool.false_eq_true, if_false, if_true, exists_and_left, exists_and_right, exists_eq_left, reduceCtorEq, false_and, exists_false, or_false, false_or, exists_const, ite_true, ite_false, ↓reduceIte, Bool.not_true, Bool.not_false, Bool.true_eq_false, Nat.zero_eq, Nat.succ_eq_add_one, Nat.sub_self, Nat.sub_zero, Nat.reduceEqDiff]
  refine isiR_t (n := "tuple") (by simp) ?_
  simp only [show isB "tuple" "tuple" = true from rfl, bodySp, mSeq, mRet, mRetN, mExp, mOp, mUn, mVar, mC, mB, mCons, mNil, mSet, mPar, mPar3, mCall, mTest, mIfS, mIf, mAnd, mOr, mNot, mAndV, mOrV, mNotV, mChain, mNx, mPass, mAsg, gNm, gTp, gsCons, gsNil, mIt, mEnum, mR1, mR2, rk1, rk2, mTup, mLst, mYes, mAug, mSl, mPart, mNoPart, addD_i, addD_t, addD_r, addD_s, subD_i, mulD_i, mulD_r, divD_i, modD_i, powD_i, ltD_i, leD_i, gtD_i, geD_i, eqD_i, eqD_s, eqD_r, neD_i, neD_s, neD_r, isND, notND, negD_i, revD_t, revD_r, lenR_t, listR_t, tupR_t, mListRg, mTupRg, mRg1, mRg2, ipAdd, ipSub, List.map_cons, List.map_nil, List.length_cons, List.length_nil, List.replicate, List.cons_append, List.nil_append, List.append_nil, List.getElem?_cons_zero, List.getElem?_cons_succ, List.set_cons_zero, List.set_cons_succ, Option.some.injEq, exists_eq_left', List.cons.injEq, and_assoc, D.int.injEq, D.bl.injEq, D.str.injEq, D.tup.injEq, D.wtup.injEq, D.flst.injEq, D.ref.injEq, wipeD, Nat.reduceSub, Nat.reduceAdd, true_and, and_true, Bool.false_eq_true, if_false, if_true, exists_and_left, exists_and_right, exists_eq_left, reduceCtorEq, false_and, exists_false, or_false, false_or, exists_const, ite_true, ite_false, ↓reduceIte, Bool.not_true, Bool.not_false, Bool.true_eq_false, Nat.zero_eq, Nat.succ_eq_add_one, Nat.sub_self, Nat.sub_zero, Nat.reduceEqDiff]
  rw [List.length_map]
  simp only [show decide ((1 : Int) ≤ (rs.length : Int)) = true by simp; omega, show decide ((rs.length : Int) ≤ 40) = true by simp; omega, bodySp, mSeq, mRet, mRetN, mExp, mOp, mUn, mVar, mC, mB, mCons, mNil, mSet, mPar, mPar3, mCall, mTest, mIfS, mIf, mAnd, mOr, mNot, mAndV, mOrV, mNotV, mChain, mNx, mPass, mAsg, gNm, gTp, gsCons, gsNil, mIt, mEnum, mR1, mR2, rk1, rk2, mTup, mLst, mYes, mAug, mSl, mPart, mNoPart, addD_i, addD_t, addD_r, addD_s, subD_i, mulD_i, mulD_r, divD_i, modD_i, powD_i, ltD_i, leD_i, gtD_i, geD_i, eqD_i, eqD_s, eqD_r, neD_i, neD_s, neD_r, isND, notND, negD_i, revD_t, revD_r, lenR_t, listR_t, tupR_t, mListRg, mTupRg, mRg1, mRg2, ipAdd, ipSub, List.map_cons, List.map_nil, List.length_cons, List.length_nil, List.replicate, List.cons_append, List.nil_append, List.append_nil, List.getElem?_cons_zero, List.getElem?_cons_succ, List.set_cons_zero, List.set_cons_succ, Option.some.injEq, exists_eq_left', List.cons.injEq, and_assoc, D.int.injEq, D.bl.injEq, D.str.injEq, D.tup.injEq, D.wtup.injEq, D.flst.injEq, D.ref.injEq, wipeD, Nat.reduceSub, Nat.reduceAdd, true_and, and_true, Bool.false_eq_true, if_false, if_true, exists_and_left, exists_and_right, exists_eq_left, reduceCtorEq, false_and, exists_false, or_false, false_or, exists_const, ite_true, ite_false, ↓reduceIte, Bool.not_true, Bool.not_false, Bool.true_eq_false, Nat.zero_eq, Nat.succ_eq_add_one, Nat.sub_self, Nat.sub_zero, Nat.reduceEqDiff]
  refine forD_ix _ (fun k δ μ' => ∃ o1 o2, δ = [some (.tup (rs.map tI)), o1, o2] ∧ Ex μ μ') (fun _ _ _ _ => trivial) ?_ ?_ _ _ ⟨_, _, rfl, Ex.refl⟩
  · rintro _ μ' ⟨o1, o2, rfl, hE⟩
    exact h μ' hE
  · rintro k d _ μ' N hd hN ⟨o1, o2, rfl, hE⟩
    have hk : k < rs.length := by
      rcases Nat.lt_or_ge k rs.length with z | z
      · exact z
      · rw [List.getElem?_eq_none (by rw [enumD_len, List.length_map]; exact z)] at hd; cases hd
    rw [enumD_get (d := tI rs[k]) (by simp [hk])] at hd
    cases hd
    simp only [bodySp, mSeq, mRet, mRetN, mExp, mOp, mUn, mVar, mC, mB, mCons, mNil, mSet, mPar, mPar3, mCall, mTest, mIfS, mIf, mAnd, mOr, mNot, mAndV, mOrV, mNotV, mChain, mNx, mPass, mAsg, gNm, gTp, gsCons, gsNil, mIt, mEnum, mR1, mR2, rk1, rk2, mTup, mLst, mYes, mAug, mSl, mPart, mNoPart, addD_i, addD_t, addD_r, addD_s, subD_i, mulD_i, mulD_r, divD_i, modD_i, powD_i, ltD_i, leD_i, gtD_i, geD_i, eqD_i, eqD_s, eqD_r, neD_i, neD_s, neD_r, isND, notND, negD_i, revD_t, revD_r, lenR_t, listR_t, tupR_t, mListRg, mTupRg, mRg1, mRg2, ipAdd, ipSub, List.map_cons, List.map_nil, List.length_cons, List.length_nil, List.replicate, List.cons_append, List.nil_append, List.append_nil, List.getElem?_cons_zero, List.getElem?_cons_succ, List.set_cons_zero, List.set_cons_succ, Option.some.injEq, exists_eq_left', List.cons.injEq, and_assoc, D.int.injEq, D.bl.injEq, D.str.injEq, D.tup.injEq, D.wtup.injEq, D.flst.injEq, D.ref.injEq, wipeD, Nat.reduceSub, Nat.reduceAdd, true_and, and_true, Bool.false_eq_true, if_false, if_true, exists_and_left, exists_and_right, exists_eq_left, reduceCtorEq, false_and, exists_false, or_false, false_or, exists_const, ite_true, ite_false, ↓reduceIte, Bool.not_true, Bool.not_false, Bool.true_eq_false, Nat.zero_eq, Nat.succ_eq_add_one, Nat.sub_self, Nat.sub_zero, Nat.reduceEqDiff]
    refine ⟨rs[k], rs.length, by rw [List.length_map], ⟨hr _ (List.getElem_mem hk), h2⟩, fun μ2 hE2 => ?_⟩
    simp only [bodySp, mSeq, mRet, mRetN, mExp, mOp, mUn, mVar, mC, mB, mCons, mNil, mSet, mPar, mPar3, mCall, mTest, mIfS, mIf, mAnd, mOr, mNot, mAndV, mOrV, mNotV, mChain, mNx, mPass, mAsg, gNm, gTp, gsCons, gsNil, mIt, mEnum, mR1, mR2, rk1, rk2, mTup, mLst, mYes, mAug, mSl, mPart, mNoPart, addD_i, addD_t, addD_r, addD_s, subD_i, mulD_i, mulD_r, divD_i, modD_i, powD_i, ltD_i, leD_i, gtD_i, geD_i, eqD_i, eqD_s, eqD_r, neD_i, neD_s, neD_r, isND, notND, negD_i, revD_t, revD_r, lenR_t, listR_t, tupR_t, mListRg, mTupRg, mRg1, mRg2, ipAdd, ipSub, List.map_cons, List.map_nil, List.length_cons, List.length_nil, List.replicate, List.cons_append, List.nil_append, List.append_nil, List.getElem?_cons_zero, List.getElem?_cons_succ, List.set_cons_zero, List.set_cons_succ, Option.some.injEq, exists_eq_left', List.cons.injEq, and_assoc, D.int.injEq, D.bl.injEq, D.str.injEq, D.tup.injEq, D.wtup.injEq, D.flst.injEq, D.ref.injEq, wipeD, Nat.reduceSub, Nat.reduceAdd, true_and, and_true, Bool.false_eq_true, if_false, if_true, exists_and_left, exists_and_right, exists_eq_left, reduceCtorEq, false_and, exists_false, or_false, false_or, exists_const, ite_true, ite_false, ↓reduceIte, Bool.not_true, Bool.not_false, Bool.true_eq_false, Nat.zero_eq, Nat.succ_eq_add_one, Nat.sub_self, Nat.sub_zero, Nat.reduceEqDiff]
    exact hN _ _ ⟨_, _, rfl, hE.trans hE2⟩
/-! ### displacements checked -/
structure Vd (d : List Int) : Prop where
  l3 : 3 ≤ d.length
  l20 : d.length ≤ 20
  bd : ∀ x ∈ d, -(d.length : Int) < x ∧ x < d.length
  sum : d.sum = 0
  nd : ((List.range d.length).map fun i : Nat => ((i : Int) + d.getD i 0) % d.length).Nodup
def sp_check_displacements : DSp := fun ds μ RX R => ∃ d, ds = [tI d] ∧ Vd d ∧ ∀ μ', Ex μ μ' → R .non μ'
def t_check_displacements : DS :=
  (mSeq (mIfS (mOr (mNot (mTest (mB isiR (mCons (mVar 0) (mCons (mC (.ty "tuple")) mNil))))) (mNot (mTest (mChain leD leD (mC (.int 3)) (mB lenR (mCons (mVar 0) mNil)) (mC (.int 20))))))
  mNever
  mNx)
  (mSeq (mSet 1 (mB lenR (mCons (mVar 0) mNil)))
  (mSeq (mFor (mEnum (mVar 0)) (gTp 2 (gsCons (gNm 2) (gsCons (gNm 3) gsNil)))
  (mIfS (mOr (mNot (mTest (mCall sp_is_integer [] (mCons (mVar 3) mNil)))) (mNot (mTest (mChain ltD ltD (mUn negD (mVar 1)) (mVar 3) (mVar 1)))))
  mNever
  mNx))
  (mIfS (mOr (mTest (mOp neD (mB sumR (mCons (mVar 0) mNil)) (mC (.int 0)))) (mTest (mOp neD (mLenSet (mLc (mEnum (mVar 0)) (gTp 2 (gsCons (gNm 3) (gsCons (gNm 4) gsNil))) mYes (mOp modD (mOp addD (mVar 3) (mVar 4)) (mVar 1)) [3, 4])) (mVar 1))))
  mNever
  mNx))))
abbrev N_check_displacements : List Str := ["value", "size", "position", "item", "move"]
abbrev P_check_displacements : List Str := ["value"]
theorem getD_mem {l : List Int} {i : Nat} (h : i < l.length) : l.getD i 0 ∈ l := by
  rw [List.getD_eq_getElem?_getD, List.getElem?_eq_getElem h]
  exact List.getElem_mem h
theorem law_check_displacements : ∀ ds μ RX R, sp_check_displacements ds μ RX R → bodySp P_check_displacements.length N_check_displacements.length t_check_displacements ds μ RX R := by
  rintro _ μ RX R ⟨d, rfl, V, h⟩
  have h3 := V.l3
  have h20 := V.l20
  refine ⟨rfl, ?_⟩
  simp only [t_check_displacements, mFor, bodySp, mSeq, mRet, mRetN, mExp, mOp, mUn, mVar, mC, mB, mCons, mNil, mSet, mPar, mPar3, mCall, mTest, mIfS, mIf, mAnd, mOr, mNot, mAndV, mOrV, mNotV, mChain, mNx, mPass, mAsg, gNm, gTp, gsCons, gsNil, mIt, mEnum, mR1, mR2, rk1, rk2, mTup, mLst, mYes, mAug, mSl, mPart, mNoPart, addD_i, addD_t, addD_r, addD_s, subD_i, mulD_i, mulD_r, divD_i, modD_i, powD_i, ltD_i, leD_i, gtD_i, geD_i, eqD_i, eqD_s, eqD_r, neD_i, neD_s, neD_r, isND, notND, negD_i, revD_t, revD_r, lenR_t, listR_t, tupR_t, mListRg, mTupRg, mRg1, mRg2, ipAdd, ipSub, List.map_cons, List.map_nil, List.length_cons, List.length_nil, List.replicate, List.cons_append, List.nil_append, List.append_nil, List.getElem?_cons_zero, List.getElem?_cons_succ, List.set_cons_zero, List.set_cons_succ, Option.some.injEq, exists_eq_left', List.cons.injEq, and_assoc, D.int.injEq, D.bl.injEq, D.str.injEq, D.tup.injEq, D.wtup.injEq, D.flst.injEq, D.ref.injEq, wipeD, Nat.reduceSub, Nat.reduceAdd, true_and, and_true, Bool.false_eq_true, if_false, if_true, exists_and_left, exists_and_right, exists_eq_left, reduceCtorEq, false_and, exists_false, or_false, false_or, exists_const, ite_true, ite_false, ↓reduceIte, Bool.not_true, Bool.not_false, Bool.true_eq_false, Nat.zero_eq, Nat.succ_eq_add_one, Nat.sub_self, Nat.sub_zero, Nat.reduceEqDiff]
  refine isiR_t (n := "tuple") (by simp) ?_
  simp only [show isB "tuple" "tuple" = true from rfl, bodySp, mSeq, mRet, mRetN, mExp, mOp, mUn, mVar, mC, mB, mCons, mNil, mSet, mPar, mPar3, mCall, mTest, mIfS, mIf, mAnd, mOr, mNot, mAndV, mOrV, mNotV, mChain, mNx, mPass, mAsg, gNm, gTp, gsCons, gsNil, mIt, mEnum, mR1, mR2, rk1, rk2, mTup, mLst, mYes, mAug, mSl, mPart, mNoPart, addD_i, addD_t, addD_r, addD_s, subD_i, mulD_i, mulD_r, divD_i, modD_i, powD_i, ltD_i, leD_i, gtD_i, geD_i, eqD_i, eqD_s, eqD_r, neD_i, neD_s, neD_r, isND, notND, negD_i, revD_t, revD_r, lenR_t, listR_t, tupR_t, mListRg, mTupRg, mRg1, mRg2, ipAdd, ipSub, List.map_cons, List.map_nil, List.length_cons, List.length_nil, List.replicate, List.cons_append, List.nil_append, List.append_nil, List.getElem?_cons_zero, List.getElem?_cons_succ, List.set_cons_zero, List.set_cons_succ, Option.some.injEq, exists_eq_left', List.cons.injEq, and_assoc, D.int.injEq, D.bl.injEq, D.str.injEq, D.tup.injEq, D.wtup.injEq, D.flst.injEq, D.ref.injEq, wipeD, Nat.reduceSub, Nat.reduceAdd, true_and, and_true, Bool.false_eq_true, if_false, if_true, exists_and_left, exists_and_right, exists_eq_left, reduceCtorEq, false_and, exists_false, or_false, false_or, exists_const, ite_true, ite_false, ↓reduceIte, Bool.not_true, Bool.not_false, Bool.true_eq_false, Nat.zero_eq, Nat.succ_eq_add_one, Nat.sub_self, Nat.sub_zero, Nat.reduceEqDiff]
  rw [nI_len]
  simp only [show decide ((3 : Int) ≤ (d.length : Int)) = true by simp; omega, show decide ((d.length : Int) ≤ 20) = true by simp; omega, bodySp, mSeq, mRet, mRetN, mExp, mOp, mUn, mVar, mC, mB, mCons, mNil, mSet, mPar, mPar3, mCall, mTest, mIfS, mIf, mAnd, mOr, mNot, mAndV, mOrV, mNotV, mChain, mNx, mPass, mAsg, gNm, gTp, gsCons, gsNil, mIt, mEnum, mR1, mR2, rk1, rk2, mTup, mLst, mYes, mAug, mSl, mPart, mNoPart, addD_i, addD_t, addD_r, addD_s, subD_i, mulD_i, mulD_r, divD_i, modD_i, powD_i, ltD_i, leD_i, gtD_i, geD_i, eqD_i, eqD_s, eqD_r, neD_i, neD_s, neD_r, isND, notND, negD_i, revD_t, revD_r, lenR_t, listR_t, tupR_t, mListRg, mTupRg, mRg1, mRg2, ipAdd, ipSub, List.map_cons, List.map_nil, List.length_cons, List.length_nil, List.replicate, List.cons_append, List.nil_append, List.append_nil, List.getElem?_cons_zero, List.getElem?_cons_succ, List.set_cons_zero, List.set_cons_succ, Option.some.injEq, exists_eq_left', List.cons.injEq, and_assoc, D.int.injEq, D.bl.injEq, D.str.injEq, D.tup.injEq, D.wtup.injEq, D.flst.injEq, D.ref.injEq, wipeD, Nat.reduceSub, Nat.reduceAdd, true_and, and_true, Bool.false_eq_true, if_false, if_true, exists_and_left, exists_and_right, exists_eq_left, reduceCtorEq, false_and, exists_false, or_false, false_or, exists_const, ite_true, ite_false, ↓reduceIte, Bool.not_true, Bool.not_false, Bool.true_eq_false, Nat.zero_eq, Nat.succ_eq_add_one, Nat.sub_self, Nat.sub_zero, Nat.reduceEqDiff]
  refine forD_ix _ (fun k δ μ' => ∃ o1 o2 o3, δ = [some (tI d), some (.int d.length), o1, o2, o3] ∧ μ' = μ) (fun _ _ _ _ => trivial) ?_ ?_ _ _ ⟨_, _, _, rfl, rfl⟩
  · rintro _ μ' ⟨o1, o2, o3, rfl, rfl⟩
    simp only [mLenSet, mLc, bodySp, mSeq, mRet, mRetN, mExp, mOp, mUn, mVar, mC, mB, mCons, mNil, mSet, mPar, mPar3, mCall, mTest, mIfS, mIf, mAnd, mOr, mNot, mAndV, mOrV, mNotV, mChain, mNx, mPass, mAsg, gNm, gTp, gsCons, gsNil, mIt, mEnum, mR1, mR2, rk1, rk2, mTup, mLst, mYes, mAug, mSl, mPart, mNoPart, addD_i, addD_t, addD_r, addD_s, subD_i, mulD_i, mulD_r, divD_i, modD_i, powD_i, ltD_i, leD_i, gtD_i, geD_i, eqD_i, eqD_s, eqD_r, neD_i, neD_s, neD_r, isND, notND, negD_i, revD_t, revD_r, lenR_t, listR_t, tupR_t, mListRg, mTupRg, mRg1, mRg2, ipAdd, ipSub, List.map_cons, List.map_nil, List.length_cons, List.length_nil, List.replicate, List.cons_append, List.nil_append, List.append_nil, List.getElem?_cons_zero, List.getElem?_cons_succ, List.set_cons_zero, List.set_cons_succ, Option.some.injEq, exists_eq_left', List.cons.injEq, and_assoc, D.int.injEq, D.bl.injEq, D.str.injEq, D.tup.injEq, D.wtup.injEq, D.flst.injEq, D.ref.injEq, wipeD, Nat.reduceSub, Nat.reduceAdd, true_and, and_true, Bool.false_eq_true, if_false, if_true, exists_and_left, exists_and_right, exists_eq_left, reduceCtorEq, false_and, exists_false, or_false, false_or, exists_const, ite_true, ite_false, ↓reduceIte, Bool.not_true, Bool.not_false, Bool.true_eq_false, Nat.zero_eq, Nat.succ_eq_add_one, Nat.sub_self, Nat.sub_zero, Nat.reduceEqDiff]
    refine ⟨d, .inl rfl, ?_⟩
    simp only [V.sum, decide_true, bodySp, mSeq, mRet, mRetN, mExp, mOp, mUn, mVar, mC, mB, mCons, mNil, mSet, mPar, mPar3, mCall, mTest, mIfS, mIf, mAnd, mOr, mNot, mAndV, mOrV, mNotV, mChain, mNx, mPass, mAsg, gNm, gTp, gsCons, gsNil, mIt, mEnum, mR1, mR2, rk1, rk2, mTup, mLst, mYes, mAug, mSl, mPart, mNoPart, addD_i, addD_t, addD_r, addD_s, subD_i, mulD_i, mulD_r, divD_i, modD_i, powD_i, ltD_i, leD_i, gtD_i, geD_i, eqD_i, eqD_s, eqD_r, neD_i, neD_s, neD_r, isND, notND, negD_i, revD_t, revD_r, lenR_t, listR_t, tupR_t, mListRg, mTupRg, mRg1, mRg2, ipAdd, ipSub, List.map_cons, List.map_nil, List.length_cons, List.length_nil, List.replicate, List.cons_append, List.nil_append, List.append_nil, List.getElem?_cons_zero, List.getElem?_cons_succ, List.set_cons_zero, List.set_cons_succ, Option.some.injEq, exists_eq_left', List.cons.injEq, and_assoc, D.int.injEq, D.bl.injEq, D.str.injEq, D.tup.injEq, D.wtup.injEq, D.flst.injEq, D.ref.injEq, wipeD, Nat.reduceSub, Nat.reduceAdd, true_and, and_true, Bool.false_eq_true, if_false, if_true, exists_and_left, exists_and_right, exists_eq_left, reduceCtorEq, false_and, exists_false, or_false, false_or, exists_const, ite_true, ite_false, ↓reduceIte, Bool.not_true, Bool.not_false, Bool.true_eq_false, Nat.zero_eq, Nat.succ_eq_add_one, Nat.sub_self, Nat.sub_zero, Nat.reduceEqDiff]
    intro p hp
    refine lcD_en (fun i => .int (((i : Int) + d.getD i 0) % d.length)) (fun _ => trivial) (by rw [nI_len]; omega) (fun i x hx acc N hN => ?_) ?_
    · have hi : i < d.length := by
        rcases Nat.lt_or_ge i d.length with z | z
        · exact z
        · rw [List.getElem?_eq_none (by rw [nI_len]; exact z)] at hx; cases hx
      have ex : x = .int (d.getD i 0) := by
        rw [List.getElem?_map, List.getElem?_eq_getElem hi] at hx
        rw [List.getD_eq_getElem?_getD, List.getElem?_eq_getElem hi]
        exact (Option.some.inj hx).symm
      subst ex
      simp only [bodySp, mSeq, mRet, mRetN, mExp, mOp, mUn, mVar, mC, mB, mCons, mNil, mSet, mPar, mPar3, mCall, mTest, mIfS, mIf, mAnd, mOr, mNot, mAndV, mOrV, mNotV, mChain, mNx, mPass, mAsg, gNm, gTp, gsCons, gsNil, mIt, mEnum, mR1, mR2, rk1, rk2, mTup, mLst, mYes, mAug, mSl, mPart, mNoPart, addD_i, addD_t, addD_r, addD_s, subD_i, mulD_i, mulD_r, divD_i, modD_i, powD_i, ltD_i, leD_i, gtD_i, geD_i, eqD_i, eqD_s, eqD_r, neD_i, neD_s, neD_r, isND, notND, negD_i, revD_t, revD_r, lenR_t, listR_t, tupR_t, mListRg, mTupRg, mRg1, mRg2, ipAdd, ipSub, List.map_cons, List.map_nil, List.length_cons, List.length_nil, List.replicate, List.cons_append, List.nil_append, List.append_nil, List.getElem?_cons_zero, List.getElem?_cons_succ, List.set_cons_zero, List.set_cons_succ, Option.some.injEq, exists_eq_left', List.cons.injEq, and_assoc, D.int.injEq, D.bl.injEq, D.str.injEq, D.tup.injEq, D.wtup.injEq, D.flst.injEq, D.ref.injEq, wipeD, Nat.reduceSub, Nat.reduceAdd, true_and, and_true, Bool.false_eq_true, if_false, if_true, exists_and_left, exists_and_right, exists_eq_left, reduceCtorEq, false_and, exists_false, or_false, false_or, exists_const, ite_true, ite_false, ↓reduceIte, Bool.not_true, Bool.not_false, Bool.true_eq_false, Nat.zero_eq, Nat.succ_eq_add_one, Nat.sub_self, Nat.sub_zero, Nat.reduceEqDiff]
      exact ⟨by omega, hN⟩
    · refine ⟨(List.range d.length).map fun i : Nat => ((i : Int) + d.getD i 0) % d.length, .inl ?_, by simp; omega, fun ks k1 k2 => ?_⟩
      · rw [updM_same, nI_len, List.map_map]; rfl
      · rw [show (ks.length : Int) = d.length by rw [same_len k1 V.nd k2]; simp]
        simp only [decide_true, bodySp, mSeq, mRet, mRetN, mExp, mOp, mUn, mVar, mC, mB, mCons, mNil, mSet, mPar, mPar3, mCall, mTest, mIfS, mIf, mAnd, mOr, mNot, mAndV, mOrV, mNotV, mChain, mNx, mPass, mAsg, gNm, gTp, gsCons, gsNil, mIt, mEnum, mR1, mR2, rk1, rk2, mTup, mLst, mYes, mAug, mSl, mPart, mNoPart, addD_i, addD_t, addD_r, addD_s, subD_i, mulD_i, mulD_r, divD_i, modD_i, powD_i, ltD_i, leD_i, gtD_i, geD_i, eqD_i, eqD_s, eqD_r, neD_i, neD_s, neD_r, isND, notND, negD_i, revD_t, revD_r, lenR_t, listR_t, tupR_t, mListRg, mTupRg, mRg1, mRg2, ipAdd, ipSub, List.map_cons, List.map_nil, List.length_cons, List.length_nil, List.replicate, List.cons_append, List.nil_append, List.append_nil, List.getElem?_cons_zero, List.getElem?_cons_succ, List.set_cons_zero, List.set_cons_succ, Option.some.injEq, exists_eq_left', List.cons.injEq, and_assoc, D.int.injEq, D.bl.injEq, D.str.injEq, D.tup.injEq, D.wtup.injEq, D.flst.injEq, D.ref.injEq, wipeD, Nat.reduceSub, Nat.reduceAdd, true_and, and_true, Bool.false_eq_true, if_false, if_true, exists_and_left, exists_and_right, exists_eq_left, reduceCtorEq, false_and, exists_false, or_false, false_or, exists_const, ite_true, ite_false, ↓reduceIte, Bool.not_true, Bool.not_false, Bool.true_eq_false, Nat.zero_eq, Nat.succ_eq_add_one, Nat.sub_self, Nat.sub_zero, Nat.reduceEqDiff]
        exact h _ (Ex.new hp)
  · rintro k x _ μ' N hd hN ⟨o1, o2, o3, rfl, rfl⟩
    have hk : k < d.length := by
      rcases Nat.lt_or_ge k d.length with z | z
      · exact z
      · rw [List.getElem?_eq_none (by rw [enumD_len, nI_len]; exact z)] at hd; cases hd
    rw [enumD_get (d := .int (d.getD k 0)) (by rw [List.getElem?_map, List.getElem?_eq_getElem hk, List.getD_eq_getElem?_getD, List.getElem?_eq_getElem hk]; rfl)] at hd
    cases hd
    have b := V.bd _ (getD_mem hk)
    simp only [bodySp, mSeq, mRet, mRetN, mExp, mOp, mUn, mVar, mC, mB, mCons, mNil, mSet, mPar, mPar3, mCall, mTest, mIfS, mIf, mAnd, mOr, mNot, mAndV, mOrV, mNotV, mChain, mNx, mPass, mAsg, gNm, gTp, gsCons, gsNil, mIt, mEnum, mR1, mR2, rk1, rk2, mTup, mLst, mYes, mAug, mSl, mPart, mNoPart, addD_i, addD_t, addD_r, addD_s, subD_i, mulD_i, mulD_r, divD_i, modD_i, powD_i, ltD_i, leD_i, gtD_i, geD_i, eqD_i, eqD_s, eqD_r, neD_i, neD_s, neD_r, isND, notND, negD_i, revD_t, revD_r, lenR_t, listR_t, tupR_t, mListRg, mTupRg, mRg1, mRg2, ipAdd, ipSub, List.map_cons, List.map_nil, List.length_cons, List.length_nil, List.replicate, List.cons_append, List.nil_append, List.append_nil, List.getElem?_cons_zero, List.getElem?_cons_succ, List.set_cons_zero, List.set_cons_succ, Option.some.injEq, exists_eq_left', List.cons.injEq, and_assoc, D.int.injEq, D.bl.injEq, D.str.injEq, D.tup.injEq, D.wtup.injEq, D.flst.injEq, D.ref.injEq, wipeD, Nat.reduceSub, Nat.reduceAdd, true_and, and_true, Bool.false_eq_true, if_false, if_true, exists_and_left, exists_and_right, exists_eq_left, reduceCtorEq, false_and, exists_false, or_false, false_or, exists_const, ite_true, ite_false, ↓reduceIte, Bool.not_true, Bool.not_false, Bool.true_eq_false, Nat.zero_eq, Nat.succ_eq_add_one, Nat.sub_self, Nat.sub_zero, Nat.reduceEqDiff]
    refine ⟨_, rfl, ?_⟩
    simp only [show decide (-(d.length : Int) < d.getD k 0) = true from decide_eq_true (by omega), show decide (d.getD k 0 < (d.length : Int)) = true from decide_eq_true (by omega), bodySp, mSeq, mRet, mRetN, mExp, mOp, mUn, mVar, mC, mB, mCons, mNil, mSet, mPar, mPar3, mCall, mTest, mIfS, mIf, mAnd, mOr, mNot, mAndV, mOrV, mNotV, mChain, mNx, mPass, mAsg, gNm, gTp, gsCons, gsNil, mIt, mEnum, mR1, mR2, rk1, rk2, mTup, mLst, mYes, mAug, mSl, mPart, mNoPart, addD_i, addD_t, addD_r, addD_s, subD_i, mulD_i, mulD_r, divD_i, modD_i, powD_i, ltD_i, leD_i, gtD_i, geD_i, eqD_i, eqD_s, eqD_r, neD_i, neD_s, neD_r, isND, notND, negD_i, revD_t, revD_r, lenR_t, listR_t, tupR_t, mListRg, mTupRg, mRg1, mRg2, ipAdd, ipSub, List.map_cons, List.map_nil, List.length_cons, List.length_nil, List.replicate, List.cons_append, List.nil_append, List.append_nil, List.getElem?_cons_zero, List.getElem?_cons_succ, List.set_cons_zero, List.set_cons_succ, Option.some.injEq, exists_eq_left', List.cons.injEq, and_assoc, D.int.injEq, D.bl.injEq, D.str.injEq, D.tup.injEq, D.wtup.injEq, D.flst.injEq, D.ref.injEq, wipeD, Nat.reduceSub, Nat.reduceAdd, true_and, and_true, Bool.false_eq_true, if_false, if_true, exists_and_left, exists_and_right, exists_eq_left, reduceCtorEq, false_and, exists_false, or_false, false_or, exists_const, ite_true, ite_false, ↓reduceIte, Bool.not_true, Bool.not_false, Bool.true_eq_false, Nat.zero_eq, Nat.succ_eq_add_one, Nat.sub_self, Nat.sub_zero, Nat.reduceEqDiff]
    exact hN _ _ ⟨_, _, _, rfl, rfl⟩
def sp_check_ring : DSp := fun ds μ RX R => ∃ rs : List (List Int), ds = [.tup (rs.map tI)] ∧ ((∀ l ∈ rs, Rk l rs.length) ∧ 3 ≤ rs.length ∧ rs.length ≤ 20) ∧ ∀ μ', Ex μ μ' → R .non μ'
def t_check_ring : DS :=
  (mSeq (mExp (mCall sp_check_rankings [] (mCons (mVar 0) mNil)))
  (mIfS (mNot (mTest (mChain leD leD (mC (.int 3)) (mB lenR (mCons (mVar 0) mNil)) (mC (.int 20)))))
  mNever
  mNx))
abbrev N_check_ring : List Str := ["rankings"]
abbrev P_check_ring : List Str := ["rankings"]
theorem law_check_ring : ∀ ds μ RX R, sp_check_ring ds μ RX R → bodySp P_check_ring.length N_check_ring.length t_check_ring ds μ RX R := by
  rintro _ μ RX R ⟨rs, rfl, ⟨hr, h1, h2⟩, h⟩
  refine ⟨rfl, ?_⟩
  simp only [t_check_ring, bodySp, mSeq, mRet, mRetN, mExp, mOp, mUn, mVar, mC, mB, mCons, mNil, mSet, mPar, mPar3, mCall, mTest, mIfS, mIf, mAnd, mOr, mNot, mAndV, mOrV, mNotV, mChain, mNx, mPass, mAsg, gNm, gTp, gsCons, gsNil, mIt, mEnum, mR1, mR2, rk1, rk2, mTup, mLst, mYes, mAug, mSl, mPart, mNoPart, addD_i, addD_t, addD_r, addD_s, subD_i, mulD_i, mulD_r, divD_i, modD_i, powD_i, ltD_i, leD_i, gtD_i, geD_i, eqD_i, eqD_s, eqD_r, neD_i, neD_s, neD_r, isND, notND, negD_i, revD_t, revD_r, lenR_t, listR_t, tupR_t, mListRg, mTupRg, mRg1, mRg2, ipAdd, ipSub, List.map_cons, List.map_nil, List.length_cons, List.length_nil, List.replicate, List.cons_append, List.nil_append, List.append_nil, List.getElem?_cons_zero, List.getElem?_cons_succ, List.set_cons_zero, List.set_cons_succ, Option.some.injEq, exists_eq_left', List.cons.injEq, and_assoc, D.int.injEq, D.bl.injEq, D.str.injEq, D.tup.injEq, D.wtup.injEq, D.flst.injEq, D.ref.injEq, wipeD, Nat.reduceSub, Nat.reduceAdd, true_and, and_true, Bool.false_eq_true, if_false, if_true, exists_and_left, exists_and_right, exists_eq_left, reduceCtorEq, false_and, exists_false, or_false, false_or, exists_const, ite_true, ite_false, ↓reduceIte, Bool.not_true, Bool.not_false, Bool.true_eq_false, Nat.zero_eq, Nat.succ_eq_add_one, Nat.sub_self, Nat.sub_zero, Nat.reduceEqDiff]
  refine ⟨rs, rfl, ⟨hr, by omega, by omega⟩, fun μ' hE => ?_⟩
  rw [List.length_map]
  simp only [show decide ((3 : Int) ≤ (rs.length : Int)) = true by simp; omega, show decide ((rs.length : Int) ≤ 20) = true by simp; omega, bodySp, mSeq, mRet, mRetN, mExp, mOp, mUn, mVar, mC, mB, mCons, mNil, mSet, mPar, mPar3, mCall, mTest, mIfS, mIf, mAnd, mOr, mNot, mAndV, mOrV, mNotV, mChain, mNx, mPass, mAsg, gNm, gTp, gsCons, gsNil, mIt, mEnum, mR1, mR2, rk1, rk2, mTup, mLst, mYes, mAug, mSl, mPart, mNoPart, addD_i, addD_t, addD_r, addD_s, subD_i, mulD_i, mulD_r, divD_i, modD_i, powD_i, ltD_i, leD_i, gtD_i, geD_i, eqD_i, eqD_s, eqD_r, neD_i, neD_s, neD_r, isND, notND, negD_i, revD_t, revD_r, lenR_t, listR_t, tupR_t, mListRg, mTupRg, mRg1, mRg2, ipAdd, ipSub, List.map_cons, List.map_nil, List.length_cons, List.length_nil, List.replicate, List.cons_append, List.nil_append, List.append_nil, List.getElem?_cons_zero, List.getElem?_cons_succ, List.set_cons_zero, List.set_cons_succ, Option.some.injEq, exists_eq_left', List.cons.injEq, and_assoc, D.int.injEq, D.bl.injEq, D.str.injEq, D.tup.injEq, D.wtup.injEq, D.flst.injEq, D.ref.injEq, wipeD, Nat.reduceSub, Nat.reduceAdd, true_and, and_true, Bool.false_eq_true, if_false, if_true, exists_and_left, exists_and_right, exists_eq_left, reduceCtorEq, false_and, exists_false, or_false, false_or, exists_const, ite_true, ite_false, ↓reduceIte, Bool.not_true, Bool.not_false, Bool.true_eq_false, Nat.zero_eq, Nat.succ_eq_add_one, Nat.sub_self, Nat.sub_zero, Nat.reduceEqDiff]
  exact h _ hE
def sp_check_both : DSp := fun ds μ RX R => ∃ (rs : List (List Int)) (d : List Int), ds = [.tup (rs.map tI), tI d] ∧ ((∀ l ∈ rs, Rk l rs.length) ∧ rs.length = d.length ∧ Vd d) ∧ ∀ μ', Ex μ μ' → R .non μ'
def t_check_both : DS :=
  (mSeq (mExp (mCall sp_check_ring [] (mCons (mVar 0) mNil)))
  (mSeq (mExp (mCall sp_check_displacements [] (mCons (mVar 1) mNil)))
  (mIfS (mTest (mOp neD (mB lenR (mCons (mVar 1) mNil)) (mB lenR (mCons (mVar 0) mNil))))
  mNever
  mNx)))
abbrev N_check_both : List Str := ["rankings", "displacements"]
abbrev P_check_both : List Str := ["rankings", "displacements"]
theorem law_check_both : ∀ ds μ RX R, sp_check_both ds μ RX R → bodySp P_check_both.length N_check_both.length t_check_both ds μ RX R := by
  rintro _ μ RX R ⟨rs, d, rfl, ⟨hr, h1, V⟩, h⟩
  have h3 := V.l3
  have h20 := V.l20
  refine ⟨rfl, ?_⟩
  simp only [t_check_both, bodySp, mSeq, mRet, mRetN, mExp, mOp, mUn, mVar, mC, mB, mCons, mNil, mSet, mPar, mPar3, mCall, mTest, mIfS, mIf, mAnd, mOr, mNot, mAndV, mOrV, mNotV, mChain, mNx, mPass, mAsg, gNm, gTp, gsCons, gsNil, mIt, mEnum, mR1, mR2, rk1, rk2, mTup, mLst, mYes, mAug, mSl, mPart, mNoPart, addD_i, addD_t, addD_r, addD_s, subD_i, mulD_i, mulD_r, divD_i, modD_i, powD_i, ltD_i, leD_i, gtD_i, geD_i, eqD_i, eqD_s, eqD_r, neD_i, neD_s, neD_r, isND, notND, negD_i, revD_t, revD_r, lenR_t, listR_t, tupR_t, mListRg, mTupRg, mRg1, mRg2, ipAdd, ipSub, List.map_cons, List.map_nil, List.length_cons, List.length_nil, List.replicate, List.cons_append, List.nil_append, List.append_nil, List.getElem?_cons_zero, List.getElem?_cons_succ, List.set_cons_zero, List.set_cons_succ, Option.some.injEq, exists_eq_left', List.cons.injEq, and_assoc, D.int.injEq, D.bl.injEq, D.str.injEq, D.tup.injEq, D.wtup.injEq, D.flst.injEq, D.ref.injEq, wipeD, Nat.reduceSub, Nat.reduceAdd, true_and, and_true, Bool.false_eq_true, if_false, if_true, exists_and_left, exists_and_right, exists_eq_left, reduceCtorEq, false_and, exists_false, or_false, false_or, exists_const, ite_true, ite_false, ↓reduceIte, Bool.not_true, Bool.not_false, Bool.true_eq_false, Nat.zero_eq, Nat.succ_eq_add_one, Nat.sub_self, Nat.sub_zero, Nat.reduceEqDiff]
  refine ⟨rs, rfl, ⟨hr, by omega, by omega⟩, fun μ' hE => ⟨d, rfl, V, fun μ2 hE2 => ?_⟩⟩
  rw [nI_len, List.length_map, h1]
  simp only [decide_true, bodySp, mSeq, mRet, mRetN, mExp, mOp, mUn, mVar, mC, mB, mCons, mNil, mSet, mPar, mPar3, mCall, mTest, mIfS, mIf, mAnd, mOr, mNot, mAndV, mOrV, mNotV, mChain, mNx, mPass, mAsg, gNm, gTp, gsCons, gsNil, mIt, mEnum, mR1, mR2, rk1, rk2, mTup, mLst, mYes, mAug, mSl, mPart, mNoPart, addD_i, addD_t, addD_r, addD_s, subD_i, mulD_i, mulD_r, divD_i, modD_i, powD_i, ltD_i, leD_i, gtD_i, geD_i, eqD_i, eqD_s, eqD_r, neD_i, neD_s, neD_r, isND, notND, negD_i, revD_t, revD_r, lenR_t, listR_t, tupR_t, mListRg, mTupRg, mRg1, mRg2, ipAdd, ipSub, List.map_cons, List.map_nil, List.length_cons, List.length_nil, List.replicate, List.cons_append, List.nil_append, List.append_nil, List.getElem?_cons_zero, List.getElem?_cons_succ, List.set_cons_zero, List.set_cons_succ, Option.some.injEq, exists_eq_left', List.cons.injEq, and_assoc, D.int.injEq, D.bl.injEq, D.str.injEq, D.tup.injEq, D.wtup.injEq, D.flst.injEq, D.ref.injEq, wipeD, Nat.reduceSub, Nat.reduceAdd, true_and, and_true, Bool.false_eq_true, if_false, if_true, exists_and_left, exists_and_right, exists_eq_left, reduceCtorEq, false_and, exists_false, or_false, false_or, exists_const, ite_true, ite_false, ↓reduceIte, Bool.not_true, Bool.not_false, Bool.true_eq_false, Nat.zero_eq, Nat.succ_eq_add_one, Nat.sub_self, Nat.sub_zero, Nat.reduceEqDiff]
  exact h _ (hE.trans hE2)
/-! ### tables of ranks -/
def tab (r : List Int) : List (Key × D) := (List.range r.length).map fun i : Nat => (.inl (r.getD i 0), .int i)
def Tabs (μ : Mu) (p : Addr) (rs : List (List Int)) : Prop := ∃ qs : List Addr, μ p = some (.lst (qs.map D.ref)) ∧ qs.length = rs.length ∧ ∀ (i : Nat) (q : Addr) (r : List Int), qs[i]? = some q → rs[i]? = some r → μ q = some (.dic (tab r))
def sp_rank_tables : DSp := fun ds μ RX R => ∃ rs : List (List Int), ds = [.tup (rs.map tI)] ∧ ((∀ l ∈ rs, Rk l rs.length) ∧ rs.length ≤ 40) ∧ ∀ p μ', Ex μ μ' → Tabs μ' p rs → R (.ref p) μ'
def t_rank_tables : DS :=
  (mRet (mLc (mIt (mVar 0)) (gNm 1) mYes (mDc (mEnum (mVar 1)) (gTp 2 (gsCons (gNm 2) (gsCons (gNm 3) gsNil))) mYes (mVar 3) (mVar 2) [2, 3]) [1]))
abbrev N_rank_tables : List Str := ["rankings", "ranking", "place", "item"]
abbrev P_rank_tables : List Str := ["rankings"]
theorem law_rank_tables : ∀ ds μ RX R, sp_rank_tables ds μ RX R → bodySp P_rank_tables.length N_rank_tables.length t_rank_tables ds μ RX R := by
  rintro _ μ RX R ⟨rs, rfl, ⟨hr, h2⟩, h⟩
  refine ⟨rfl, ?_⟩
  simp only [t_rank_tables, mLc, bodySp, mSeq, mRet, mRetN, mExp, mOp, mUn, mVar, mC, mB, mCons, mNil, mSet, mPar, mPar3, mCall, mTest, mIfS, mIf, mAnd, mOr, mNot, mAndV, mOrV, mNotV, mChain, mNx, mPass, mAsg, gNm, gTp, gsCons, gsNil, mIt, mEnum, mR1, mR2, rk1, rk2, mTup, mLst, mYes, mAug, mSl, mPart, mNoPart, addD_i, addD_t, addD_r, addD_s, subD_i, mulD_i, mulD_r, divD_i, modD_i, powD_i, ltD_i, leD_i, gtD_i, geD_i, eqD_i, eqD_s, eqD_r, neD_i, neD_s, neD_r, isND, notND, negD_i, revD_t, revD_r, lenR_t, listR_t, tupR_t, mListRg, mTupRg, mRg1, mRg2, ipAdd, ipSub, List.map_cons, List.map_nil, List.length_cons, List.length_nil, List.replicate, List.cons_append, List.nil_append, List.append_nil, List.getElem?_cons_zero, List.getElem?_cons_succ, List.set_cons_zero, List.set_cons_succ, Option.some.injEq, exists_eq_left', List.cons.injEq, and_assoc, D.int.injEq, D.bl.injEq, D.str.injEq, D.tup.injEq, D.wtup.injEq, D.flst.injEq, D.ref.injEq, wipeD, Nat.reduceSub, Nat.reduceAdd, true_and, and_true, Bool.false_eq_true, if_false, if_true, exists_and_left, exists_and_right, exists_eq_left, reduceCtorEq, false_and, exists_false, or_false, false_or, exists_const, ite_true, ite_false, ↓reduceIte, Bool.not_true, Bool.not_false, Bool.true_eq_false, Nat.zero_eq, Nat.succ_eq_add_one, Nat.sub_self, Nat.sub_zero, Nat.reduceEqDiff]
  intro p hp
  refine lcD_ind (fun l acc μ' => ∃ (k : Nat) (qs : List Addr), l = (rs.map tI).drop k ∧ k ≤ rs.length ∧ acc = qs.map D.ref ∧ qs.length = k ∧ Ex μ μ' ∧ μ' p = some (.lst acc) ∧
    ∀ (i : Nat) (q : Addr) (r : List Int), qs[i]? = some q → rs[i]? = some r → μ' q = some (.dic (tab r))) ?_ ?_ _ _ _ ⟨0, [], rfl, Nat.zero_le _, rfl, rfl, Ex.new hp, updM_same, fun i q r e => by simp at e⟩
  · rintro acc μ' ⟨k, qs, e1, e2, rfl, e3, hE, hm, hq⟩
    have hk : k = rs.length := by
      have := congrArg List.length e1
      simp at this; omega
    subst hk
    exact ⟨trivial, h _ _ hE ⟨qs, hm, e3, hq⟩⟩
  · rintro d l acc μ' N hN ⟨k, qs, e1, e2, rfl, e3, hE, hm, hq⟩
    have hk : k < rs.length := by
      rcases Nat.lt_or_ge k rs.length with z | z
      · exact z
      · rw [List.drop_eq_nil_of_le (by rw [List.length_map]; exact z)] at e1; cases e1
    rw [List.drop_eq_getElem_cons (by rw [List.length_map]; exact hk)] at e1
    injection e1 with e4 e5
    rw [List.getElem_map] at e4
    have rk := hr _ (List.getElem_mem hk)
    subst e4
    refine ⟨trivial, ?_⟩
    simp only [mDc, bodySp, mSeq, mRet, mRetN, mExp, mOp, mUn, mVar, mC, mB, mCons, mNil, mSet, mPar, mPar3, mCall, mTest, mIfS, mIf, mAnd, mOr, mNot, mAndV, mOrV, mNotV, mChain, mNx, mPass, mAsg, gNm, gTp, gsCons, gsNil, mIt, mEnum, mR1, mR2, rk1, rk2, mTup, mLst, mYes, mAug, mSl, mPart, mNoPart, addD_i, addD_t, addD_r, addD_s, subD_i, mulD_i, mulD_r, divD_i, modD_i, powD_i, ltD_i, leD_i, gtD_i, geD_i, eqD_i, eqD_s, eqD_r, neD_i, neD_s, neD_r, isND, notND, negD_i, revD_t, revD_r, lenR_t, listR_t, tupR_t, mListRg, mTupRg, mRg1, mRg2, ipAdd, ipSub, List.map_cons, List.map_nil, List.length_cons, List.length_nil, List.replicate, List.cons_append, List.nil_append, List.append_nil, List.getElem?_cons_zero, List.getElem?_cons_succ, List.set_cons_zero, List.set_cons_succ, Option.some.injEq, exists_eq_left', List.cons.injEq, and_assoc, D.int.injEq, D.bl.injEq, D.str.injEq, D.tup.injEq, D.wtup.injEq, D.flst.injEq, D.ref.injEq, wipeD, Nat.reduceSub, Nat.reduceAdd, true_and, and_true, Bool.false_eq_true, if_false, if_true, exists_and_left, exists_and_right, exists_eq_left, reduceCtorEq, false_and, exists_false, or_false, false_or, exists_const, ite_true, ite_false, ↓reduceIte, Bool.not_true, Bool.not_false, Bool.true_eq_false, Nat.zero_eq, Nat.succ_eq_add_one, Nat.sub_self, Nat.sub_zero, Nat.reduceEqDiff]
    intro q hq0
    have hn : ((List.range (nI rs[k]).length).map fun i : Nat => (Sum.inl (rs[k].getD i 0) : Key)).Nodup := by
      rw [nI_len]
      refine nodup_map_on List.nodup_range fun x hx y hy e => ?_
      have hx := List.mem_range.mp hx
      have hy := List.mem_range.mp hy
      have e' : rs[k].getD x 0 = rs[k].getD y 0 := by injection e
      rw [List.getD_eq_getElem?_getD, List.getD_eq_getElem?_getD, List.getElem?_eq_getElem hx, List.getElem?_eq_getElem hy] at e'
      exact nodup_inj rk.nd (by simpa using e')
    refine dcD_en (fun i => .inl (rs[k].getD i 0)) (fun i => .int i) (fun _ => trivial) (by rw [nI_len, rk.len]; omega) hn (fun i x hx acc N2 hN2 => ?_) (fun P Q δ μ hh hp => hh _ _ hp) (fun d P Q δ μ hh hp => ?_) ?_
    · have hi : i < rs[k].length := by
        rcases Nat.lt_or_ge i rs[k].length with z | z
        · exact z
        · rw [List.getElem?_eq_none (by rw [nI_len]; exact z)] at hx; cases hx
      have ex : x = .int (rs[k].getD i 0) := by
        rw [List.getElem?_map, List.getElem?_eq_getElem hi] at hx
        rw [List.getD_eq_getElem?_getD, List.getElem?_eq_getElem hi]
        exact (Option.some.inj hx).symm
      subst ex
      simp only [bodySp, mSeq, mRet, mRetN, mExp, mOp, mUn, mVar, mC, mB, mCons, mNil, mSet, mPar, mPar3, mCall, mTest, mIfS, mIf, mAnd, mOr, mNot, mAndV, mOrV, mNotV, mChain, mNx, mPass, mAsg, gNm, gTp, gsCons, gsNil, mIt, mEnum, mR1, mR2, rk1, rk2, mTup, mLst, mYes, mAug, mSl, mPart, mNoPart, addD_i, addD_t, addD_r, addD_s, subD_i, mulD_i, mulD_r, divD_i, modD_i, powD_i, ltD_i, leD_i, gtD_i, geD_i, eqD_i, eqD_s, eqD_r, neD_i, neD_s, neD_r, isND, notND, negD_i, revD_t, revD_r, lenR_t, listR_t, tupR_t, mListRg, mTupRg, mRg1, mRg2, ipAdd, ipSub, List.map_cons, List.map_nil, List.length_cons, List.length_nil, List.replicate, List.cons_append, List.nil_append, List.append_nil, List.getElem?_cons_zero, List.getElem?_cons_succ, List.set_cons_zero, List.set_cons_succ, Option.some.injEq, exists_eq_left', List.cons.injEq, and_assoc, D.int.injEq, D.bl.injEq, D.str.injEq, D.tup.injEq, D.wtup.injEq, D.flst.injEq, D.ref.injEq, wipeD, Nat.reduceSub, Nat.reduceAdd, true_and, and_true, Bool.false_eq_true, if_false, if_true, exists_and_left, exists_and_right, exists_eq_left, reduceCtorEq, false_and, exists_false, or_false, false_or, exists_const, ite_true, ite_false, ↓reduceIte, Bool.not_true, Bool.not_false, Bool.true_eq_false, Nat.zero_eq, Nat.succ_eq_add_one, Nat.sub_self, Nat.sub_zero, Nat.reduceEqDiff]
      exact hN2
    · obtain ⟨ds, a1, a2, x1, t1, a3, x2, t2, a4, a5, a6⟩ := hp
      exact ⟨ds, a1, a2, x1, t1, a3, x2, t2, a4, a5, hh _ _ a6⟩
    · have hpq : p ≠ q := mu_ne hm hq0
      refine ⟨by rw [updM_ne hpq]; exact hm, by have := sizeLine_big; rw [List.length_map]; omega, hN _ _ ⟨k + 1, qs ++ [q], e5, hk, by simp, by simp [e3], ?_, updM_same, ?_⟩⟩
      · intro a o _ e
        rw [updM_ne (mu_ne e hp)]
        exact (Ex.new hq0).at (hE.at e)
      · intro i q' r h1 h2
        by_cases hi : i < qs.length
        · rw [List.getElem?_append_left hi] at h1
          have h3 := hq i q' r h1 h2
          have hne : q' ≠ p := mu_ne2 h3 hm (by intro z; cases z)
          rw [updM_ne hne]
          exact (Ex.new hq0).at h3
        · rw [List.getElem?_append_right (by omega)] at h1
          have hi0 : i - qs.length = 0 := by
            rcases Nat.eq_zero_or_pos (i - qs.length) with z | z
            · exact z
            · rw [List.getElem?_eq_none (by simp; omega)] at h1; cases h1
          rw [hi0] at h1
          have e6 : q = q' := Option.some.inj h1
          subst e6
          have hik : i = k := by omega
          subst hik
          rw [List.getElem?_eq_getElem hk] at h2
          cases h2
          rw [updM_ne (Ne.symm hpq), updM_same, nI_len]
          rfl
end Sw

set_option Elab.async false
set_option linter.all false
set_option maxRecDepth 100000
set_option maxHeartbeats 1000000
namespace Sw
open PySem PySem.Spec L2 DL RM
theorem mem_later {d : List Int} {c z : Int} : z ∈ laterL d c ↔ (c < z ∧ z < c + 2 * d.length - 1) ∧ E d z < E d c := by
  unfold laterL
  rw [List.mem_filter, List.mem_map]
  constructor
  · rintro ⟨⟨i, hi, rfl⟩, h⟩
    have := List.mem_range.mp hi
    exact ⟨by omega, by simpa using h⟩
  · rintro ⟨⟨h1, h2⟩, h⟩
    exact ⟨⟨(z - c - 1).toNat, List.mem_range.mpr (by omega), by omega⟩, by simpa using h⟩
theorem mem_invs {d : List Int} {x z : Int} : (x, z) ∈ invs d ↔ (0 ≤ x ∧ x < d.length) ∧ z ∈ laterL d x := by
  unfold invs
  rw [List.mem_flatMap]
  constructor
  · rintro ⟨i, hi, h⟩
    obtain ⟨w, hw, e⟩ := List.mem_map.mp h
    have := List.mem_range.mp hi
    injection e with e1 e2
    subst e1 e2
    exact ⟨by omega, hw⟩
  · rintro ⟨h1, h2⟩
    refine ⟨x.toNat, List.mem_range.mpr (by omega), List.mem_map.mpr ⟨z, ?_, ?_⟩⟩
    · rw [Int.toNat_of_nonneg h1.1]; exact h2
    · rw [Int.toNat_of_nonneg h1.1]
theorem beqs_nil (xs : List D) : beqs xs [] = xs.isEmpty := by
  unfold beqs
  cases xs with
  | nil => rfl
  | cons a t => simp [pys, PyData.eqvAll]
theorem deps_nI : ∀ l : List Int, deps (nI l) ≤ 1 := by
  intro l
  induction l with
  | nil => decide
  | cons a t ih =>
    unfold deps at ih ⊢
    simp only [nI, List.map_cons, pys, py, PyData.depthAll, PyData.depth] at ih ⊢
    omega
def sp_triple_there : DSp := fun ds μ RX R => ∃ d, ds = [tI d] ∧ (0 < d.length ∧ d.length ≤ 100) ∧ (∀ x y z μ', Ex μ μ' → (x, y) ∈ invs d → z ∈ laterL d y → R (tI [x, y, z]) μ') ∧ ((∀ p ∈ invs d, laterL d p.2 = []) → ∀ μ', Ex μ μ' → R .non μ')
def t_triple_there : DS :=
  (mSeq (mFor (mIt (mCall sp_inversions_there [] (mCons (mVar 0) mNil))) (gTp 2 (gsCons (gNm 1) (gsCons (gNm 2) gsNil)))
  (mSeq (mSet 3 (mCall sp_later_copies [] (mCons (mVar 0) (mCons (mVar 2) mNil))))
  (mIfS (mTest (mOp neD (mVar 3) (mLst mNil)))
  (mRet (mTup (mCons (mVar 1) (mCons (mVar 2) (mCons (mOp ixD (mVar 3) (mC (.int 0))) mNil)))))
  mNx)))
  (mRet (mC .non)))
abbrev N_triple_there : List Str := ["displacements", "x", "y", "later"]
abbrev P_triple_there : List Str := ["displacements"]
theorem law_triple_there : ∀ ds μ RX R, sp_triple_there ds μ RX R → bodySp P_triple_there.length N_triple_there.length t_triple_there ds μ RX R := by
  rintro _ μ RX R ⟨d, rfl, ⟨h0, h1⟩, hy, hn⟩
  refine ⟨rfl, ?_⟩
  simp only [t_triple_there, mFor, bodySp, mSeq, mRet, mRetN, mExp, mOp, mUn, mVar, mC, mB, mCons, mNil, mSet, mPar, mPar3, mCall, mTest, mIfS, mIf, mAnd, mOr, mNot, mAndV, mOrV, mNotV, mChain, mNx, mPass, mAsg, gNm, gTp, gsCons, gsNil, mIt, mEnum, mR1, mR2, rk1, rk2, mTup, mLst, mYes, mAug, mSl, mPart, mNoPart, addD_i, addD_t, addD_r, addD_s, subD_i, mulD_i, mulD_r, divD_i, modD_i, powD_i, ltD_i, leD_i, gtD_i, geD_i, eqD_i, eqD_s, eqD_r, neD_i, neD_s, neD_r, isND, notND, negD_i, revD_t, revD_r, lenR_t, listR_t, tupR_t, mListRg, mTupRg, mRg1, mRg2, ipAdd, ipSub, List.map_cons, List.map_nil, List.length_cons, List.length_nil, List.replicate, List.cons_append, List.nil_append, List.append_nil, List.getElem?_cons_zero, List.getElem?_cons_succ, List.set_cons_zero, List.set_cons_succ, Option.some.injEq, exists_eq_left', List.cons.injEq, and_assoc, D.int.injEq, D.bl.injEq, D.str.injEq, D.tup.injEq, D.wtup.injEq, D.flst.injEq, D.ref.injEq, wipeD, Nat.reduceSub, Nat.reduceAdd, true_and, and_true, Bool.false_eq_true, if_false, if_true, exists_and_left, exists_and_right, exists_eq_left, reduceCtorEq, false_and, exists_false, or_false, false_or, exists_const, ite_true, ite_false, ↓reduceIte, Bool.not_true, Bool.not_false, Bool.true_eq_false, Nat.zero_eq, Nat.succ_eq_add_one, Nat.sub_self, Nat.sub_zero, Nat.reduceEqDiff]
  refine ⟨d, rfl, ⟨h0, h1⟩, fun q μ1 hq hE1 hm1 => ?_⟩
  simp only [bodySp, mSeq, mRet, mRetN, mExp, mOp, mUn, mVar, mC, mB, mCons, mNil, mSet, mPar, mPar3, mCall, mTest, mIfS, mIf, mAnd, mOr, mNot, mAndV, mOrV, mNotV, mChain, mNx, mPass, mAsg, gNm, gTp, gsCons, gsNil, mIt, mEnum, mR1, mR2, rk1, rk2, mTup, mLst, mYes, mAug, mSl, mPart, mNoPart, addD_i, addD_t, addD_r, addD_s, subD_i, mulD_i, mulD_r, divD_i, modD_i, powD_i, ltD_i, leD_i, gtD_i, geD_i, eqD_i, eqD_s, eqD_r, neD_i, neD_s, neD_r, isND, notND, negD_i, revD_t, revD_r, lenR_t, listR_t, tupR_t, mListRg, mTupRg, mRg1, mRg2, ipAdd, ipSub, List.map_cons, List.map_nil, List.length_cons, List.length_nil, List.replicate, List.cons_append, List.nil_append, List.append_nil, List.getElem?_cons_zero, List.getElem?_cons_succ, List.set_cons_zero, List.set_cons_succ, Option.some.injEq, exists_eq_left', List.cons.injEq, and_assoc, D.int.injEq, D.bl.injEq, D.str.injEq, D.tup.injEq, D.wtup.injEq, D.flst.injEq, D.ref.injEq, wipeD, Nat.reduceSub, Nat.reduceAdd, true_and, and_true, Bool.false_eq_true, if_false, if_true, exists_and_left, exists_and_right, exists_eq_left, reduceCtorEq, false_and, exists_false, or_false, false_or, exists_const, ite_true, ite_false, ↓reduceIte, Bool.not_true, Bool.not_false, Bool.true_eq_false, Nat.zero_eq, Nat.succ_eq_add_one, Nat.sub_self, Nat.sub_zero, Nat.reduceEqDiff]
  refine ⟨_, .inl hm1, ?_⟩
  refine forD_ix _ (fun k δ μ' => ∃ o1 o2 o3, δ = [some (tI d), o1, o2, o3] ∧ Ex μ1 μ' ∧ ∀ p ∈ (invs d).take k, laterL d p.2 = []) (fun k δ μ' ⟨_, _, _, _, hE, _⟩ => .inl (hE.at hm1)) ?_ ?_ _ _ ⟨_, _, _, rfl, Ex.refl, by simp⟩
  · rintro _ μ' ⟨o1, o2, o3, rfl, hE, hall⟩
    simp only [bodySp, mSeq, mRet, mRetN, mExp, mOp, mUn, mVar, mC, mB, mCons, mNil, mSet, mPar, mPar3, mCall, mTest, mIfS, mIf, mAnd, mOr, mNot, mAndV, mOrV, mNotV, mChain, mNx, mPass, mAsg, gNm, gTp, gsCons, gsNil, mIt, mEnum, mR1, mR2, rk1, rk2, mTup, mLst, mYes, mAug, mSl, mPart, mNoPart, addD_i, addD_t, addD_r, addD_s, subD_i, mulD_i, mulD_r, divD_i, modD_i, powD_i, ltD_i, leD_i, gtD_i, geD_i, eqD_i, eqD_s, eqD_r, neD_i, neD_s, neD_r, isND, notND, negD_i, revD_t, revD_r, lenR_t, listR_t, tupR_t, mListRg, mTupRg, mRg1, mRg2, ipAdd, ipSub, List.map_cons, List.map_nil, List.length_cons, List.length_nil, List.replicate, List.cons_append, List.nil_append, List.append_nil, List.getElem?_cons_zero, List.getElem?_cons_succ, List.set_cons_zero, List.set_cons_succ, Option.some.injEq, exists_eq_left', List.cons.injEq, and_assoc, D.int.injEq, D.bl.injEq, D.str.injEq, D.tup.injEq, D.wtup.injEq, D.flst.injEq, D.ref.injEq, wipeD, Nat.reduceSub, Nat.reduceAdd, true_and, and_true, Bool.false_eq_true, if_false, if_true, exists_and_left, exists_and_right, exists_eq_left, reduceCtorEq, false_and, exists_false, or_false, false_or, exists_const, ite_true, ite_false, ↓reduceIte, Bool.not_true, Bool.not_false, Bool.true_eq_false, Nat.zero_eq, Nat.succ_eq_add_one, Nat.sub_self, Nat.sub_zero, Nat.reduceEqDiff]
    refine hn (fun p hp => hall p ?_) μ' (hE1.trans hE)
    rw [List.take_of_length_le (by simp [prs])]; exact hp
  · rintro k x _ μ' N hx hN ⟨o1, o2, o3, rfl, hE, hall⟩
    unfold prs at hx
    rw [List.getElem?_map] at hx
    cases hp : (invs d)[k]? with
    | none => rw [hp] at hx; cases hx
    | some p =>
      obtain ⟨px, py⟩ := p
      rw [hp] at hx
      cases hx
      have hmem := List.mem_of_getElem? hp
      have hm2 := mem_invs.mp hmem
      have hm3 := mem_later.mp hm2.2
      simp only [bodySp, mSeq, mRet, mRetN, mExp, mOp, mUn, mVar, mC, mB, mCons, mNil, mSet, mPar, mPar3, mCall, mTest, mIfS, mIf, mAnd, mOr, mNot, mAndV, mOrV, mNotV, mChain, mNx, mPass, mAsg, gNm, gTp, gsCons, gsNil, mIt, mEnum, mR1, mR2, rk1, rk2, mTup, mLst, mYes, mAug, mSl, mPart, mNoPart, addD_i, addD_t, addD_r, addD_s, subD_i, mulD_i, mulD_r, divD_i, modD_i, powD_i, ltD_i, leD_i, gtD_i, geD_i, eqD_i, eqD_s, eqD_r, neD_i, neD_s, neD_r, isND, notND, negD_i, revD_t, revD_r, lenR_t, listR_t, tupR_t, mListRg, mTupRg, mRg1, mRg2, ipAdd, ipSub, List.map_cons, List.map_nil, List.length_cons, List.length_nil, List.replicate, List.cons_append, List.nil_append, List.append_nil, List.getElem?_cons_zero, List.getElem?_cons_succ, List.set_cons_zero, List.set_cons_succ, Option.some.injEq, exists_eq_left', List.cons.injEq, and_assoc, D.int.injEq, D.bl.injEq, D.str.injEq, D.tup.injEq, D.wtup.injEq, D.flst.injEq, D.ref.injEq, wipeD, Nat.reduceSub, Nat.reduceAdd, true_and, and_true, Bool.false_eq_true, if_false, if_true, exists_and_left, exists_and_right, exists_eq_left, reduceCtorEq, false_and, exists_false, or_false, false_or, exists_const, ite_true, ite_false, ↓reduceIte, Bool.not_true, Bool.not_false, Bool.true_eq_false, Nat.zero_eq, Nat.succ_eq_add_one, Nat.sub_self, Nat.sub_zero, Nat.reduceEqDiff, pairD]
      refine ⟨d, py, rfl, ⟨h0, by omega⟩, ⟨by omega, by omega⟩, fun r μ2 hr hE2 hm2 => ?_⟩
      simp only [bodySp, mSeq, mRet, mRetN, mExp, mOp, mUn, mVar, mC, mB, mCons, mNil, mSet, mPar, mPar3, mCall, mTest, mIfS, mIf, mAnd, mOr, mNot, mAndV, mOrV, mNotV, mChain, mNx, mPass, mAsg, gNm, gTp, gsCons, gsNil, mIt, mEnum, mR1, mR2, rk1, rk2, mTup, mLst, mYes, mAug, mSl, mPart, mNoPart, addD_i, addD_t, addD_r, addD_s, subD_i, mulD_i, mulD_r, divD_i, modD_i, powD_i, ltD_i, leD_i, gtD_i, geD_i, eqD_i, eqD_s, eqD_r, neD_i, neD_s, neD_r, isND, notND, negD_i, revD_t, revD_r, lenR_t, listR_t, tupR_t, mListRg, mTupRg, mRg1, mRg2, ipAdd, ipSub, List.map_cons, List.map_nil, List.length_cons, List.length_nil, List.replicate, List.cons_append, List.nil_append, List.append_nil, List.getElem?_cons_zero, List.getElem?_cons_succ, List.set_cons_zero, List.set_cons_succ, Option.some.injEq, exists_eq_left', List.cons.injEq, and_assoc, D.int.injEq, D.bl.injEq, D.str.injEq, D.tup.injEq, D.wtup.injEq, D.flst.injEq, D.ref.injEq, wipeD, Nat.reduceSub, Nat.reduceAdd, true_and, and_true, Bool.false_eq_true, if_false, if_true, exists_and_left, exists_and_right, exists_eq_left, reduceCtorEq, false_and, exists_false, or_false, false_or, exists_const, ite_true, ite_false, ↓reduceIte, Bool.not_true, Bool.not_false, Bool.true_eq_false, Nat.zero_eq, Nat.succ_eq_add_one, Nat.sub_self, Nat.sub_zero, Nat.reduceEqDiff]
      refine ⟨by omega, fun e he => ⟨_, .inl (by rw [updM_ne (mu_ne hm2 he)]; exact hm2), [], .inl updM_same, plains_ints _, rfl, by have := deps_nI (laterL d py); omega, by decide, ?_⟩⟩
      rw [beqs_nil]
      cases hl : laterL d py with
      | nil =>
        simp only [nI, List.map_nil, List.isEmpty_nil, bodySp, mSeq, mRet, mRetN, mExp, mOp, mUn, mVar, mC, mB, mCons, mNil, mSet, mPar, mPar3, mCall, mTest, mIfS, mIf, mAnd, mOr, mNot, mAndV, mOrV, mNotV, mChain, mNx, mPass, mAsg, gNm, gTp, gsCons, gsNil, mIt, mEnum, mR1, mR2, rk1, rk2, mTup, mLst, mYes, mAug, mSl, mPart, mNoPart, addD_i, addD_t, addD_r, addD_s, subD_i, mulD_i, mulD_r, divD_i, modD_i, powD_i, ltD_i, leD_i, gtD_i, geD_i, eqD_i, eqD_s, eqD_r, neD_i, neD_s, neD_r, isND, notND, negD_i, revD_t, revD_r, lenR_t, listR_t, tupR_t, mListRg, mTupRg, mRg1, mRg2, ipAdd, ipSub, List.map_cons, List.map_nil, List.length_cons, List.length_nil, List.replicate, List.cons_append, List.nil_append, List.append_nil, List.getElem?_cons_zero, List.getElem?_cons_succ, List.set_cons_zero, List.set_cons_succ, Option.some.injEq, exists_eq_left', List.cons.injEq, and_assoc, D.int.injEq, D.bl.injEq, D.str.injEq, D.tup.injEq, D.wtup.injEq, D.flst.injEq, D.ref.injEq, wipeD, Nat.reduceSub, Nat.reduceAdd, true_and, and_true, Bool.false_eq_true, if_false, if_true, exists_and_left, exists_and_right, exists_eq_left, reduceCtorEq, false_and, exists_false, or_false, false_or, exists_const, ite_true, ite_false, ↓reduceIte, Bool.not_true, Bool.not_false, Bool.true_eq_false, Nat.zero_eq, Nat.succ_eq_add_one, Nat.sub_self, Nat.sub_zero, Nat.reduceEqDiff]
        refine hN _ _ ⟨_, _, _, rfl, hE.trans (hE2.trans (Ex.new he)), fun p hp' => ?_⟩
        rw [List.take_add_one, hp] at hp'
        rcases List.mem_append.mp hp' with z | z
        · exact hall p z
        · simp at z
          rw [z]; exact hl
      | cons z t =>
        simp only [nI, List.map_cons, List.isEmpty_cons, bodySp, mSeq, mRet, mRetN, mExp, mOp, mUn, mVar, mC, mB, mCons, mNil, mSet, mPar, mPar3, mCall, mTest, mIfS, mIf, mAnd, mOr, mNot, mAndV, mOrV, mNotV, mChain, mNx, mPass, mAsg, gNm, gTp, gsCons, gsNil, mIt, mEnum, mR1, mR2, rk1, rk2, mTup, mLst, mYes, mAug, mSl, mPart, mNoPart, addD_i, addD_t, addD_r, addD_s, subD_i, mulD_i, mulD_r, divD_i, modD_i, powD_i, ltD_i, leD_i, gtD_i, geD_i, eqD_i, eqD_s, eqD_r, neD_i, neD_s, neD_r, isND, notND, negD_i, revD_t, revD_r, lenR_t, listR_t, tupR_t, mListRg, mTupRg, mRg1, mRg2, ipAdd, ipSub, List.map_cons, List.map_nil, List.length_cons, List.length_nil, List.replicate, List.cons_append, List.nil_append, List.append_nil, List.getElem?_cons_zero, List.getElem?_cons_succ, List.set_cons_zero, List.set_cons_succ, Option.some.injEq, exists_eq_left', List.cons.injEq, and_assoc, D.int.injEq, D.bl.injEq, D.str.injEq, D.tup.injEq, D.wtup.injEq, D.flst.injEq, D.ref.injEq, wipeD, Nat.reduceSub, Nat.reduceAdd, true_and, and_true, Bool.false_eq_true, if_false, if_true, exists_and_left, exists_and_right, exists_eq_left, reduceCtorEq, false_and, exists_false, or_false, false_or, exists_const, ite_true, ite_false, ↓reduceIte, Bool.not_true, Bool.not_false, Bool.true_eq_false, Nat.zero_eq, Nat.succ_eq_add_one, Nat.sub_self, Nat.sub_zero, Nat.reduceEqDiff]
        rw [ixD_l (.inl (by rw [updM_ne (mu_ne hm2 he)]; exact hm2)) (d := .int z) (atI_nat (by omega) (by rw [hl]; rfl))]
        refine ⟨by have := sizeLine_big; omega, ?_⟩
        exact hy px py z _ (hE1.trans (hE.trans (hE2.trans (Ex.new he)))) hmem (by rw [hl]; exact List.mem_cons_self)
def sp_place_there : DSp := fun ds μ RX R => ∃ d x z, ds = [tI d, .int x, .int z] ∧ (0 < d.length ∧ d.length ≤ 100) ∧ (-10000 < x ∧ x < 10000 ∧ -10000 < z ∧ z < 10000) ∧ ∀ μ', Ex μ μ' → R (.int (plc (E d) x z % d.length)) μ'
def t_place_there : DS :=
  (mSeq (mSet 3 (mLc (mR2 (mOp addD (mVar 1) (mC (.int 1))) (mVar 2)) (gNm 4) (mTest (mOp ltD (mCall sp_end_of_copy [] (mCons (mVar 0) (mCons (mVar 4) mNil))) (mVar 4))) (mVar 4) [4]))
  (mRet (mOp modD (mOp addD (mVar 1) (mB lenR (mCons (mVar 3) mNil))) (mB lenR (mCons (mVar 0) mNil)))))
abbrev N_place_there : List Str := ["displacements", "x", "z", "left", "y"]
abbrev P_place_there : List Str := ["displacements", "x", "z"]
theorem law_place_there : ∀ ds μ RX R, sp_place_there ds μ RX R → bodySp P_place_there.length N_place_there.length t_place_there ds μ RX R := by
  rintro _ μ RX R ⟨d, x, z, rfl, ⟨h0, h1⟩, ⟨b1, b2, b3, b4⟩, h⟩
  refine ⟨rfl, ?_⟩
  simp only [t_place_there, mLc, bodySp, mSeq, mRet, mRetN, mExp, mOp, mUn, mVar, mC, mB, mCons, mNil, mSet, mPar, mPar3, mCall, mTest, mIfS, mIf, mAnd, mOr, mNot, mAndV, mOrV, mNotV, mChain, mNx, mPass, mAsg, gNm, gTp, gsCons, gsNil, mIt, mEnum, mR1, mR2, rk1, rk2, mTup, mLst, mYes, mAug, mSl, mPart, mNoPart, addD_i, addD_t, addD_r, addD_s, subD_i, mulD_i, mulD_r, divD_i, modD_i, powD_i, ltD_i, leD_i, gtD_i, geD_i, eqD_i, eqD_s, eqD_r, neD_i, neD_s, neD_r, isND, notND, negD_i, revD_t, revD_r, lenR_t, listR_t, tupR_t, mListRg, mTupRg, mRg1, mRg2, ipAdd, ipSub, List.map_cons, List.map_nil, List.length_cons, List.length_nil, List.replicate, List.cons_append, List.nil_append, List.append_nil, List.getElem?_cons_zero, List.getElem?_cons_succ, List.set_cons_zero, List.set_cons_succ, Option.some.injEq, exists_eq_left', List.cons.injEq, and_assoc, D.int.injEq, D.bl.injEq, D.str.injEq, D.tup.injEq, D.wtup.injEq, D.flst.injEq, D.ref.injEq, wipeD, Nat.reduceSub, Nat.reduceAdd, true_and, and_true, Bool.false_eq_true, if_false, if_true, exists_and_left, exists_and_right, exists_eq_left, reduceCtorEq, false_and, exists_false, or_false, false_or, exists_const, ite_true, ite_false, ↓reduceIte, Bool.not_true, Bool.not_false, Bool.true_eq_false, Nat.zero_eq, Nat.succ_eq_add_one, Nat.sub_self, Nat.sub_zero, Nat.reduceEqDiff]
  refine ⟨by omega, by omega, by omega, by omega, fun p hp => ?_⟩
  rw [rgD_ints]
  refine lcD_int (fun o => decide (E d o < o)) (fun o => .int o) (fun _ => trivial) (by simp; omega) (fun y hy acc N hN => ?_) ?_
  · simp only [bodySp, mSeq, mRet, mRetN, mExp, mOp, mUn, mVar, mC, mB, mCons, mNil, mSet, mPar, mPar3, mCall, mTest, mIfS, mIf, mAnd, mOr, mNot, mAndV, mOrV, mNotV, mChain, mNx, mPass, mAsg, gNm, gTp, gsCons, gsNil, mIt, mEnum, mR1, mR2, rk1, rk2, mTup, mLst, mYes, mAug, mSl, mPart, mNoPart, addD_i, addD_t, addD_r, addD_s, subD_i, mulD_i, mulD_r, divD_i, modD_i, powD_i, ltD_i, leD_i, gtD_i, geD_i, eqD_i, eqD_s, eqD_r, neD_i, neD_s, neD_r, isND, notND, negD_i, revD_t, revD_r, lenR_t, listR_t, tupR_t, mListRg, mTupRg, mRg1, mRg2, ipAdd, ipSub, List.map_cons, List.map_nil, List.length_cons, List.length_nil, List.replicate, List.cons_append, List.nil_append, List.append_nil, List.getElem?_cons_zero, List.getElem?_cons_succ, List.set_cons_zero, List.set_cons_succ, Option.some.injEq, exists_eq_left', List.cons.injEq, and_assoc, D.int.injEq, D.bl.injEq, D.str.injEq, D.tup.injEq, D.wtup.injEq, D.flst.injEq, D.ref.injEq, wipeD, Nat.reduceSub, Nat.reduceAdd, true_and, and_true, Bool.false_eq_true, if_false, if_true, exists_and_left, exists_and_right, exists_eq_left, reduceCtorEq, false_and, exists_false, or_false, false_or, exists_const, ite_true, ite_false, ↓reduceIte, Bool.not_true, Bool.not_false, Bool.true_eq_false, Nat.zero_eq, Nat.succ_eq_add_one, Nat.sub_self, Nat.sub_zero, Nat.reduceEqDiff]
    refine ⟨d, y, rfl, ⟨h0, by omega⟩, ?_⟩
    simp only [bodySp, mSeq, mRet, mRetN, mExp, mOp, mUn, mVar, mC, mB, mCons, mNil, mSet, mPar, mPar3, mCall, mTest, mIfS, mIf, mAnd, mOr, mNot, mAndV, mOrV, mNotV, mChain, mNx, mPass, mAsg, gNm, gTp, gsCons, gsNil, mIt, mEnum, mR1, mR2, rk1, rk2, mTup, mLst, mYes, mAug, mSl, mPart, mNoPart, addD_i, addD_t, addD_r, addD_s, subD_i, mulD_i, mulD_r, divD_i, modD_i, powD_i, ltD_i, leD_i, gtD_i, geD_i, eqD_i, eqD_s, eqD_r, neD_i, neD_s, neD_r, isND, notND, negD_i, revD_t, revD_r, lenR_t, listR_t, tupR_t, mListRg, mTupRg, mRg1, mRg2, ipAdd, ipSub, List.map_cons, List.map_nil, List.length_cons, List.length_nil, List.replicate, List.cons_append, List.nil_append, List.append_nil, List.getElem?_cons_zero, List.getElem?_cons_succ, List.set_cons_zero, List.set_cons_succ, Option.some.injEq, exists_eq_left', List.cons.injEq, and_assoc, D.int.injEq, D.bl.injEq, D.str.injEq, D.tup.injEq, D.wtup.injEq, D.flst.injEq, D.ref.injEq, wipeD, Nat.reduceSub, Nat.reduceAdd, true_and, and_true, Bool.false_eq_true, if_false, if_true, exists_and_left, exists_and_right, exists_eq_left, reduceCtorEq, false_and, exists_false, or_false, false_or, exists_const, ite_true, ite_false, ↓reduceIte, Bool.not_true, Bool.not_false, Bool.true_eq_false, Nat.zero_eq, Nat.succ_eq_add_one, Nat.sub_self, Nat.sub_zero, Nat.reduceEqDiff]
    by_cases g : E d y < y
    · simpa [g] using hN
    · simpa [g] using hN
  · rw [lenR_r (.inl updM_same), nI_len d]
    refine ⟨by omega, ?_⟩
    have := cnt_len (fun y => decide (E d y < y)) (x + 1) (z - (x + 1)).toNat
    rw [List.length_map, this]
    exact h _ (Ex.new hp)
end Sw

set_option Elab.async false
set_option linter.all false
set_option maxRecDepth 100000
set_option maxHeartbeats 1000000
namespace Sw
open PySem PySem.Spec L2 DL RM
theorem valD_mem {kvs : List (Key × D)} {k : Key} {v : D} (hn : (kvs.map (·.1)).Nodup) (h : (k, v) ∈ kvs) : valD kvs k = some v := by
  unfold valD
  induction kvs with
  | nil => simp at h
  | cons a t ih =>
    rw [List.map_cons, List.nodup_cons] at hn
    rcases List.mem_cons.mp h with e | e
    · subst e; simp
    · have hne : a.1 ≠ k := fun z => hn.1 (by rw [z]; exact List.mem_map.mpr ⟨_, e, rfl⟩)
      rw [List.find?_cons, show decide (a.1 = k) = false by simp [hne]]
      exact ih hn.2 e
theorem Rk.mem {r : List Int} {n : Nat} (h : Rk r n) {t : Int} (h0 : 0 ≤ t) (h1 : t < n) : t ∈ r := by
  by_cases q : t ∈ r
  · exact q
  · exfalso
    have := sub_len (l := t :: r) (r := (List.range n).map fun i : Nat => (i : Int)) (List.nodup_cons.mpr ⟨q, h.nd⟩) fun x hx => by
      rw [List.mem_map]
      rcases List.mem_cons.mp hx with rfl | hx
      · exact ⟨x.toNat, List.mem_range.mpr (by omega), by omega⟩
      · have := h.bd x hx
        exact ⟨x.toNat, List.mem_range.mpr (by omega), by omega⟩
    simp at this
    have := h.len
    omega
theorem valD_tab {r : List Int} {n : Nat} (h : Rk r n) {t : Int} (h0 : 0 ≤ t) (h1 : t < n) : valD (tab r) (.inl t) = some (.int (r.idxOf t)) := by
  have hm := h.mem h0 h1
  have hl := List.idxOf_lt_length_of_mem hm
  refine valD_mem ?_ ?_
  · unfold tab
    rw [List.map_map]
    refine nodup_map_on List.nodup_range fun x hx y hy e => ?_
    have hx := List.mem_range.mp hx
    have hy := List.mem_range.mp hy
    have e' : r.getD x 0 = r.getD y 0 := by injection e
    rw [List.getD_eq_getElem?_getD, List.getD_eq_getElem?_getD, List.getElem?_eq_getElem hx, List.getElem?_eq_getElem hy] at e'
    exact nodup_inj h.nd (by simpa using e')
  · unfold tab
    refine List.mem_map.mpr ⟨r.idxOf t, List.mem_range.mpr hl, ?_⟩
    rw [List.getD_eq_getElem?_getD, List.getElem?_eq_getElem hl]
    simp
/-- the rank of the thing b for the person a -/
def Tk (rs : List (List Int)) (a b : Int) : Int := ((rs.getD (a % rs.length).toNat []).idxOf (b % rs.length) : Nat)
def refsL (rs : List (List Int)) (d : List Int) (x z : Int) : List (List Int) :=
  let pl := plc (E d) x z % d.length
  let ot := (pl + 1) % d.length
  (if Tk rs pl x < Tk rs pl z then [[pl, x, z, pl]] else []) ++ (if Tk rs ot z < Tk rs ot x then [[pl, x, z, ot]] else [])
theorem ix_t1 {μ : Mu} {K : DK} {tp : Addr} {rs : List (List Int)} (hT : Tabs μ tp rs) (hr : ∀ l ∈ rs, Rk l rs.length) {a : Int} (a0 : 0 ≤ a) (a1 : a < rs.length)
    (h : ∀ q, (∀ {b : Int} {K2 : DK}, 0 ≤ b → b < rs.length → K2 (.int (Tk rs a b)) μ → ixD (.ref q) (.int b) μ K2) → K (.ref q) μ) : ixD (.ref tp) (.int a) μ K := by
  obtain ⟨qs, h1, h2, h3⟩ := hT
  have hq : a.toNat < qs.length := by omega
  have hrs : a.toNat < rs.length := by omega
  rw [ixD_l (.inl h1) (d := .ref qs[a.toNat]) (atI_nat a0 (by simp [hq]))]
  have rk := hr _ (List.getElem_mem hrs)
  refine h _ fun {b K2} b0 b1 hK => ?_
  have e : Tk rs a b = (rs[a.toNat].idxOf b : Nat) := by
    unfold Tk
    rw [Int.emod_eq_of_lt a0 a1, Int.emod_eq_of_lt b0 b1, List.getD_eq_getElem?_getD, List.getElem?_eq_getElem hrs]; rfl
  refine (ixD_k (k := .inl b) (h3 _ _ _ (List.getElem?_eq_getElem hq) (List.getElem?_eq_getElem hrs)) rfl (valD_tab rk b0 b1)).mpr ?_
  rw [← e]; exact hK
theorem Tabs.ex {μ μ' : Mu} {p : Addr} {rs : List (List Int)} (h : Tabs μ p rs) (hE : Ex μ μ') : Tabs μ' p rs := by
  obtain ⟨qs, h1, h2, h3⟩ := h
  exact ⟨qs, hE.at h1, h2, fun i q r a b => hE.at (h3 i q r a b)⟩
def sp_refusals_there : DSp := fun ds μ RX R => ∃ tp rs d x z, ds = [.ref tp, tI d, .int x, .int z] ∧ Tabs μ tp rs ∧ ((∀ l ∈ rs, Rk l rs.length) ∧ rs.length = d.length ∧ 0 < d.length ∧ d.length ≤ 100) ∧ (-10000 < x ∧ x < 10000 ∧ -10000 < z ∧ z < 10000) ∧
  ∀ p μ', Ex μ μ' → μ' p = some (.lst ((refsL rs d x z).map tI)) → R (.ref p) μ'
def t_refusals_there : DS :=
  (mSeq (mPar 4 5 (mCons (mB lenR (mCons (mVar 1) mNil)) (mCons (mCall sp_place_there [] (mCons (mVar 1) (mCons (mVar 2) (mCons (mVar 3) mNil)))) mNil)))
  (mSeq (mPar 6 7 (mCons (mOp modD (mOp addD (mVar 5) (mC (.int 1))) (mVar 4)) (mCons (mLst mNil) mNil)))
  (mSeq (mIfS (mTest (mOp gtD (mOp ixD (mOp ixD (mVar 0) (mVar 5)) (mOp modD (mVar 3) (mVar 4))) (mOp ixD (mOp ixD (mVar 0) (mVar 5)) (mOp modD (mVar 2) (mVar 4)))))
  (mExp (mBML appendR (mVar 7) (mCons (mTup (mCons (mVar 5) (mCons (mVar 2) (mCons (mVar 3) (mCons (mVar 5) mNil))))) mNil)))
  mNx)
  (mSeq (mIfS (mTest (mOp gtD (mOp ixD (mOp ixD (mVar 0) (mVar 6)) (mOp modD (mVar 2) (mVar 4))) (mOp ixD (mOp ixD (mVar 0) (mVar 6)) (mOp modD (mVar 3) (mVar 4)))))
  (mExp (mBML appendR (mVar 7) (mCons (mTup (mCons (mVar 5) (mCons (mVar 2) (mCons (mVar 3) (mCons (mVar 6) mNil))))) mNil)))
  mNx)
  (mRet (mVar 7))))))
abbrev N_refusals_there : List Str := ["tables", "displacements", "x", "z", "size", "place", "other", "found"]
abbrev P_refusals_there : List Str := ["tables", "displacements", "x", "z"]
theorem Tk_mod (rs : List (List Int)) (a b : Int) : Tk rs a (b % rs.length) = Tk rs a b := by
  unfold Tk; rw [Int.emod_emod_of_dvd _ (Int.dvd_refl _)]
theorem appendR_l {μ : Mu} {a : Addr} {xs : List D} {y : D} {R : DK} (h : μ a = some (.lst xs)) (hl : xs.length < 1000000) (hR : R .non (updM μ a (.lst (xs ++ [y])))) : appendR (.ref a) [y] μ R :=
  ⟨a, xs, y, rfl, rfl, h, by have := sizeLine_big; omega, hR⟩
theorem law_refusals_there : ∀ ds μ RX R, sp_refusals_there ds μ RX R → bodySp P_refusals_there.length N_refusals_there.length t_refusals_there ds μ RX R := by
  rintro _ μ RX R ⟨tp, rs, d, x, z, rfl, hT, ⟨hr, hl, h0, h1⟩, hb, h⟩
  refine ⟨rfl, ?_⟩
  have hp : (0 : Int) < d.length := by omega
  simp only [t_refusals_there, bodySp, mSeq, mRet, mRetN, mExp, mOp, mUn, mVar, mC, mB, mCons, mNil, mSet, mPar, mPar3, mCall, mTest, mIfS, mIf, mAnd, mOr, mNot, mAndV, mOrV, mNotV, mChain, mNx, mPass, mAsg, gNm, gTp, gsCons, gsNil, mIt, mEnum, mR1, mR2, rk1, rk2, mTup, mLst, mYes, mAug, mSl, mPart, mNoPart, addD_i, addD_t, addD_r, addD_s, subD_i, mulD_i, mulD_r, divD_i, modD_i, powD_i, ltD_i, leD_i, gtD_i, geD_i, eqD_i, eqD_s, eqD_r, neD_i, neD_s, neD_r, isND, notND, negD_i, revD_t, revD_r, lenR_t, listR_t, tupR_t, mListRg, mTupRg, mRg1, mRg2, ipAdd, ipSub, List.map_cons, List.map_nil, List.length_cons, List.length_nil, List.replicate, List.cons_append, List.nil_append, List.append_nil, List.getElem?_cons_zero, List.getElem?_cons_succ, List.set_cons_zero, List.set_cons_succ, Option.some.injEq, exists_eq_left', List.cons.injEq, and_assoc, D.int.injEq, D.bl.injEq, D.str.injEq, D.tup.injEq, D.wtup.injEq, D.flst.injEq, D.ref.injEq, wipeD, Nat.reduceSub, Nat.reduceAdd, true_and, and_true, Bool.false_eq_true, if_false, if_true, exists_and_left, exists_and_right, exists_eq_left, reduceCtorEq, false_and, exists_false, or_false, false_or, exists_const, ite_true, ite_false, ↓reduceIte, Bool.not_true, Bool.not_false, Bool.true_eq_false, Nat.zero_eq, Nat.succ_eq_add_one, Nat.sub_self, Nat.sub_zero, Nat.reduceEqDiff]
  refine ⟨d, x, z, rfl, ⟨h0, h1⟩, hb, fun μ1 hE1 => ?_⟩
  rw [nI_len]
  generalize hpl : plc (E d) x z % (d.length : Int) = pl
  simp only [bodySp, mSeq, mRet, mRetN, mExp, mOp, mUn, mVar, mC, mB, mCons, mNil, mSet, mPar, mPar3, mCall, mTest, mIfS, mIf, mAnd, mOr, mNot, mAndV, mOrV, mNotV, mChain, mNx, mPass, mAsg, gNm, gTp, gsCons, gsNil, mIt, mEnum, mR1, mR2, rk1, rk2, mTup, mLst, mYes, mAug, mSl, mPart, mNoPart, addD_i, addD_t, addD_r, addD_s, subD_i, mulD_i, mulD_r, divD_i, modD_i, powD_i, ltD_i, leD_i, gtD_i, geD_i, eqD_i, eqD_s, eqD_r, neD_i, neD_s, neD_r, isND, notND, negD_i, revD_t, revD_r, lenR_t, listR_t, tupR_t, mListRg, mTupRg, mRg1, mRg2, ipAdd, ipSub, List.map_cons, List.map_nil, List.length_cons, List.length_nil, List.replicate, List.cons_append, List.nil_append, List.append_nil, List.getElem?_cons_zero, List.getElem?_cons_succ, List.set_cons_zero, List.set_cons_succ, Option.some.injEq, exists_eq_left', List.cons.injEq, and_assoc, D.int.injEq, D.bl.injEq, D.str.injEq, D.tup.injEq, D.wtup.injEq, D.flst.injEq, D.ref.injEq, wipeD, Nat.reduceSub, Nat.reduceAdd, true_and, and_true, Bool.false_eq_true, if_false, if_true, exists_and_left, exists_and_right, exists_eq_left, reduceCtorEq, false_and, exists_false, or_false, false_or, exists_const, ite_true, ite_false, ↓reduceIte, Bool.not_true, Bool.not_false, Bool.true_eq_false, Nat.zero_eq, Nat.succ_eq_add_one, Nat.sub_self, Nat.sub_zero, Nat.reduceEqDiff]
  refine ⟨hp, by omega, fun f hf => ?_⟩
  have p0 : 0 ≤ pl := by rw [← hpl]; exact Int.emod_nonneg _ (Int.ne_of_gt hp)
  have p1 : pl < d.length := by rw [← hpl]; exact Int.emod_lt_of_pos _ hp
  generalize hot : (pl + 1) % (d.length : Int) = ot
  have o0 : 0 ≤ ot := by rw [← hot]; exact Int.emod_nonneg _ (Int.ne_of_gt hp)
  have o1 : ot < d.length := by rw [← hot]; exact Int.emod_lt_of_pos _ hp
  have x0 := Int.emod_nonneg x (Int.ne_of_gt hp)
  have x1 := Int.emod_lt_of_pos x hp
  have z0 := Int.emod_nonneg z (Int.ne_of_gt hp)
  have z1 := Int.emod_lt_of_pos z hp
  have hE2 : Ex μ (updM μ1 f (.lst [])) := hE1.trans (Ex.new hf)
  have hnf : μ f = none := hE1.none hf
  have m1 := Tk_mod rs pl x
  have m2 := Tk_mod rs pl z
  have m3 := Tk_mod rs ot x
  have m4 := Tk_mod rs ot z
  rw [hl] at m1 m2 m3 m4
  refine ix_t1 (hT.ex hE2) hr p0 (by omega) fun q hq => ⟨hp, hq z0 (by omega) ?_⟩
  rw [m2]
  refine ix_t1 (hT.ex hE2) hr p0 (by omega) fun q hq => ⟨hp, hq x0 (by omega) ?_⟩
  rw [m1, gtD_i]
  refine ⟨_, rfl, ?_⟩
  have step : ∀ (μ' : Mu) (K : Bool → Mu → Prop), Ex μ μ' → K (decide (Tk rs ot z < Tk rs ot x)) μ' →
      ixD (.ref tp) (.int ot) μ' fun x_6 μ1 => 0 < (d.length : Int) ∧ ixD x_6 (.int (x % d.length)) μ1 fun x_7 μ1 => ixD (.ref tp) (.int ot) μ1 fun x_8 μ1 => 0 < (d.length : Int) ∧ ixD x_8 (.int (z % d.length)) μ1 fun y μ2 => gtD x_7 y μ2 fun x_9 μ1 => ∃ k, x_9 = D.bl k ∧ K k μ1 := fun μ' K hE hK => by
    refine ix_t1 (hT.ex hE) hr o0 (by omega) fun q hq => ⟨hp, hq x0 (by omega) ?_⟩
    rw [m3]
    refine ix_t1 (hT.ex hE) hr o0 (by omega) fun q hq => ⟨hp, hq z0 (by omega) ?_⟩
    rw [m4, gtD_i]
    exact ⟨_, rfl, hK⟩
  have e1 : plc (E d) x z % (d.length : Int) = pl := hpl
  have fin : ∀ (l : List (List Int)) (μ' : Mu), Ex μ μ' → μ' f = some (.lst (l.map tI)) → refsL rs d x z = l → R (.ref f) μ' := fun l μ' hE hm e => h f μ' hE (by rw [e]; exact hm)
  have hrf : refsL rs d x z = (if Tk rs pl x < Tk rs pl z then [[pl, x, z, pl]] else []) ++ (if Tk rs ot z < Tk rs ot x then [[pl, x, z, ot]] else []) := by
    rw [← hot, ← hpl]; rfl
  have grow : ∀ {μ' : Mu} {o : DO}, Ex μ μ' → Ex μ (updM μ' f o) := fun {μ' o} hE a w _ e => by
    rw [updM_ne (mu_ne e hnf)]; exact hE.at e
  have two : ∀ (l : List (List Int)) (μ' : Mu), l.length ≤ 1 → Ex μ μ' → μ' f = some (.lst (l.map tI)) → refsL rs d x z = l ++ (if Tk rs ot z < Tk rs ot x then [[pl, x, z, ot]] else []) →
      ixD (.ref tp) (.int ot) μ' fun x_6 μ1 => 0 < (d.length : Int) ∧ ixD x_6 (.int (x % d.length)) μ1 fun x_7 μ1 => ixD (.ref tp) (.int ot) μ1 fun x_8 μ1 => 0 < (d.length : Int) ∧ ixD x_8 (.int (z % d.length)) μ1 fun y μ2 => gtD x_7 y μ2 fun x_9 μ1 => ∃ k, x_9 = D.bl k ∧ if k = true then
        (∃ x, LsM μ1 f x) ∧ 4 ≤ sizeLine ∧ appendR (.ref f) [.tup [.int pl, .int x, .int z, .int ot]] μ1 fun _ μ1 => R (.ref f) μ1
        else R (.ref f) μ1 := fun l μ' hl1 hE hm e => by
    refine step μ' _ hE ?_
    by_cases g : Tk rs ot z < Tk rs ot x
    · rw [if_pos (decide_eq_true g)]
      refine ⟨⟨_, .inl hm⟩, by have := sizeLine_big; omega, appendR_l hm (by rw [List.length_map]; omega) ?_⟩
      refine fin (l ++ [[pl, x, z, ot]]) _ (grow hE) ?_ (by rw [e, if_pos g])
      rw [updM_same]; simp
    · rw [if_neg (by simpa using g)]
      exact fin l _ hE hm (by rw [e, if_neg g, List.append_nil])
  simp only [mBML, bodySp, mSeq, mRet, mRetN, mExp, mOp, mUn, mVar, mC, mB, mCons, mNil, mSet, mPar, mPar3, mCall, mTest, mIfS, mIf, mAnd, mOr, mNot, mAndV, mOrV, mNotV, mChain, mNx, mPass, mAsg, gNm, gTp, gsCons, gsNil, mIt, mEnum, mR1, mR2, rk1, rk2, mTup, mLst, mYes, mAug, mSl, mPart, mNoPart, addD_i, addD_t, addD_r, addD_s, subD_i, mulD_i, mulD_r, divD_i, modD_i, powD_i, ltD_i, leD_i, gtD_i, geD_i, eqD_i, eqD_s, eqD_r, neD_i, neD_s, neD_r, isND, notND, negD_i, revD_t, revD_r, lenR_t, listR_t, tupR_t, mListRg, mTupRg, mRg1, mRg2, ipAdd, ipSub, List.map_cons, List.map_nil, List.length_cons, List.length_nil, List.replicate, List.cons_append, List.nil_append, List.append_nil, List.getElem?_cons_zero, List.getElem?_cons_succ, List.set_cons_zero, List.set_cons_succ, Option.some.injEq, exists_eq_left', List.cons.injEq, and_assoc, D.int.injEq, D.bl.injEq, D.str.injEq, D.tup.injEq, D.wtup.injEq, D.flst.injEq, D.ref.injEq, wipeD, Nat.reduceSub, Nat.reduceAdd, true_and, and_true, Bool.false_eq_true, if_false, if_true, exists_and_left, exists_and_right, exists_eq_left, reduceCtorEq, false_and, exists_false, or_false, false_or, exists_const, ite_true, ite_false, ↓reduceIte, Bool.not_true, Bool.not_false, Bool.true_eq_false, Nat.zero_eq, Nat.succ_eq_add_one, Nat.sub_self, Nat.sub_zero, Nat.reduceEqDiff]
  by_cases g : Tk rs pl x < Tk rs pl z
  · rw [if_pos (decide_eq_true g)]
    refine ⟨⟨_, .inl updM_same⟩, by have := sizeLine_big; omega, appendR_l updM_same (by simp) ?_⟩
    refine two [[pl, x, z, pl]] _ (by simp) (grow hE2) ?_ (by rw [hrf, if_pos g])
    rw [updM_same]; simp
  · rw [if_neg (by simpa using g)]
    exact two [] _ (by simp) hE2 updM_same (by rw [hrf, if_neg g])
end Sw

set_option Elab.async false
set_option linter.all false
set_option maxRecDepth 100000
set_option maxHeartbeats 1000000
namespace Sw
open PySem PySem.Spec L2 DL RM
/-! ### the displacements of a right list make a ring -/
theorem sum_S : ∀ (l : List Int), S (fun i => l.getD i 0) l.length = l.sum := fun l => by
  rw [S_list]
  congr 1
  apply List.ext_getElem
  · simp
  · intro i h1 h2
    have hi : i < l.length := by simpa using h1
    simp [hi]
theorem Vd.rg {d : List Int} (V : Vd d) : Rg d.length (E d) := by
  have hp : (0 : Int) < d.length := by have := V.l3; omega
  refine ⟨by omega, fun c => ?_, fun a b h => ?_, ?_⟩
  · unfold E dsp; rw [emod_add_self]; omega
  · have key : ∀ c : Int, (c % d.length).toNat < d.length ∧ E d c % d.length = (((c % d.length).toNat : Int) + d.getD (c % d.length).toNat 0) % d.length := fun c => by
      have b0 := Int.emod_nonneg c (Int.ne_of_gt hp)
      have b1 := Int.emod_lt_of_pos c hp
      refine ⟨by omega, ?_⟩
      unfold E dsp
      rw [Int.toNat_of_nonneg b0, emod_eq_iff]
      have := Int.emod_add_mul_ediv c d.length
      exact ⟨c / d.length, by omega⟩
    obtain ⟨ka, ea⟩ := key a
    obtain ⟨kb, eb⟩ := key b
    rw [ea, eb] at h
    have a0 := Int.emod_nonneg a (Int.ne_of_gt hp)
    have b0 := Int.emod_nonneg b (Int.ne_of_gt hp)
    have := nodup_inj V.nd (i := (a % d.length).toNat) (j := (b % d.length).toNat) (hi := by simpa using ka) (hj := by simpa using kb) (by simpa using h)
    omega
  · rw [← V.sum, ← sum_S]
    refine S_congr fun i hi => ?_
    unfold E dsp
    rw [Int.emod_eq_of_lt (by omega) (by omega), Int.toNat_natCast]; omega
/-! ### the road to the end -/
def EA (rest arr : List Int) (n : Nat) (c : Int) : Int := c + rest.getD (arr.getD (c % n).toNat 0).toNat 0
structure Sq (n : Nat) (rest arr : List Int) : Prop where
  rl : rest.length = n
  ar : Rk arr n
  rg : Rg n (EA rest arr n)
  nt : ¬ Tri (EA rest arr n)
def iota (n : Nat) : List Int := (List.range n).map fun i : Nat => (i : Int)
theorem iota_get {n i : Nat} (h : i < n) : (iota n).getD i 0 = i := by simp [iota, h]
theorem iota_rk (n : Nat) : Rk (iota n) n := by
  refine ⟨by simp [iota], fun x hx => ?_, ?_⟩
  · obtain ⟨i, hi, rfl⟩ := List.mem_map.mp hx
    have := List.mem_range.mp hi
    omega
  · exact nodup_map_on List.nodup_range fun x _ y _ e => by omega
theorem EA_iota {d : List Int} (h : 0 < d.length) : EA d (iota d.length) d.length = E d := by
  funext c
  have hp : (0 : Int) < d.length := by omega
  have b0 := Int.emod_nonneg c (Int.ne_of_gt hp)
  have b1 := Int.emod_lt_of_pos c hp
  unfold EA E dsp
  rw [iota_get (by omega), Int.toNat_natCast]
theorem Vd.sq {d : List Int} (V : Vd d) (nt : ¬ Tri (E d)) : Sq d.length d (iota d.length) := by
  have h := V.l3
  have e := EA_iota (d := d) (by omega)
  exact ⟨rfl, iota_rk _, by rw [e]; exact V.rg, by rw [e]; exact nt⟩
def Ms (l : List Int) : Nat := (l.map Int.natAbs).sum
theorem Ms_set : ∀ {l : List Int} {i : Nat} (v : Int), i < l.length → Ms (l.set i v) + (l.getD i 0).natAbs = Ms l + v.natAbs
  | [], _, _, h => absurd h (Nat.not_lt_zero _)
  | a :: t, 0, v, _ => by simp [Ms]; omega
  | a :: t, i + 1, v, h => by
    have ih := Ms_set (l := t) (i := i) v (by simpa using h)
    simp [Ms] at ih ⊢; omega
theorem getD_set {l : List Int} {i j : Nat} {v : Int} (h : i < l.length) : (l.set i v).getD j 0 = if i = j then v else l.getD j 0 := by
  rw [List.getD_eq_getElem?_getD, List.getD_eq_getElem?_getD, List.getElem?_set]
  by_cases e : i = j
  · subst e; simp [h]
  · simp [e]
section
variable {n : Nat} {rest arr : List Int} {s : Nat}
/-- the neighbours at s swapped -/
def oth (n s : Nat) : Nat := ((s + 1) % n)
def rst (n s : Nat) (rest arr : List Int) : List Int := (rest.set (arr.getD s 0).toNat (rest.getD (arr.getD s 0).toNat 0 - 1)).set (arr.getD (oth n s) 0).toNat (rest.getD (arr.getD (oth n s) 0).toNat 0 + 1)
def art (n s : Nat) (arr : List Int) : List Int := (arr.set s (arr.getD (oth n s) 0)).set (oth n s) (arr.getD s 0)
theorem oth_int : ((oth n s : Nat) : Int) = ((s : Int) + 1) % n := by unfold oth; simp
theorem oth_lt (h : 0 < n) : oth n s < n := Nat.mod_lt _ h
theorem oth_ne (hn : 2 ≤ n) (hs : s < n) : oth n s ≠ s := by
  unfold oth
  by_cases e : s + 1 < n
  · rw [Nat.mod_eq_of_lt e]; omega
  · rw [show s + 1 = n by omega, Nat.mod_self]; omega
theorem Rk.at {r : List Int} (h : Rk r n) {i : Nat} (hi : i < n) : 0 ≤ r.getD i 0 ∧ r.getD i 0 < n := h.bd _ (getD_mem (by rw [h.len]; exact hi))
theorem Rk.inj {r : List Int} (h : Rk r n) {i j : Nat} (hi : i < n) (hj : j < n) (e : (r.getD i 0).toNat = (r.getD j 0).toNat) : i = j := by
  have a := h.at hi
  have b := h.at hj
  have hl := h.len
  have e' : r.getD i 0 = r.getD j 0 := by omega
  rw [List.getD_eq_getElem?_getD, List.getD_eq_getElem?_getD, List.getElem?_eq_getElem (by omega), List.getElem?_eq_getElem (by omega)] at e'
  exact nodup_inj h.nd (by simpa using e')
theorem EA_swap (hn : 2 ≤ n) (hs : s < n) (rl : rest.length = n) (ar : Rk arr n) : EA (rst n s rest arr) (art n s arr) n = swp n s (EA rest arr n) := by
  have hp : (0 : Int) < n := by omega
  have ho := oth_lt (n := n) (s := s) (by omega)
  have hne := oth_ne hn hs
  have hrl : (arr.getD s 0).toNat ≠ (arr.getD (oth n s) 0).toNat := fun e => hne (ar.inj ho hs e.symm)
  have a1 := ar.at hs
  have a2 := ar.at ho
  funext c
  have b0 := Int.emod_nonneg c (Int.ne_of_gt hp)
  have b1 := Int.emod_lt_of_pos c hp
  have hdiv : ∀ t : Nat, t < n → ((n : Int) ∣ c - t ↔ c % n = t) := fun t ht => by
    rw [← emod_eq_iff, Int.emod_eq_of_lt (a := (t : Int)) (by omega) (by omega)]
  have hoc : (n : Int) ∣ c - ((s : Int) + 1) ↔ c % n = (oth n s : Nat) := by
    rw [← emod_eq_iff, oth_int]
  have garr : ∀ j, (art n s arr).getD j 0 = if oth n s = j then arr.getD s 0 else if s = j then arr.getD (oth n s) 0 else arr.getD j 0 := fun j => by
    unfold art
    rw [getD_set (by rw [List.length_set, ar.len]; exact ho), getD_set (by rw [ar.len]; exact hs)]
  have grest : ∀ j, (rst n s rest arr).getD j 0 = if (arr.getD (oth n s) 0).toNat = j then rest.getD (arr.getD (oth n s) 0).toNat 0 + 1 else if (arr.getD s 0).toNat = j then rest.getD (arr.getD s 0).toNat 0 - 1 else rest.getD j 0 := fun j => by
    unfold rst
    rw [getD_set (by rw [List.length_set, rl]; omega), getD_set (by rw [rl]; omega)]
  unfold swp
  rcases sw_cases n s c with ⟨h1, e⟩ | ⟨h1, h2, e⟩ | ⟨h1, h2, e⟩
  · have q := (hdiv s hs).mp h1
    rw [e]
    have q2 : ((c + 1) % n).toNat = oth n s := by
      have h3 : (c + 1) % (n : Int) = ((s : Int) + 1) % n := emod_eq_iff.mpr (by rw [show c + 1 - ((s : Int) + 1) = c - s by omega]; exact h1)
      rw [h3, ← oth_int, Int.toNat_natCast]
    unfold EA
    rw [q2, q, Int.toNat_natCast, garr, if_neg hne, if_pos rfl, grest, if_pos rfl]; omega
  · have q := hoc.mp h2
    rw [e]
    have q2 : ((c - 1) % n).toNat = s := by
      have : (n : Int) ∣ (c - 1) - s := by rw [show c - 1 - (s : Int) = c - (s + 1) by omega]; exact h2
      have := emod_eq_iff.mpr this
      rw [this, Int.emod_eq_of_lt (by omega) (by omega)]; omega
    unfold EA
    rw [q2, q, Int.toNat_natCast, garr, if_pos rfl, grest, if_neg (Ne.symm hrl), if_pos rfl]; omega
  · have q1 : ¬ c % n = s := fun z => h1 ((hdiv s hs).mpr z)
    have q2 : ¬ c % n = (oth n s : Nat) := fun z => h2 (hoc.mpr z)
    rw [e]
    unfold EA
    have hj : (c % n).toNat < n := by omega
    rw [garr, if_neg (by omega), if_neg (by omega), grest, if_neg (fun z => ?_), if_neg (fun z => ?_)]
    · have := ar.inj hs hj z; omega
    · have := ar.inj ho hj z; omega
theorem art_rk (hn : 2 ≤ n) (hs : s < n) (ar : Rk arr n) : Rk (art n s arr) n := by
  have ho := oth_lt (n := n) (s := s) (by omega)
  have hl := ar.len
  have hp : (art n s arr).Perm arr := by
    unfold art
    rw [List.getD_eq_getElem?_getD, List.getD_eq_getElem?_getD, List.getElem?_eq_getElem (show oth n s < arr.length by omega), List.getElem?_eq_getElem (show s < arr.length by omega)]
    exact List.set_set_perm (by omega) (by omega)
  exact ⟨by rw [hp.length_eq]; exact ar.len, fun x hx => ar.bd x (hp.mem_iff.mp hx), (hp.nodup_iff).mpr ar.nd⟩
theorem Sq.step (h : Sq n rest arr) (hn : 2 ≤ n) (hs : s < n) (h1 : 0 < rest.getD (arr.getD s 0).toNat 0) (h2 : rest.getD (arr.getD (oth n s) 0).toNat 0 < 0) :
    Sq n (rst n s rest arr) (art n s arr) ∧ Ms (rst n s rest arr) + 2 = Ms rest := by
  have hp : (0 : Int) < n := by omega
  have ho := oth_lt (n := n) (s := s) (by omega)
  have hne := oth_ne hn hs
  have hrl : (arr.getD s 0).toNat ≠ (arr.getD (oth n s) 0).toNat := fun e => hne (h.ar.inj ho hs e.symm)
  have a1 := h.ar.at hs
  have a2 := h.ar.at ho
  have e := EA_swap hn hs h.rl h.ar
  have es : EA rest arr n s = s + rest.getD (arr.getD s 0).toNat 0 := by
    unfold EA; rw [Int.emod_eq_of_lt (by omega) (by omega), Int.toNat_natCast]
  have eo : EA rest arr n (s + 1) = s + 1 + rest.getD (arr.getD (oth n s) 0).toNat 0 := by
    unfold EA
    have : (((s : Int) + 1) % n).toNat = oth n s := by rw [← oth_int, Int.toNat_natCast]
    rw [this]
  refine ⟨⟨by unfold rst; rw [List.length_set, List.length_set]; exact h.rl, art_rk hn hs h.ar, by rw [e]; exact h.rg.swp hn s hs, ?_⟩, ?_⟩
  · rw [e]
    exact fun t => h.nt (tri_swp h.rg hn (by rw [es]; omega) (by rw [eo]; omega) t)
  · have l1 : (arr.getD s 0).toNat < rest.length := by rw [h.rl]; omega
    have l2 : (arr.getD (oth n s) 0).toNat < rest.length := by rw [h.rl]; omega
    have m1 := Ms_set (l := rest) (i := (arr.getD s 0).toNat) (rest.getD (arr.getD s 0).toNat 0 - 1) l1
    have m2 := Ms_set (l := rest.set (arr.getD s 0).toNat (rest.getD (arr.getD s 0).toNat 0 - 1)) (i := (arr.getD (oth n s) 0).toNat) (rest.getD (arr.getD (oth n s) 0).toNat 0 + 1) (by rw [List.length_set]; exact l2)
    rw [getD_set l1, if_neg hrl] at m2
    unfold rst
    omega
theorem Sq.more (h : Sq n rest arr) (hx : ∃ x ∈ rest, x ≠ 0) : ∃ s, s < n ∧ 0 < rest.getD (arr.getD s 0).toNat 0 ∧ rest.getD (arr.getD (oth n s) 0).toNat 0 < 0 := by
  obtain ⟨x, hx, hx0⟩ := hx
  obtain ⟨i, hi, ei⟩ := List.mem_iff_getElem.mp hx
  have hl := h.rl
  have hm := h.ar.mem (t := (i : Int)) (by omega) (by omega)
  obtain ⟨p, hp, ep⟩ := List.mem_iff_getElem.mp hm
  have hal := h.ar.len
  have key : ∀ s : Nat, s < n → EA rest arr n s = s + rest.getD (arr.getD s 0).toNat 0 := fun s hs => by
    unfold EA; rw [Int.emod_eq_of_lt (by omega) (by omega), Int.toNat_natCast]
  have hne : EA rest arr n p ≠ p := by
    rw [key p (by omega), List.getD_eq_getElem?_getD (l := arr), List.getElem?_eq_getElem hp]
    show (p : Int) + rest.getD (arr[p]).toNat 0 ≠ p
    rw [ep, Int.toNat_natCast, List.getD_eq_getElem?_getD, List.getElem?_eq_getElem hi]
    show (p : Int) + rest[i] ≠ p
    rw [ei]; omega
  obtain ⟨s, hs, h1, h2⟩ := h.rg.next h.nt ⟨p, by omega, hne⟩
  refine ⟨s, hs, ?_, ?_⟩
  · rw [key s hs] at h1; omega
  · have eo : EA rest arr n (s + 1) = s + 1 + rest.getD (arr.getD (oth n s) 0).toNat 0 := by
      unfold EA
      have : (((s : Int) + 1) % n).toNat = oth n s := by rw [← oth_int, Int.toNat_natCast]
      rw [this]
    rw [eo] at h2; omega
end
end Sw

set_option Elab.async false
set_option linter.all false
set_option maxRecDepth 100000
set_option maxHeartbeats 2000000
namespace Sw
open PySem PySem.Spec L2 DL RM
/-- the swaps so far, each of one that goes on with one that goes back -/
inductive Pth (n : Nat) (d : List Int) : List Int → List Int → List Int → Prop
  | nil : Pth n d [] d (iota n)
  | snoc {fs rest arr : List Int} {s : Nat} : Pth n d fs rest arr → s < n → 0 < rest.getD (arr.getD s 0).toNat 0 → rest.getD (arr.getD (oth n s) 0).toNat 0 < 0 → Pth n d (fs ++ [(s : Int)]) (rst n s rest arr) (art n s arr)
def EndP (d s : List Int) : Prop := ∃ rest arr, Pth d.length d s rest arr ∧ ∀ x ∈ rest, x = 0
def sp_sequence_for : DSp := fun ds μ RX R => ∃ d, ds = [tI d] ∧ (Vd d ∧ ¬ Tri (E d)) ∧ ∀ s μ', Ex μ μ' → EndP d s → R (tI s) μ'
def t_sequence_for : DS :=
  (mSeq (mPar3 1 2 3 (mCons (mB lenR (mCons (mVar 0) mNil)) (mCons (mB listR (mCons (mVar 0) mNil)) (mCons (mLst mNil) mNil))))
  (mSeq (mSet 4 (mListRg (mRg1 (mVar 1))))
  (mSeq (mWhile (mTest (mB anyR (mCons (mLc (mIt (mVar 2)) (gNm 9) mYes (mOp neD (mVar 9) (mC (.int 0))) [9]) mNil)))
  (mFor (mR1 (mVar 1)) (gNm 5)
  (mSeq (mSet 6 (mOp modD (mOp addD (mVar 5) (mC (.int 1))) (mVar 1)))
  (mSeq (mPar 7 8 (mCons (mOp ixD (mVar 4) (mVar 5)) (mCons (mOp ixD (mVar 4) (mVar 6)) mNil)))
  (mIfS (mAnd (mTest (mOp gtD (mOp ixD (mVar 2) (mVar 7)) (mC (.int 0)))) (mTest (mOp ltD (mOp ixD (mVar 2) (mVar 8)) (mC (.int 0)))))
  (mSeq (mAugS (mVar 2) (mVar 7) ipSub (mC (.int 1)))
  (mSeq (mAugS (mVar 2) (mVar 8) ipAdd (mC (.int 1)))
  (mSeq (mAsg (mTup (mCons (mVar 8) (mCons (mVar 7) mNil))) (gTp 2 (gsCons (gSb (mVar 4) (mVar 5)) (gsCons (gSb (mVar 4) (mVar 6)) gsNil))))
  (mExp (mBML appendR (mVar 3) (mCons (mVar 5) mNil))))))
  mNx)))))
  (mRet (mB tupR (mCons (mVar 3) mNil))))))
abbrev N_sequence_for : List Str := ["displacements", "size", "rest", "found", "arrangement", "swap", "other", "right", "left", "move"]
abbrev P_sequence_for : List Str := ["displacements"]
/-- the state of the walk -/
structure Wk (μ0 : Mu) (n : Nat) (d : List Int) (r f a : Addr) (rest arr fs : List Int) (μ : Mu) : Prop where
  ex : Ex μ0 μ
  r0 : μ0 r = none
  f0 : μ0 f = none
  a0 : μ0 a = none
  rf : r ≠ f
  ra : r ≠ a
  fa : f ≠ a
  mr : μ r = some (.lst (nI rest))
  mf : μ f = some (.lst (nI fs))
  ma : μ a = some (.lst (nI arr))
  sq : Sq n rest arr
  fl : fs.length + Ms rest ≤ 1000
  pt : Pth n d fs rest arr
def Vst (μ0 : Mu) (d : List Int) (r f a : Addr) (k : Nat) (δ : DSt) (μ : Mu) : Prop := ∃ rest arr fs o5 o6 o7 o8 o9, δ = [some (tI d), some (.int d.length), some (.ref r), some (.ref f), some (.ref a), o5, o6, o7, o8, o9] ∧ Wk μ0 d.length d r f a rest arr fs μ ∧ k = Ms rest
theorem Ex.over {μ0 μ : Mu} {p : Addr} {o : DO} (h : Ex μ0 μ) (h0 : μ0 p = none) : Ex μ0 (updM μ p o) := fun b w _ e => by
  rw [updM_ne (mu_ne e h0)]; exact h.at e
theorem getLD_i {μ : Mu} {a : Addr} {l : List Int} {i : Int} {R : DK} (h : μ a = some (.lst (nI l))) (h0 : 0 ≤ i) (h1 : i < l.length) (hR : R (.int (l.getD i.toNat 0)) μ) : getLD (.ref a) (.int i) μ R :=
  .inl ⟨a, _, i, _, rfl, .inl h, rfl, atI_ints h0 h1, hR⟩
theorem setD_i {μ : Mu} {a : Addr} {l : List Int} {i v : Int} {R : Mu → Prop} (h : μ a = some (.lst (nI l))) (h0 : 0 ≤ i) (h1 : i < l.length) (hR : R (updM μ a (.lst (nI (l.set i.toNat v))))) : setD (.ref a) (.int i) (.int v) μ R :=
  .inl ⟨a, _, i, i.toNat, rfl, rfl, h, ixN_nat h0 (by rw [nI_len]; exact h1), by rw [← List.map_set]; exact hR⟩
theorem ix_i {μ : Mu} {a : Addr} {l : List Int} {i : Int} {R : DK} (h : μ a = some (.lst (nI l))) (h0 : 0 ≤ i) (h1 : i < l.length) (hR : R (.int (l.getD i.toNat 0)) μ) : ixD (.ref a) (.int i) μ R :=
  (ixD_l (.inl h) (atI_ints h0 h1)).mpr hR
theorem law_sequence_for : ∀ ds μ RX R, sp_sequence_for ds μ RX R → bodySp P_sequence_for.length N_sequence_for.length t_sequence_for ds μ RX R := by
  rintro _ μ0 RX R ⟨d, rfl, ⟨V, nt⟩, h⟩
  refine ⟨rfl, ?_⟩
  have h3 := V.l3
  have h20 := V.l20
  have hn2 : 2 ≤ d.length := by omega
  simp only [t_sequence_for, bodySp, mSeq, mRet, mRetN, mExp, mOp, mUn, mVar, mC, mB, mCons, mNil, mSet, mPar, mPar3, mCall, mTest, mIfS, mIf, mAnd, mOr, mNot, mAndV, mOrV, mNotV, mChain, mNx, mPass, mAsg, gNm, gTp, gsCons, gsNil, mIt, mEnum, mR1, mR2, rk1, rk2, mTup, mLst, mYes, mAug, mSl, mPart, mNoPart, addD_i, addD_t, addD_r, addD_s, subD_i, mulD_i, mulD_r, divD_i, modD_i, powD_i, ltD_i, leD_i, gtD_i, geD_i, eqD_i, eqD_s, eqD_r, neD_i, neD_s, neD_r, isND, notND, negD_i, revD_t, revD_r, lenR_t, listR_t, tupR_t, mListRg, mTupRg, mRg1, mRg2, ipAdd, ipSub, List.map_cons, List.map_nil, List.length_cons, List.length_nil, List.replicate, List.cons_append, List.nil_append, List.append_nil, List.getElem?_cons_zero, List.getElem?_cons_succ, List.set_cons_zero, List.set_cons_succ, Option.some.injEq, exists_eq_left', List.cons.injEq, and_assoc, D.int.injEq, D.bl.injEq, D.str.injEq, D.tup.injEq, D.wtup.injEq, D.flst.injEq, D.ref.injEq, wipeD, Nat.reduceSub, Nat.reduceAdd, true_and, and_true, Bool.false_eq_true, if_false, if_true, exists_and_left, exists_and_right, exists_eq_left, reduceCtorEq, false_and, exists_false, or_false, false_or, exists_const, ite_true, ite_false, ↓reduceIte, Bool.not_true, Bool.not_false, Bool.true_eq_false, Nat.zero_eq, Nat.succ_eq_add_one, Nat.sub_self, Nat.sub_zero, Nat.reduceEqDiff]
  intro r hr
  refine ⟨by omega, fun f hf => ?_⟩
  rw [nI_len]
  refine ⟨RgOk.of_le (by omega) (by omega) (by omega) (by omega), fun a ha => ?_⟩
  have hrf : r ≠ f := mu_ne updM_same hf
  have hfa : f ≠ a := mu_ne updM_same ha
  have hra : r ≠ a := mu_ne (by rw [updM_ne hrf]; exact updM_same) ha
  have f0 : μ0 f = none := (Ex.new hr).none hf
  have a0 : μ0 a = none := (Ex.new hr).none ((Ex.new hf).none ha)
  have hmd : Ms d ≤ 400 := by
    have : ∀ l : List Int, (∀ x ∈ l, x.natAbs ≤ 20) → Ms l ≤ 20 * l.length := fun l => by
      induction l with
      | nil => intro _; simp [Ms]
      | cons b t ih =>
        intro hb
        have h1 := hb b List.mem_cons_self
        have h2 := ih fun x hx => hb x (List.mem_cons_of_mem _ hx)
        simp [Ms] at h2 ⊢; omega
    have := this d fun x hx => by have := V.bd x hx; omega
    omega
  have w0 : Wk μ0 d.length d r f a d (iota d.length) [] (updM (updM (updM μ0 r (.lst (nI d))) f (.lst [])) a (.lst (rgD 0 d.length))) :=
    ⟨Ex.over (Ex.over (Ex.over Ex.refl hr) f0) a0, hr, f0, a0, hrf, hra, hfa, by rw [updM_ne hra, updM_ne hrf, updM_same], by rw [updM_ne hfa, updM_same]; rfl, by
      rw [updM_same, rgD_ints]; unfold iota; simp, V.sq nt, by simp; omega, .nil⟩
  generalize updM (updM (updM μ0 r (.lst (nI d))) f (.lst [])) a (.lst (rgD 0 d.length)) = μ1 at w0
  refine ⟨Vst μ0 d r f a,
    ⟨_, _, _, _, _, _, _, _, _, rfl, w0, rfl⟩, ?_⟩
  rintro k _ μ ⟨rest, arr, fs, o5, o6, o7, o8, o9, rfl, w, rfl⟩
  simp only [mLc, bodySp, mSeq, mRet, mRetN, mExp, mOp, mUn, mVar, mC, mB, mCons, mNil, mSet, mPar, mPar3, mCall, mTest, mIfS, mIf, mAnd, mOr, mNot, mAndV, mOrV, mNotV, mChain, mNx, mPass, mAsg, gNm, gTp, gsCons, gsNil, mIt, mEnum, mR1, mR2, rk1, rk2, mTup, mLst, mYes, mAug, mSl, mPart, mNoPart, addD_i, addD_t, addD_r, addD_s, subD_i, mulD_i, mulD_r, divD_i, modD_i, powD_i, ltD_i, leD_i, gtD_i, geD_i, eqD_i, eqD_s, eqD_r, neD_i, neD_s, neD_r, isND, notND, negD_i, revD_t, revD_r, lenR_t, listR_t, tupR_t, mListRg, mTupRg, mRg1, mRg2, ipAdd, ipSub, List.map_cons, List.map_nil, List.length_cons, List.length_nil, List.replicate, List.cons_append, List.nil_append, List.append_nil, List.getElem?_cons_zero, List.getElem?_cons_succ, List.set_cons_zero, List.set_cons_succ, Option.some.injEq, exists_eq_left', List.cons.injEq, and_assoc, D.int.injEq, D.bl.injEq, D.str.injEq, D.tup.injEq, D.wtup.injEq, D.flst.injEq, D.ref.injEq, wipeD, Nat.reduceSub, Nat.reduceAdd, true_and, and_true, Bool.false_eq_true, if_false, if_true, exists_and_left, exists_and_right, exists_eq_left, reduceCtorEq, false_and, exists_false, or_false, false_or, exists_const, ite_true, ite_false, ↓reduceIte, Bool.not_true, Bool.not_false, Bool.true_eq_false, Nat.zero_eq, Nat.succ_eq_add_one, Nat.sub_self, Nat.sub_zero, Nat.reduceEqDiff]
  refine ⟨_, .inl w.mr, fun p hp => ?_⟩
  have hpr : r ≠ p := mu_ne w.mr hp
  have hpf : f ≠ p := mu_ne w.mf hp
  have hpa : a ≠ p := mu_ne w.ma hp
  refine lcD_int (fun _ => true) (fun x => .bl (!decide (x = 0))) (fun acc => .inl (by rw [updM_ne hpr]; exact w.mr)) (by have := w.sq.rl; omega) (fun x hx acc N hN => ?_) ?_
  · simp only [bodySp, mSeq, mRet, mRetN, mExp, mOp, mUn, mVar, mC, mB, mCons, mNil, mSet, mPar, mPar3, mCall, mTest, mIfS, mIf, mAnd, mOr, mNot, mAndV, mOrV, mNotV, mChain, mNx, mPass, mAsg, gNm, gTp, gsCons, gsNil, mIt, mEnum, mR1, mR2, rk1, rk2, mTup, mLst, mYes, mAug, mSl, mPart, mNoPart, addD_i, addD_t, addD_r, addD_s, subD_i, mulD_i, mulD_r, divD_i, modD_i, powD_i, ltD_i, leD_i, gtD_i, geD_i, eqD_i, eqD_s, eqD_r, neD_i, neD_s, neD_r, isND, notND, negD_i, revD_t, revD_r, lenR_t, listR_t, tupR_t, mListRg, mTupRg, mRg1, mRg2, ipAdd, ipSub, List.map_cons, List.map_nil, List.length_cons, List.length_nil, List.replicate, List.cons_append, List.nil_append, List.append_nil, List.getElem?_cons_zero, List.getElem?_cons_succ, List.set_cons_zero, List.set_cons_succ, Option.some.injEq, exists_eq_left', List.cons.injEq, and_assoc, D.int.injEq, D.bl.injEq, D.str.injEq, D.tup.injEq, D.wtup.injEq, D.flst.injEq, D.ref.injEq, wipeD, Nat.reduceSub, Nat.reduceAdd, true_and, and_true, Bool.false_eq_true, if_false, if_true, exists_and_left, exists_and_right, exists_eq_left, reduceCtorEq, false_and, exists_false, or_false, false_or, exists_const, ite_true, ite_false, ↓reduceIte, Bool.not_true, Bool.not_false, Bool.true_eq_false, Nat.zero_eq, Nat.succ_eq_add_one, Nat.sub_self, Nat.sub_zero, Nat.reduceEqDiff]
    exact by simpa using hN
  · refine ⟨p, rest.map fun x => !decide (x = 0), rfl, .inl (by rw [updM_same, List.filter_eq_self.mpr (by simp), List.map_map]; rfl), ?_⟩
    simp only [bodySp, mSeq, mRet, mRetN, mExp, mOp, mUn, mVar, mC, mB, mCons, mNil, mSet, mPar, mPar3, mCall, mTest, mIfS, mIf, mAnd, mOr, mNot, mAndV, mOrV, mNotV, mChain, mNx, mPass, mAsg, gNm, gTp, gsCons, gsNil, mIt, mEnum, mR1, mR2, rk1, rk2, mTup, mLst, mYes, mAug, mSl, mPart, mNoPart, addD_i, addD_t, addD_r, addD_s, subD_i, mulD_i, mulD_r, divD_i, modD_i, powD_i, ltD_i, leD_i, gtD_i, geD_i, eqD_i, eqD_s, eqD_r, neD_i, neD_s, neD_r, isND, notND, negD_i, revD_t, revD_r, lenR_t, listR_t, tupR_t, mListRg, mTupRg, mRg1, mRg2, ipAdd, ipSub, List.map_cons, List.map_nil, List.length_cons, List.length_nil, List.replicate, List.cons_append, List.nil_append, List.append_nil, List.getElem?_cons_zero, List.getElem?_cons_succ, List.set_cons_zero, List.set_cons_succ, Option.some.injEq, exists_eq_left', List.cons.injEq, and_assoc, D.int.injEq, D.bl.injEq, D.str.injEq, D.tup.injEq, D.wtup.injEq, D.flst.injEq, D.ref.injEq, wipeD, Nat.reduceSub, Nat.reduceAdd, true_and, and_true, Bool.false_eq_true, if_false, if_true, exists_and_left, exists_and_right, exists_eq_left, reduceCtorEq, false_and, exists_false, or_false, false_or, exists_const, ite_true, ite_false, ↓reduceIte, Bool.not_true, Bool.not_false, Bool.true_eq_false, Nat.zero_eq, Nat.succ_eq_add_one, Nat.sub_self, Nat.sub_zero, Nat.reduceEqDiff]
    have w' : Wk μ0 d.length d r f a rest arr fs (updM μ p (.lst (List.map (fun x => D.bl (!decide (x = 0))) (rest.filter fun _ => true)))) :=
      ⟨w.ex.trans (Ex.new hp), w.r0, w.f0, w.a0, w.rf, w.ra, w.fa, by rw [updM_ne hpr]; exact w.mr, by rw [updM_ne hpf]; exact w.mf, by rw [updM_ne hpa]; exact w.ma, w.sq, w.fl, w.pt⟩
    generalize updM μ p (.lst (List.map (fun x => D.bl (!decide (x = 0))) (rest.filter fun _ => true))) = μ2 at w'
    have hany : (rest.map fun x => !decide (x = 0)).any id = true ↔ ∃ x ∈ rest, x ≠ 0 := by simp
    by_cases g : ∃ x ∈ rest, x ≠ 0
    · rw [if_pos (hany.mpr g)]
      simp only [mFor, bodySp, mSeq, mRet, mRetN, mExp, mOp, mUn, mVar, mC, mB, mCons, mNil, mSet, mPar, mPar3, mCall, mTest, mIfS, mIf, mAnd, mOr, mNot, mAndV, mOrV, mNotV, mChain, mNx, mPass, mAsg, gNm, gTp, gsCons, gsNil, mIt, mEnum, mR1, mR2, rk1, rk2, mTup, mLst, mYes, mAug, mSl, mPart, mNoPart, addD_i, addD_t, addD_r, addD_s, subD_i, mulD_i, mulD_r, divD_i, modD_i, powD_i, ltD_i, leD_i, gtD_i, geD_i, eqD_i, eqD_s, eqD_r, neD_i, neD_s, neD_r, isND, notND, negD_i, revD_t, revD_r, lenR_t, listR_t, tupR_t, mListRg, mTupRg, mRg1, mRg2, ipAdd, ipSub, List.map_cons, List.map_nil, List.length_cons, List.length_nil, List.replicate, List.cons_append, List.nil_append, List.append_nil, List.getElem?_cons_zero, List.getElem?_cons_succ, List.set_cons_zero, List.set_cons_succ, Option.some.injEq, exists_eq_left', List.cons.injEq, and_assoc, D.int.injEq, D.bl.injEq, D.str.injEq, D.tup.injEq, D.wtup.injEq, D.flst.injEq, D.ref.injEq, wipeD, Nat.reduceSub, Nat.reduceAdd, true_and, and_true, Bool.false_eq_true, if_false, if_true, exists_and_left, exists_and_right, exists_eq_left, reduceCtorEq, false_and, exists_false, or_false, false_or, exists_const, ite_true, ite_false, ↓reduceIte, Bool.not_true, Bool.not_false, Bool.true_eq_false, Nat.zero_eq, Nat.succ_eq_add_one, Nat.sub_self, Nat.sub_zero, Nat.reduceEqDiff]
      refine ⟨by omega, by omega, ?_⟩
      refine forD_rng d.length (fun k δ μ => ∃ rest' arr' fs' o5 o6 o7 o8 o9, δ = [some (tI d), some (.int d.length), some (.ref r), some (.ref f), some (.ref a), o5, o6, o7, o8, o9] ∧ Wk μ0 d.length d r f a rest' arr' fs' μ ∧
        (Ms rest' < Ms rest ∨ (rest' = rest ∧ arr' = arr ∧ ∀ s, s < k → ¬ (0 < rest.getD (arr.getD s 0).toNat 0 ∧ rest.getD (arr.getD (oth d.length s) 0).toNat 0 < 0)))) (fun _ => trivial) ?_ ?_ _ _ ⟨_, _, _, _, _, _, _, _, rfl, w', .inr ⟨rfl, rfl, fun s hs => absurd hs (Nat.not_lt_zero _)⟩⟩
      · rintro _ μ3 ⟨rest', arr', fs', p5, p6, p7, p8, p9, rfl, w3, hp3⟩
        rcases hp3 with hp3 | ⟨rfl, rfl, hp3⟩
        · exact ⟨_, hp3, _, _, _, _, _, _, _, _, rfl, w3, rfl⟩
        · exfalso
          obtain ⟨s, hs, h1, h2⟩ := w.sq.more g
          exact hp3 s hs ⟨h1, h2⟩
      · rintro s _ μ3 N hs hN ⟨rest', arr', fs', p5, p6, p7, p8, p9, rfl, w3, hp3⟩
        have ho := oth_lt (n := d.length) (s := s) (by omega)
        have hal := w3.sq.ar.len
        have hrl := w3.sq.rl
        have a1 := w3.sq.ar.at hs
        have a2 := w3.sq.ar.at ho
        simp only [bodySp, mSeq, mRet, mRetN, mExp, mOp, mUn, mVar, mC, mB, mCons, mNil, mSet, mPar, mPar3, mCall, mTest, mIfS, mIf, mAnd, mOr, mNot, mAndV, mOrV, mNotV, mChain, mNx, mPass, mAsg, gNm, gTp, gsCons, gsNil, mIt, mEnum, mR1, mR2, rk1, rk2, mTup, mLst, mYes, mAug, mSl, mPart, mNoPart, addD_i, addD_t, addD_r, addD_s, subD_i, mulD_i, mulD_r, divD_i, modD_i, powD_i, ltD_i, leD_i, gtD_i, geD_i, eqD_i, eqD_s, eqD_r, neD_i, neD_s, neD_r, isND, notND, negD_i, revD_t, revD_r, lenR_t, listR_t, tupR_t, mListRg, mTupRg, mRg1, mRg2, ipAdd, ipSub, List.map_cons, List.map_nil, List.length_cons, List.length_nil, List.replicate, List.cons_append, List.nil_append, List.append_nil, List.getElem?_cons_zero, List.getElem?_cons_succ, List.set_cons_zero, List.set_cons_succ, Option.some.injEq, exists_eq_left', List.cons.injEq, and_assoc, D.int.injEq, D.bl.injEq, D.str.injEq, D.tup.injEq, D.wtup.injEq, D.flst.injEq, D.ref.injEq, wipeD, Nat.reduceSub, Nat.reduceAdd, true_and, and_true, Bool.false_eq_true, if_false, if_true, exists_and_left, exists_and_right, exists_eq_left, reduceCtorEq, false_and, exists_false, or_false, false_or, exists_const, ite_true, ite_false, ↓reduceIte, Bool.not_true, Bool.not_false, Bool.true_eq_false, Nat.zero_eq, Nat.succ_eq_add_one, Nat.sub_self, Nat.sub_zero, Nat.reduceEqDiff]
        refine ⟨by omega, ?_⟩
        rw [← oth_int]
        refine ix_i w3.ma (by omega) (by omega) (ix_i w3.ma (by omega) (by omega) ?_)
        simp only [Int.toNat_natCast, bodySp, mSeq, mRet, mRetN, mExp, mOp, mUn, mVar, mC, mB, mCons, mNil, mSet, mPar, mPar3, mCall, mTest, mIfS, mIf, mAnd, mOr, mNot, mAndV, mOrV, mNotV, mChain, mNx, mPass, mAsg, gNm, gTp, gsCons, gsNil, mIt, mEnum, mR1, mR2, rk1, rk2, mTup, mLst, mYes, mAug, mSl, mPart, mNoPart, addD_i, addD_t, addD_r, addD_s, subD_i, mulD_i, mulD_r, divD_i, modD_i, powD_i, ltD_i, leD_i, gtD_i, geD_i, eqD_i, eqD_s, eqD_r, neD_i, neD_s, neD_r, isND, notND, negD_i, revD_t, revD_r, lenR_t, listR_t, tupR_t, mListRg, mTupRg, mRg1, mRg2, ipAdd, ipSub, List.map_cons, List.map_nil, List.length_cons, List.length_nil, List.replicate, List.cons_append, List.nil_append, List.append_nil, List.getElem?_cons_zero, List.getElem?_cons_succ, List.set_cons_zero, List.set_cons_succ, Option.some.injEq, exists_eq_left', List.cons.injEq, and_assoc, D.int.injEq, D.bl.injEq, D.str.injEq, D.tup.injEq, D.wtup.injEq, D.flst.injEq, D.ref.injEq, wipeD, Nat.reduceSub, Nat.reduceAdd, true_and, and_true, Bool.false_eq_true, if_false, if_true, exists_and_left, exists_and_right, exists_eq_left, reduceCtorEq, false_and, exists_false, or_false, false_or, exists_const, ite_true, ite_false, ↓reduceIte, Bool.not_true, Bool.not_false, Bool.true_eq_false, Nat.zero_eq, Nat.succ_eq_add_one, Nat.sub_self, Nat.sub_zero, Nat.reduceEqDiff]
        refine ix_i w3.mr (by omega) (by omega) ?_
        simp only [bodySp, mSeq, mRet, mRetN, mExp, mOp, mUn, mVar, mC, mB, mCons, mNil, mSet, mPar, mPar3, mCall, mTest, mIfS, mIf, mAnd, mOr, mNot, mAndV, mOrV, mNotV, mChain, mNx, mPass, mAsg, gNm, gTp, gsCons, gsNil, mIt, mEnum, mR1, mR2, rk1, rk2, mTup, mLst, mYes, mAug, mSl, mPart, mNoPart, addD_i, addD_t, addD_r, addD_s, subD_i, mulD_i, mulD_r, divD_i, modD_i, powD_i, ltD_i, leD_i, gtD_i, geD_i, eqD_i, eqD_s, eqD_r, neD_i, neD_s, neD_r, isND, notND, negD_i, revD_t, revD_r, lenR_t, listR_t, tupR_t, mListRg, mTupRg, mRg1, mRg2, ipAdd, ipSub, List.map_cons, List.map_nil, List.length_cons, List.length_nil, List.replicate, List.cons_append, List.nil_append, List.append_nil, List.getElem?_cons_zero, List.getElem?_cons_succ, List.set_cons_zero, List.set_cons_succ, Option.some.injEq, exists_eq_left', List.cons.injEq, and_assoc, D.int.injEq, D.bl.injEq, D.str.injEq, D.tup.injEq, D.wtup.injEq, D.flst.injEq, D.ref.injEq, wipeD, Nat.reduceSub, Nat.reduceAdd, true_and, and_true, Bool.false_eq_true, if_false, if_true, exists_and_left, exists_and_right, exists_eq_left, reduceCtorEq, false_and, exists_false, or_false, false_or, exists_const, ite_true, ite_false, ↓reduceIte, Bool.not_true, Bool.not_false, Bool.true_eq_false, Nat.zero_eq, Nat.succ_eq_add_one, Nat.sub_self, Nat.sub_zero, Nat.reduceEqDiff]
        have same : (¬ (0 < rest'.getD (arr'.getD s 0).toNat 0 ∧ rest'.getD (arr'.getD (oth d.length s) 0).toNat 0 < 0)) → N [some (tI d), some (.int d.length), some (.ref r), some (.ref f), some (.ref a), some (.int s), some (.int (oth d.length s : Nat)), some (.int (arr'.getD s 0)), some (.int (arr'.getD (oth d.length s) 0)), p9] μ3 := fun hno => by
          refine hN _ _ ⟨_, _, _, _, _, _, _, _, rfl, w3, ?_⟩
          rcases hp3 with hp3 | ⟨rfl, rfl, hp3⟩
          · exact .inl hp3
          · refine .inr ⟨rfl, rfl, fun t ht => ?_⟩
            rcases Nat.lt_succ_iff_lt_or_eq.mp ht with z | rfl
            · exact hp3 t z
            · exact hno
        by_cases g1 : 0 < rest'.getD (arr'.getD s 0).toNat 0
        · rw [if_pos (decide_eq_true g1)]
          refine ix_i w3.mr (by omega) (by omega) ?_
          simp only [bodySp, mSeq, mRet, mRetN, mExp, mOp, mUn, mVar, mC, mB, mCons, mNil, mSet, mPar, mPar3, mCall, mTest, mIfS, mIf, mAnd, mOr, mNot, mAndV, mOrV, mNotV, mChain, mNx, mPass, mAsg, gNm, gTp, gsCons, gsNil, mIt, mEnum, mR1, mR2, rk1, rk2, mTup, mLst, mYes, mAug, mSl, mPart, mNoPart, addD_i, addD_t, addD_r, addD_s, subD_i, mulD_i, mulD_r, divD_i, modD_i, powD_i, ltD_i, leD_i, gtD_i, geD_i, eqD_i, eqD_s, eqD_r, neD_i, neD_s, neD_r, isND, notND, negD_i, revD_t, revD_r, lenR_t, listR_t, tupR_t, mListRg, mTupRg, mRg1, mRg2, ipAdd, ipSub, List.map_cons, List.map_nil, List.length_cons, List.length_nil, List.replicate, List.cons_append, List.nil_append, List.append_nil, List.getElem?_cons_zero, List.getElem?_cons_succ, List.set_cons_zero, List.set_cons_succ, Option.some.injEq, exists_eq_left', List.cons.injEq, and_assoc, D.int.injEq, D.bl.injEq, D.str.injEq, D.tup.injEq, D.wtup.injEq, D.flst.injEq, D.ref.injEq, wipeD, Nat.reduceSub, Nat.reduceAdd, true_and, and_true, Bool.false_eq_true, if_false, if_true, exists_and_left, exists_and_right, exists_eq_left, reduceCtorEq, false_and, exists_false, or_false, false_or, exists_const, ite_true, ite_false, ↓reduceIte, Bool.not_true, Bool.not_false, Bool.true_eq_false, Nat.zero_eq, Nat.succ_eq_add_one, Nat.sub_self, Nat.sub_zero, Nat.reduceEqDiff]
          by_cases g2 : rest'.getD (arr'.getD (oth d.length s) 0).toNat 0 < 0
          · rw [if_pos (decide_eq_true g2)]
            simp only [mAugS, bodySp, mSeq, mRet, mRetN, mExp, mOp, mUn, mVar, mC, mB, mCons, mNil, mSet, mPar, mPar3, mCall, mTest, mIfS, mIf, mAnd, mOr, mNot, mAndV, mOrV, mNotV, mChain, mNx, mPass, mAsg, gNm, gTp, gsCons, gsNil, mIt, mEnum, mR1, mR2, rk1, rk2, mTup, mLst, mYes, mAug, mSl, mPart, mNoPart, addD_i, addD_t, addD_r, addD_s, subD_i, mulD_i, mulD_r, divD_i, modD_i, powD_i, ltD_i, leD_i, gtD_i, geD_i, eqD_i, eqD_s, eqD_r, neD_i, neD_s, neD_r, isND, notND, negD_i, revD_t, revD_r, lenR_t, listR_t, tupR_t, mListRg, mTupRg, mRg1, mRg2, ipAdd, ipSub, List.map_cons, List.map_nil, List.length_cons, List.length_nil, List.replicate, List.cons_append, List.nil_append, List.append_nil, List.getElem?_cons_zero, List.getElem?_cons_succ, List.set_cons_zero, List.set_cons_succ, Option.some.injEq, exists_eq_left', List.cons.injEq, and_assoc, D.int.injEq, D.bl.injEq, D.str.injEq, D.tup.injEq, D.wtup.injEq, D.flst.injEq, D.ref.injEq, wipeD, Nat.reduceSub, Nat.reduceAdd, true_and, and_true, Bool.false_eq_true, if_false, if_true, exists_and_left, exists_and_right, exists_eq_left, reduceCtorEq, false_and, exists_false, or_false, false_or, exists_const, ite_true, ite_false, ↓reduceIte, Bool.not_true, Bool.not_false, Bool.true_eq_false, Nat.zero_eq, Nat.succ_eq_add_one, Nat.sub_self, Nat.sub_zero, Nat.reduceEqDiff]
            have b1 : 0 ≤ arr'.getD s 0 := a1.1
            have hre := w3.sq.step hn2 hs g1 g2
            have hne := oth_ne hn2 hs
            have hrlne : (arr'.getD s 0).toNat ≠ (arr'.getD (oth d.length s) 0).toNat := fun e => hne (w3.sq.ar.inj ho hs e.symm)
            refine getLD_i w3.mr (by omega) (by omega) ?_
            simp only [bodySp, mSeq, mRet, mRetN, mExp, mOp, mUn, mVar, mC, mB, mCons, mNil, mSet, mPar, mPar3, mCall, mTest, mIfS, mIf, mAnd, mOr, mNot, mAndV, mOrV, mNotV, mChain, mNx, mPass, mAsg, gNm, gTp, gsCons, gsNil, mIt, mEnum, mR1, mR2, rk1, rk2, mTup, mLst, mYes, mAug, mSl, mPart, mNoPart, addD_i, addD_t, addD_r, addD_s, subD_i, mulD_i, mulD_r, divD_i, modD_i, powD_i, ltD_i, leD_i, gtD_i, geD_i, eqD_i, eqD_s, eqD_r, neD_i, neD_s, neD_r, isND, notND, negD_i, revD_t, revD_r, lenR_t, listR_t, tupR_t, mListRg, mTupRg, mRg1, mRg2, ipAdd, ipSub, List.map_cons, List.map_nil, List.length_cons, List.length_nil, List.replicate, List.cons_append, List.nil_append, List.append_nil, List.getElem?_cons_zero, List.getElem?_cons_succ, List.set_cons_zero, List.set_cons_succ, Option.some.injEq, exists_eq_left', List.cons.injEq, and_assoc, D.int.injEq, D.bl.injEq, D.str.injEq, D.tup.injEq, D.wtup.injEq, D.flst.injEq, D.ref.injEq, wipeD, Nat.reduceSub, Nat.reduceAdd, true_and, and_true, Bool.false_eq_true, if_false, if_true, exists_and_left, exists_and_right, exists_eq_left, reduceCtorEq, false_and, exists_false, or_false, false_or, exists_const, ite_true, ite_false, ↓reduceIte, Bool.not_true, Bool.not_false, Bool.true_eq_false, Nat.zero_eq, Nat.succ_eq_add_one, Nat.sub_self, Nat.sub_zero, Nat.reduceEqDiff]
            refine setD_i w3.mr (by omega) (by omega) ?_
            refine getLD_i updM_same (by omega) (by rw [List.length_set]; omega) ?_
            rw [getD_set (by omega), if_neg hrlne]
            simp only [bodySp, mSeq, mRet, mRetN, mExp, mOp, mUn, mVar, mC, mB, mCons, mNil, mSet, mPar, mPar3, mCall, mTest, mIfS, mIf, mAnd, mOr, mNot, mAndV, mOrV, mNotV, mChain, mNx, mPass, mAsg, gNm, gTp, gsCons, gsNil, mIt, mEnum, mR1, mR2, rk1, rk2, mTup, mLst, mYes, mAug, mSl, mPart, mNoPart, addD_i, addD_t, addD_r, addD_s, subD_i, mulD_i, mulD_r, divD_i, modD_i, powD_i, ltD_i, leD_i, gtD_i, geD_i, eqD_i, eqD_s, eqD_r, neD_i, neD_s, neD_r, isND, notND, negD_i, revD_t, revD_r, lenR_t, listR_t, tupR_t, mListRg, mTupRg, mRg1, mRg2, ipAdd, ipSub, List.map_cons, List.map_nil, List.length_cons, List.length_nil, List.replicate, List.cons_append, List.nil_append, List.append_nil, List.getElem?_cons_zero, List.getElem?_cons_succ, List.set_cons_zero, List.set_cons_succ, Option.some.injEq, exists_eq_left', List.cons.injEq, and_assoc, D.int.injEq, D.bl.injEq, D.str.injEq, D.tup.injEq, D.wtup.injEq, D.flst.injEq, D.ref.injEq, wipeD, Nat.reduceSub, Nat.reduceAdd, true_and, and_true, Bool.false_eq_true, if_false, if_true, exists_and_left, exists_and_right, exists_eq_left, reduceCtorEq, false_and, exists_false, or_false, false_or, exists_const, ite_true, ite_false, ↓reduceIte, Bool.not_true, Bool.not_false, Bool.true_eq_false, Nat.zero_eq, Nat.succ_eq_add_one, Nat.sub_self, Nat.sub_zero, Nat.reduceEqDiff]
            refine setD_i updM_same (by omega) (by rw [List.length_set]; omega) ?_
            rw [updM_updM]
            refine ⟨by have := sizeLine_big; omega, ?_⟩
            simp only [gSb, bodySp, mSeq, mRet, mRetN, mExp, mOp, mUn, mVar, mC, mB, mCons, mNil, mSet, mPar, mPar3, mCall, mTest, mIfS, mIf, mAnd, mOr, mNot, mAndV, mOrV, mNotV, mChain, mNx, mPass, mAsg, gNm, gTp, gsCons, gsNil, mIt, mEnum, mR1, mR2, rk1, rk2, mTup, mLst, mYes, mAug, mSl, mPart, mNoPart, addD_i, addD_t, addD_r, addD_s, subD_i, mulD_i, mulD_r, divD_i, modD_i, powD_i, ltD_i, leD_i, gtD_i, geD_i, eqD_i, eqD_s, eqD_r, neD_i, neD_s, neD_r, isND, notND, negD_i, revD_t, revD_r, lenR_t, listR_t, tupR_t, mListRg, mTupRg, mRg1, mRg2, ipAdd, ipSub, List.map_cons, List.map_nil, List.length_cons, List.length_nil, List.replicate, List.cons_append, List.nil_append, List.append_nil, List.getElem?_cons_zero, List.getElem?_cons_succ, List.set_cons_zero, List.set_cons_succ, Option.some.injEq, exists_eq_left', List.cons.injEq, and_assoc, D.int.injEq, D.bl.injEq, D.str.injEq, D.tup.injEq, D.wtup.injEq, D.flst.injEq, D.ref.injEq, wipeD, Nat.reduceSub, Nat.reduceAdd, true_and, and_true, Bool.false_eq_true, if_false, if_true, exists_and_left, exists_and_right, exists_eq_left, reduceCtorEq, false_and, exists_false, or_false, false_or, exists_const, ite_true, ite_false, ↓reduceIte, Bool.not_true, Bool.not_false, Bool.true_eq_false, Nat.zero_eq, Nat.succ_eq_add_one, Nat.sub_self, Nat.sub_zero, Nat.reduceEqDiff]
            have ma1 : (updM μ3 r (.lst (nI (rst d.length s rest' arr')))) a = some (.lst (nI arr')) := by rw [updM_ne (Ne.symm w3.ra)]; exact w3.ma
            refine setD_i ma1 (by omega) (by omega) ?_
            refine setD_i updM_same (by omega) (by rw [List.length_set]; omega) ?_
            rw [updM_updM]
            simp only [mBML, bodySp, mSeq, mRet, mRetN, mExp, mOp, mUn, mVar, mC, mB, mCons, mNil, mSet, mPar, mPar3, mCall, mTest, mIfS, mIf, mAnd, mOr, mNot, mAndV, mOrV, mNotV, mChain, mNx, mPass, mAsg, gNm, gTp, gsCons, gsNil, mIt, mEnum, mR1, mR2, rk1, rk2, mTup, mLst, mYes, mAug, mSl, mPart, mNoPart, addD_i, addD_t, addD_r, addD_s, subD_i, mulD_i, mulD_r, divD_i, modD_i, powD_i, ltD_i, leD_i, gtD_i, geD_i, eqD_i, eqD_s, eqD_r, neD_i, neD_s, neD_r, isND, notND, negD_i, revD_t, revD_r, lenR_t, listR_t, tupR_t, mListRg, mTupRg, mRg1, mRg2, ipAdd, ipSub, List.map_cons, List.map_nil, List.length_cons, List.length_nil, List.replicate, List.cons_append, List.nil_append, List.append_nil, List.getElem?_cons_zero, List.getElem?_cons_succ, List.set_cons_zero, List.set_cons_succ, Option.some.injEq, exists_eq_left', List.cons.injEq, and_assoc, D.int.injEq, D.bl.injEq, D.str.injEq, D.tup.injEq, D.wtup.injEq, D.flst.injEq, D.ref.injEq, wipeD, Nat.reduceSub, Nat.reduceAdd, true_and, and_true, Bool.false_eq_true, if_false, if_true, exists_and_left, exists_and_right, exists_eq_left, reduceCtorEq, false_and, exists_false, or_false, false_or, exists_const, ite_true, ite_false, ↓reduceIte, Bool.not_true, Bool.not_false, Bool.true_eq_false, Nat.zero_eq, Nat.succ_eq_add_one, Nat.sub_self, Nat.sub_zero, Nat.reduceEqDiff]
            have mf1 : (updM (updM μ3 r (.lst (nI (rst d.length s rest' arr')))) a (.lst (nI (art d.length s arr')))) f = some (.lst (nI fs')) := by
              rw [updM_ne w3.fa, updM_ne (Ne.symm w3.rf)]; exact w3.mf
            have hfl := w3.fl
            refine ⟨⟨_, .inl mf1⟩, appendR_l mf1 (by rw [nI_len]; omega) ?_⟩
            refine hN _ _ ⟨rst d.length s rest' arr', art d.length s arr', fs' ++ [(s : Int)], _, _, _, _, _, rfl, ⟨Ex.over (Ex.over (Ex.over w3.ex w3.r0) w3.a0) w3.f0, w3.r0, w3.f0, w3.a0, w3.rf, w3.ra, w3.fa, ?_, ?_, ?_, hre.1, ?_, .snoc w3.pt hs g1 g2⟩, .inl ?_⟩
            · rw [updM_ne w3.rf, updM_ne w3.ra, updM_same]; rfl
            · rw [updM_same]; simp
            · rw [updM_ne (Ne.symm w3.fa), updM_same]; rfl
            · have := hre.2
              rw [List.length_append]
              simp; omega
            · have := hre.2
              rcases hp3 with hp3 | ⟨rfl, rfl, _⟩ <;> omega
          · rw [if_neg (by simpa using g2)]
            exact same fun z => g2 z.2
        · rw [if_neg (by simpa using g1)]
          exact same fun z => g1 z.1
    · rw [if_neg (fun z => g (hany.mp z))]
      simp only [bodySp, mSeq, mRet, mRetN, mExp, mOp, mUn, mVar, mC, mB, mCons, mNil, mSet, mPar, mPar3, mCall, mTest, mIfS, mIf, mAnd, mOr, mNot, mAndV, mOrV, mNotV, mChain, mNx, mPass, mAsg, gNm, gTp, gsCons, gsNil, mIt, mEnum, mR1, mR2, rk1, rk2, mTup, mLst, mYes, mAug, mSl, mPart, mNoPart, addD_i, addD_t, addD_r, addD_s, subD_i, mulD_i, mulD_r, divD_i, modD_i, powD_i, ltD_i, leD_i, gtD_i, geD_i, eqD_i, eqD_s, eqD_r, neD_i, neD_s, neD_r, isND, notND, negD_i, revD_t, revD_r, lenR_t, listR_t, tupR_t, mListRg, mTupRg, mRg1, mRg2, ipAdd, ipSub, List.map_cons, List.map_nil, List.length_cons, List.length_nil, List.replicate, List.cons_append, List.nil_append, List.append_nil, List.getElem?_cons_zero, List.getElem?_cons_succ, List.set_cons_zero, List.set_cons_succ, Option.some.injEq, exists_eq_left', List.cons.injEq, and_assoc, D.int.injEq, D.bl.injEq, D.str.injEq, D.tup.injEq, D.wtup.injEq, D.flst.injEq, D.ref.injEq, wipeD, Nat.reduceSub, Nat.reduceAdd, true_and, and_true, Bool.false_eq_true, if_false, if_true, exists_and_left, exists_and_right, exists_eq_left, reduceCtorEq, false_and, exists_false, or_false, false_or, exists_const, ite_true, ite_false, ↓reduceIte, Bool.not_true, Bool.not_false, Bool.true_eq_false, Nat.zero_eq, Nat.succ_eq_add_one, Nat.sub_self, Nat.sub_zero, Nat.reduceEqDiff, tupR_r]
      exact ⟨_, .inl w'.mf, h fs _ w'.ex ⟨rest, arr, w'.pt, fun x hx => Classical.byContradiction fun z => g ⟨x, hx, z⟩⟩⟩
end Sw

set_option Elab.async false
set_option linter.all false
set_option maxRecDepth 100000
set_option maxHeartbeats 1000000
namespace Sw
open PySem PySem.Spec L2 DL RM
/-! ### the program's lists and the ring -/
section
variable {d : List Int}
theorem Vd.near (V : Vd d) (c : Int) : -(d.length : Int) < dsp d c ∧ dsp d c < d.length := by
  have hp : (0 : Int) < d.length := by have := V.l3; omega
  have b0 := Int.emod_nonneg c (Int.ne_of_gt hp)
  have b1 := Int.emod_lt_of_pos c hp
  exact V.bd _ (getD_mem (by omega))
theorem Vd.later (V : Vd d) {x z : Int} : z ∈ laterL d x ↔ Inv (E d) x z := by
  rw [mem_later]
  constructor
  · rintro ⟨h1, h2⟩; exact ⟨h1.1, h2⟩
  · rintro ⟨h1, h2⟩
    refine ⟨⟨h1, ?_⟩, h2⟩
    have a := V.near x
    have b := V.near z
    unfold E at h2
    omega
/-- a copy of an inversion that starts among the first -/
theorem Vd.shift (V : Vd d) {x z : Int} (k : Int) : Inv (E d) (x + k * d.length) (z + k * d.length) ↔ Inv (E d) x z := by
  have r := V.rg
  unfold RM.Inv
  rw [r.perz, r.perz]
  constructor <;> (intro h; omega)
theorem emod_split (x : Int) (n : Nat) : x % n = x + -(x / n) * n := by
  have h := Int.emod_add_mul_ediv x n
  have := Int.mul_comm (n : Int) (x / n)
  rw [Int.neg_mul]; omega
theorem tri_in (V : Vd d) : (∃ p ∈ invs d, laterL d p.2 ≠ []) ↔ Tri (E d) := by
  have hp : (0 : Int) < d.length := by have := V.l3; omega
  constructor
  · rintro ⟨⟨x, y⟩, hm, hl⟩
    obtain ⟨z, hz⟩ := List.exists_mem_of_ne_nil _ hl
    exact ⟨x, y, z, V.later.mp (mem_invs.mp hm).2, V.later.mp hz⟩
  · rintro ⟨x, y, z, h1, h2⟩
    refine ⟨(x + -(x / d.length) * d.length, y + -(x / d.length) * d.length), mem_invs.mpr ⟨?_, V.later.mpr ((V.shift _).mpr h1)⟩, fun e => ?_⟩
    · rw [← emod_split]
      exact ⟨Int.emod_nonneg _ (Int.ne_of_gt hp), Int.emod_lt_of_pos _ hp⟩
    · have : z + -(x / d.length) * d.length ∈ laterL d (y + -(x / d.length) * d.length) := V.later.mpr ((V.shift _).mpr h2)
      rw [e] at this
      simp at this
theorem lf_shift (V : Vd d) (x z k : Int) : lf (E d) (x + k * d.length) (z + k * d.length) = lf (E d) x z := by
  have r := V.rg
  unfold lf
  rw [show z + k * (d.length : Int) - (x + k * d.length + 1) = z - (x + 1) by omega]
  unfold cnt
  refine S_congr fun i _ => ?_
  have e : E d (x + k * d.length + 1 + i) = E d (x + 1 + i) + k * d.length := by
    rw [← r.perz]; congr 1; omega
  show (if decide (E d (x + k * d.length + 1 + i) < x + k * d.length + 1 + i) = true then (1 : Int) else 0) = if decide (E d (x + 1 + i) < x + 1 + i) = true then 1 else 0
  rw [e, show decide (E d (x + 1 + i) + k * (d.length : Int) < x + k * d.length + 1 + i) = decide (E d (x + 1 + i) < x + 1 + i) from decide_eq_decide.mpr (by omega)]
theorem Tk_per (rs : List (List Int)) (a b k : Int) : Tk rs (a + k * rs.length) (b + k * rs.length) = Tk rs a b := by
  unfold Tk; simp
theorem Tk_l (rs : List (List Int)) (a b : Int) : Tk rs (a % rs.length) b = Tk rs a b := by
  unfold Tk; rw [Int.emod_emod_of_dvd _ (Int.dvd_refl _)]
theorem refs_ne (V : Vd d) {rs : List (List Int)} (hl : rs.length = d.length) (x z : Int) : refsL rs d x z ≠ [] ↔ (Tk rs (plc (E d) x z) x < Tk rs (plc (E d) x z) z ∨ Tk rs (plc (E d) x z + 1) z < Tk rs (plc (E d) x z + 1) x) := by
  have e0 : ∀ b, Tk rs (plc (E d) x z % d.length) b = Tk rs (plc (E d) x z) b := fun b => by rw [← hl]; exact Tk_l _ _ _
  have e1 : ∀ b, Tk rs ((plc (E d) x z % d.length + 1) % d.length) b = Tk rs (plc (E d) x z + 1) b := fun b => by
    rw [← hl]
    have : (plc (E d) x z % rs.length + 1) % (rs.length : Int) = (plc (E d) x z + 1) % rs.length := by simp
    rw [this]; exact Tk_l _ _ _
  have e2 : refsL rs d x z = (if Tk rs (plc (E d) x z) x < Tk rs (plc (E d) x z) z then [[plc (E d) x z % d.length, x, z, plc (E d) x z % d.length]] else []) ++ (if Tk rs (plc (E d) x z + 1) z < Tk rs (plc (E d) x z + 1) x then [[plc (E d) x z % d.length, x, z, (plc (E d) x z % d.length + 1) % d.length]] else []) := by
    unfold refsL
    simp only [e0, e1]
  rw [e2]
  by_cases a : Tk rs (plc (E d) x z) x < Tk rs (plc (E d) x z) z
  · simp [a]
  · by_cases b : Tk rs (plc (E d) x z + 1) z < Tk rs (plc (E d) x z + 1) x
    · simp [a, b]
    · simp [a, b]
theorem ref_in (V : Vd d) {rs : List (List Int)} (hl : rs.length = d.length) : (∃ p ∈ invs d, refsL rs d p.1 p.2 ≠ []) ↔ Ref (Tk rs) (E d) := by
  have hp : (0 : Int) < d.length := by have := V.l3; omega
  constructor
  · rintro ⟨⟨x, z⟩, hm, hr⟩
    exact ⟨x, z, V.later.mp (mem_invs.mp hm).2, (refs_ne V hl x z).mp hr⟩
  · rintro ⟨x, z, h, hr⟩
    refine ⟨(x + -(x / d.length) * d.length, z + -(x / d.length) * d.length), mem_invs.mpr ⟨?_, V.later.mpr ((V.shift _).mpr h)⟩, (refs_ne V hl _ _).mpr ?_⟩
    · rw [← emod_split]
      exact ⟨Int.emod_nonneg _ (Int.ne_of_gt hp), Int.emod_lt_of_pos _ hp⟩
    · generalize -(x / (d.length : Int)) = k
      have e : plc (E d) (x + k * d.length) (z + k * d.length) = plc (E d) x z + k * d.length := by unfold plc; rw [lf_shift V]; omega
      have e1 : plc (E d) x z + k * (d.length : Int) + 1 = (plc (E d) x z + 1) + k * d.length := by omega
      rw [e, e1, ← hl, Tk_per, Tk_per, Tk_per, Tk_per]
      exact hr
end
/-! ### the decision -/
open Classical in
/-- its word -/
noncomputable def wordS (rs : List (List Int)) (d : List Int) : Str := if Tri (E d) then "triple" else if Ref (Tk rs) (E d) then "refused" else "sequence"
/-- what the reply says beside the word -/
def DecV (rs : List (List Int)) (d : List Int) (v : D) : Prop :=
  (Tri (E d) ∧ ∃ x y z, v = tI [x, y, z] ∧ (x, y) ∈ invs d ∧ z ∈ laterL d y) ∨
  (¬ Tri (E d) ∧ Ref (Tk rs) (E d) ∧ ∃ x z l, v = tI l ∧ l ∈ refsL rs d x z ∧ (x, z) ∈ invs d) ∨
  (¬ Tri (E d) ∧ ¬ Ref (Tk rs) (E d) ∧ ∃ s, v = tI s ∧ EndP d s)
theorem plains_tI : ∀ l : List (List Int), plains (l.map tI) = true
  | [] => rfl
  | a :: t => by
    rw [List.map_cons]
    simp only [plains, DL.plain, Bool.and_eq_true]
    exact ⟨plains_ints a, plains_tI t⟩
theorem deps_tI : ∀ l : List (List Int), deps (l.map tI) ≤ 3 := fun l => by
  induction l with
  | nil => decide
  | cons a t ih =>
    have h := deps_nI a
    unfold deps at ih h ⊢
    simp only [List.map_cons, pys, py, PyData.depthAll, PyData.depth] at ih h ⊢
    omega
def sp_decide_there : DSp := fun ds μ RX R => ∃ (rs : List (List Int)) (d : List Int), ds = [.tup (rs.map tI), tI d] ∧ ((∀ l ∈ rs, Rk l rs.length) ∧ rs.length = d.length ∧ Vd d) ∧ ∀ v μ', Ex μ μ' → DecV rs d v → R (.tup [.str (wordS rs d), v]) μ'
def t_decide_there : DS :=
  (mSeq (mSet 2 (mCall sp_triple_there [] (mCons (mVar 1) mNil)))
  (mSeq (mIfS (mTest (mOp notND (mVar 2) (mC .non)))
  (mRet (mTup (mCons (mC (.str "triple")) (mCons (mVar 2) mNil))))
  mNx)
  (mSeq (mSet 3 (mCall sp_rank_tables [] (mCons (mVar 0) mNil)))
  (mSeq (mFor (mIt (mCall sp_inversions_there [] (mCons (mVar 1) mNil))) (gTp 2 (gsCons (gNm 4) (gsCons (gNm 5) gsNil)))
  (mSeq (mSet 6 (mCall sp_refusals_there [] (mCons (mVar 3) (mCons (mVar 1) (mCons (mVar 4) (mCons (mVar 5) mNil))))))
  (mIfS (mTest (mOp neD (mVar 6) (mLst mNil)))
  (mRet (mTup (mCons (mC (.str "refused")) (mCons (mOp ixD (mVar 6) (mC (.int 0))) mNil))))
  mNx)))
  (mRet (mTup (mCons (mC (.str "sequence")) (mCons (mCall sp_sequence_for [] (mCons (mVar 1) mNil)) mNil))))))))
abbrev N_decide_there : List Str := ["rankings", "displacements", "triple", "tables", "x", "z", "found"]
abbrev P_decide_there : List Str := ["rankings", "displacements"]
theorem law_decide_there : ∀ ds μ RX R, sp_decide_there ds μ RX R → bodySp P_decide_there.length N_decide_there.length t_decide_there ds μ RX R := by
  rintro _ μ RX R ⟨rs, d, rfl, ⟨hr, hl, V⟩, h⟩
  have h3 := V.l3
  have h20 := V.l20
  refine ⟨rfl, ?_⟩
  simp only [t_decide_there, bodySp, mSeq, mRet, mRetN, mExp, mOp, mUn, mVar, mC, mB, mCons, mNil, mSet, mPar, mPar3, mCall, mTest, mIfS, mIf, mAnd, mOr, mNot, mAndV, mOrV, mNotV, mChain, mNx, mPass, mAsg, gNm, gTp, gsCons, gsNil, mIt, mEnum, mR1, mR2, rk1, rk2, mTup, mLst, mYes, mAug, mSl, mPart, mNoPart, addD_i, addD_t, addD_r, addD_s, subD_i, mulD_i, mulD_r, divD_i, modD_i, powD_i, ltD_i, leD_i, gtD_i, geD_i, eqD_i, eqD_s, eqD_r, neD_i, neD_s, neD_r, isND, notND, negD_i, revD_t, revD_r, lenR_t, listR_t, tupR_t, mListRg, mTupRg, mRg1, mRg2, ipAdd, ipSub, List.map_cons, List.map_nil, List.length_cons, List.length_nil, List.replicate, List.cons_append, List.nil_append, List.append_nil, List.getElem?_cons_zero, List.getElem?_cons_succ, List.set_cons_zero, List.set_cons_succ, Option.some.injEq, exists_eq_left', List.cons.injEq, and_assoc, D.int.injEq, D.bl.injEq, D.str.injEq, D.tup.injEq, D.wtup.injEq, D.flst.injEq, D.ref.injEq, wipeD, Nat.reduceSub, Nat.reduceAdd, true_and, and_true, Bool.false_eq_true, if_false, if_true, exists_and_left, exists_and_right, exists_eq_left, reduceCtorEq, false_and, exists_false, or_false, false_or, exists_const, ite_true, ite_false, ↓reduceIte, Bool.not_true, Bool.not_false, Bool.true_eq_false, Nat.zero_eq, Nat.succ_eq_add_one, Nat.sub_self, Nat.sub_zero, Nat.reduceEqDiff]
  refine ⟨d, rfl, ⟨by omega, by omega⟩, fun x y z μ1 hE1 hm hz => ?_, fun hno μ1 hE1 => ?_⟩
  · simp only [isNoneB, bodySp, mSeq, mRet, mRetN, mExp, mOp, mUn, mVar, mC, mB, mCons, mNil, mSet, mPar, mPar3, mCall, mTest, mIfS, mIf, mAnd, mOr, mNot, mAndV, mOrV, mNotV, mChain, mNx, mPass, mAsg, gNm, gTp, gsCons, gsNil, mIt, mEnum, mR1, mR2, rk1, rk2, mTup, mLst, mYes, mAug, mSl, mPart, mNoPart, addD_i, addD_t, addD_r, addD_s, subD_i, mulD_i, mulD_r, divD_i, modD_i, powD_i, ltD_i, leD_i, gtD_i, geD_i, eqD_i, eqD_s, eqD_r, neD_i, neD_s, neD_r, isND, notND, negD_i, revD_t, revD_r, lenR_t, listR_t, tupR_t, mListRg, mTupRg, mRg1, mRg2, ipAdd, ipSub, List.map_cons, List.map_nil, List.length_cons, List.length_nil, List.replicate, List.cons_append, List.nil_append, List.append_nil, List.getElem?_cons_zero, List.getElem?_cons_succ, List.set_cons_zero, List.set_cons_succ, Option.some.injEq, exists_eq_left', List.cons.injEq, and_assoc, D.int.injEq, D.bl.injEq, D.str.injEq, D.tup.injEq, D.wtup.injEq, D.flst.injEq, D.ref.injEq, wipeD, Nat.reduceSub, Nat.reduceAdd, true_and, and_true, Bool.false_eq_true, if_false, if_true, exists_and_left, exists_and_right, exists_eq_left, reduceCtorEq, false_and, exists_false, or_false, false_or, exists_const, ite_true, ite_false, ↓reduceIte, Bool.not_true, Bool.not_false, Bool.true_eq_false, Nat.zero_eq, Nat.succ_eq_add_one, Nat.sub_self, Nat.sub_zero, Nat.reduceEqDiff]
    refine ⟨by have := sizeLine_big; omega, ?_⟩
    have t : Tri (E d) := (tri_in V).mp ⟨_, hm, fun e => by rw [e] at hz; simp at hz⟩
    have e : wordS rs d = "triple" := if_pos t
    rw [← e]
    exact h _ _ hE1 (.inl ⟨t, x, y, z, rfl, hm, hz⟩)
  · simp only [isNoneB, bodySp, mSeq, mRet, mRetN, mExp, mOp, mUn, mVar, mC, mB, mCons, mNil, mSet, mPar, mPar3, mCall, mTest, mIfS, mIf, mAnd, mOr, mNot, mAndV, mOrV, mNotV, mChain, mNx, mPass, mAsg, gNm, gTp, gsCons, gsNil, mIt, mEnum, mR1, mR2, rk1, rk2, mTup, mLst, mYes, mAug, mSl, mPart, mNoPart, addD_i, addD_t, addD_r, addD_s, subD_i, mulD_i, mulD_r, divD_i, modD_i, powD_i, ltD_i, leD_i, gtD_i, geD_i, eqD_i, eqD_s, eqD_r, neD_i, neD_s, neD_r, isND, notND, negD_i, revD_t, revD_r, lenR_t, listR_t, tupR_t, mListRg, mTupRg, mRg1, mRg2, ipAdd, ipSub, List.map_cons, List.map_nil, List.length_cons, List.length_nil, List.replicate, List.cons_append, List.nil_append, List.append_nil, List.getElem?_cons_zero, List.getElem?_cons_succ, List.set_cons_zero, List.set_cons_succ, Option.some.injEq, exists_eq_left', List.cons.injEq, and_assoc, D.int.injEq, D.bl.injEq, D.str.injEq, D.tup.injEq, D.wtup.injEq, D.flst.injEq, D.ref.injEq, wipeD, Nat.reduceSub, Nat.reduceAdd, true_and, and_true, Bool.false_eq_true, if_false, if_true, exists_and_left, exists_and_right, exists_eq_left, reduceCtorEq, false_and, exists_false, or_false, false_or, exists_const, ite_true, ite_false, ↓reduceIte, Bool.not_true, Bool.not_false, Bool.true_eq_false, Nat.zero_eq, Nat.succ_eq_add_one, Nat.sub_self, Nat.sub_zero, Nat.reduceEqDiff]
    have nt : ¬ Tri (E d) := fun t => by
      obtain ⟨p, hp, hne⟩ := (tri_in V).mpr t
      exact hne (hno p hp)
    refine ⟨rs, rfl, ⟨hr, by omega⟩, fun tp μ2 hE2 hT => ?_⟩
    simp only [mFor, bodySp, mSeq, mRet, mRetN, mExp, mOp, mUn, mVar, mC, mB, mCons, mNil, mSet, mPar, mPar3, mCall, mTest, mIfS, mIf, mAnd, mOr, mNot, mAndV, mOrV, mNotV, mChain, mNx, mPass, mAsg, gNm, gTp, gsCons, gsNil, mIt, mEnum, mR1, mR2, rk1, rk2, mTup, mLst, mYes, mAug, mSl, mPart, mNoPart, addD_i, addD_t, addD_r, addD_s, subD_i, mulD_i, mulD_r, divD_i, modD_i, powD_i, ltD_i, leD_i, gtD_i, geD_i, eqD_i, eqD_s, eqD_r, neD_i, neD_s, neD_r, isND, notND, negD_i, revD_t, revD_r, lenR_t, listR_t, tupR_t, mListRg, mTupRg, mRg1, mRg2, ipAdd, ipSub, List.map_cons, List.map_nil, List.length_cons, List.length_nil, List.replicate, List.cons_append, List.nil_append, List.append_nil, List.getElem?_cons_zero, List.getElem?_cons_succ, List.set_cons_zero, List.set_cons_succ, Option.some.injEq, exists_eq_left', List.cons.injEq, and_assoc, D.int.injEq, D.bl.injEq, D.str.injEq, D.tup.injEq, D.wtup.injEq, D.flst.injEq, D.ref.injEq, wipeD, Nat.reduceSub, Nat.reduceAdd, true_and, and_true, Bool.false_eq_true, if_false, if_true, exists_and_left, exists_and_right, exists_eq_left, reduceCtorEq, false_and, exists_false, or_false, false_or, exists_const, ite_true, ite_false, ↓reduceIte, Bool.not_true, Bool.not_false, Bool.true_eq_false, Nat.zero_eq, Nat.succ_eq_add_one, Nat.sub_self, Nat.sub_zero, Nat.reduceEqDiff]
    refine ⟨d, rfl, ⟨by omega, by omega⟩, fun q μ3 hq hE3 hm3 => ?_⟩
    simp only [bodySp, mSeq, mRet, mRetN, mExp, mOp, mUn, mVar, mC, mB, mCons, mNil, mSet, mPar, mPar3, mCall, mTest, mIfS, mIf, mAnd, mOr, mNot, mAndV, mOrV, mNotV, mChain, mNx, mPass, mAsg, gNm, gTp, gsCons, gsNil, mIt, mEnum, mR1, mR2, rk1, rk2, mTup, mLst, mYes, mAug, mSl, mPart, mNoPart, addD_i, addD_t, addD_r, addD_s, subD_i, mulD_i, mulD_r, divD_i, modD_i, powD_i, ltD_i, leD_i, gtD_i, geD_i, eqD_i, eqD_s, eqD_r, neD_i, neD_s, neD_r, isND, notND, negD_i, revD_t, revD_r, lenR_t, listR_t, tupR_t, mListRg, mTupRg, mRg1, mRg2, ipAdd, ipSub, List.map_cons, List.map_nil, List.length_cons, List.length_nil, List.replicate, List.cons_append, List.nil_append, List.append_nil, List.getElem?_cons_zero, List.getElem?_cons_succ, List.set_cons_zero, List.set_cons_succ, Option.some.injEq, exists_eq_left', List.cons.injEq, and_assoc, D.int.injEq, D.bl.injEq, D.str.injEq, D.tup.injEq, D.wtup.injEq, D.flst.injEq, D.ref.injEq, wipeD, Nat.reduceSub, Nat.reduceAdd, true_and, and_true, Bool.false_eq_true, if_false, if_true, exists_and_left, exists_and_right, exists_eq_left, reduceCtorEq, false_and, exists_false, or_false, false_or, exists_const, ite_true, ite_false, ↓reduceIte, Bool.not_true, Bool.not_false, Bool.true_eq_false, Nat.zero_eq, Nat.succ_eq_add_one, Nat.sub_self, Nat.sub_zero, Nat.reduceEqDiff]
    refine ⟨_, .inl hm3, ?_⟩
    have hE13 : Ex μ μ3 := hE1.trans (hE2.trans hE3)
    refine forD_ix _ (fun k δ μ' => ∃ o4 o5 o6, δ = [some (.tup (rs.map tI)), some (tI d), some .non, some (.ref tp), o4, o5, o6] ∧ Ex μ3 μ' ∧ ∀ p ∈ (invs d).take k, refsL rs d p.1 p.2 = []) (fun k δ μ' ⟨_, _, _, _, hE, _⟩ => .inl (hE.at hm3)) ?_ ?_ _ _ ⟨_, _, _, rfl, Ex.refl, by simp⟩
    · rintro _ μ' ⟨o4, o5, o6, rfl, hE, hall⟩
      simp only [bodySp, mSeq, mRet, mRetN, mExp, mOp, mUn, mVar, mC, mB, mCons, mNil, mSet, mPar, mPar3, mCall, mTest, mIfS, mIf, mAnd, mOr, mNot, mAndV, mOrV, mNotV, mChain, mNx, mPass, mAsg, gNm, gTp, gsCons, gsNil, mIt, mEnum, mR1, mR2, rk1, rk2, mTup, mLst, mYes, mAug, mSl, mPart, mNoPart, addD_i, addD_t, addD_r, addD_s, subD_i, mulD_i, mulD_r, divD_i, modD_i, powD_i, ltD_i, leD_i, gtD_i, geD_i, eqD_i, eqD_s, eqD_r, neD_i, neD_s, neD_r, isND, notND, negD_i, revD_t, revD_r, lenR_t, listR_t, tupR_t, mListRg, mTupRg, mRg1, mRg2, ipAdd, ipSub, List.map_cons, List.map_nil, List.length_cons, List.length_nil, List.replicate, List.cons_append, List.nil_append, List.append_nil, List.getElem?_cons_zero, List.getElem?_cons_succ, List.set_cons_zero, List.set_cons_succ, Option.some.injEq, exists_eq_left', List.cons.injEq, and_assoc, D.int.injEq, D.bl.injEq, D.str.injEq, D.tup.injEq, D.wtup.injEq, D.flst.injEq, D.ref.injEq, wipeD, Nat.reduceSub, Nat.reduceAdd, true_and, and_true, Bool.false_eq_true, if_false, if_true, exists_and_left, exists_and_right, exists_eq_left, reduceCtorEq, false_and, exists_false, or_false, false_or, exists_const, ite_true, ite_false, ↓reduceIte, Bool.not_true, Bool.not_false, Bool.true_eq_false, Nat.zero_eq, Nat.succ_eq_add_one, Nat.sub_self, Nat.sub_zero, Nat.reduceEqDiff]
      have nr : ¬ Ref (Tk rs) (E d) := fun t => by
        obtain ⟨p, hp, hne⟩ := (ref_in V hl).mpr t
        refine hne (hall p ?_)
        rw [List.take_of_length_le (by simp [prs])]; exact hp
      refine ⟨d, rfl, ⟨V, nt⟩, fun s μ4 hE4 hep => ⟨by have := sizeLine_big; omega, ?_⟩⟩
      have e : wordS rs d = "sequence" := by unfold wordS; rw [if_neg nt, if_neg nr]
      rw [← e]
      exact h _ _ (hE13.trans (hE.trans hE4)) (.inr (.inr ⟨nt, nr, s, rfl, hep⟩))
    · rintro k x _ μ' N hx hN ⟨o4, o5, o6, rfl, hE, hall⟩
      unfold prs at hx
      rw [List.getElem?_map] at hx
      cases hp : (invs d)[k]? with
      | none => rw [hp] at hx; cases hx
      | some p =>
        obtain ⟨px, pz⟩ := p
        rw [hp] at hx
        cases hx
        have hmem := List.mem_of_getElem? hp
        have hm2 := mem_invs.mp hmem
        have hm4 := mem_later.mp hm2.2
        simp only [bodySp, mSeq, mRet, mRetN, mExp, mOp, mUn, mVar, mC, mB, mCons, mNil, mSet, mPar, mPar3, mCall, mTest, mIfS, mIf, mAnd, mOr, mNot, mAndV, mOrV, mNotV, mChain, mNx, mPass, mAsg, gNm, gTp, gsCons, gsNil, mIt, mEnum, mR1, mR2, rk1, rk2, mTup, mLst, mYes, mAug, mSl, mPart, mNoPart, addD_i, addD_t, addD_r, addD_s, subD_i, mulD_i, mulD_r, divD_i, modD_i, powD_i, ltD_i, leD_i, gtD_i, geD_i, eqD_i, eqD_s, eqD_r, neD_i, neD_s, neD_r, isND, notND, negD_i, revD_t, revD_r, lenR_t, listR_t, tupR_t, mListRg, mTupRg, mRg1, mRg2, ipAdd, ipSub, List.map_cons, List.map_nil, List.length_cons, List.length_nil, List.replicate, List.cons_append, List.nil_append, List.append_nil, List.getElem?_cons_zero, List.getElem?_cons_succ, List.set_cons_zero, List.set_cons_succ, Option.some.injEq, exists_eq_left', List.cons.injEq, and_assoc, D.int.injEq, D.bl.injEq, D.str.injEq, D.tup.injEq, D.wtup.injEq, D.flst.injEq, D.ref.injEq, wipeD, Nat.reduceSub, Nat.reduceAdd, true_and, and_true, Bool.false_eq_true, if_false, if_true, exists_and_left, exists_and_right, exists_eq_left, reduceCtorEq, false_and, exists_false, or_false, false_or, exists_const, ite_true, ite_false, ↓reduceIte, Bool.not_true, Bool.not_false, Bool.true_eq_false, Nat.zero_eq, Nat.succ_eq_add_one, Nat.sub_self, Nat.sub_zero, Nat.reduceEqDiff, pairD]
        refine ⟨tp, rs, d, px, pz, rfl, hT.ex (hE3.trans hE), ⟨hr, hl, by omega, by omega⟩, by omega, fun r μ4 hE4 hm5 => ?_⟩
        simp only [bodySp, mSeq, mRet, mRetN, mExp, mOp, mUn, mVar, mC, mB, mCons, mNil, mSet, mPar, mPar3, mCall, mTest, mIfS, mIf, mAnd, mOr, mNot, mAndV, mOrV, mNotV, mChain, mNx, mPass, mAsg, gNm, gTp, gsCons, gsNil, mIt, mEnum, mR1, mR2, rk1, rk2, mTup, mLst, mYes, mAug, mSl, mPart, mNoPart, addD_i, addD_t, addD_r, addD_s, subD_i, mulD_i, mulD_r, divD_i, modD_i, powD_i, ltD_i, leD_i, gtD_i, geD_i, eqD_i, eqD_s, eqD_r, neD_i, neD_s, neD_r, isND, notND, negD_i, revD_t, revD_r, lenR_t, listR_t, tupR_t, mListRg, mTupRg, mRg1, mRg2, ipAdd, ipSub, List.map_cons, List.map_nil, List.length_cons, List.length_nil, List.replicate, List.cons_append, List.nil_append, List.append_nil, List.getElem?_cons_zero, List.getElem?_cons_succ, List.set_cons_zero, List.set_cons_succ, Option.some.injEq, exists_eq_left', List.cons.injEq, and_assoc, D.int.injEq, D.bl.injEq, D.str.injEq, D.tup.injEq, D.wtup.injEq, D.flst.injEq, D.ref.injEq, wipeD, Nat.reduceSub, Nat.reduceAdd, true_and, and_true, Bool.false_eq_true, if_false, if_true, exists_and_left, exists_and_right, exists_eq_left, reduceCtorEq, false_and, exists_false, or_false, false_or, exists_const, ite_true, ite_false, ↓reduceIte, Bool.not_true, Bool.not_false, Bool.true_eq_false, Nat.zero_eq, Nat.succ_eq_add_one, Nat.sub_self, Nat.sub_zero, Nat.reduceEqDiff]
        refine ⟨by omega, fun e he => ⟨_, .inl (by rw [updM_ne (mu_ne hm5 he)]; exact hm5), [], .inl updM_same, plains_tI _, rfl, by have := deps_tI (refsL rs d px pz); omega, by decide, ?_⟩⟩
        rw [beqs_nil]
        cases hrl : refsL rs d px pz with
        | nil =>
          simp only [List.map_nil, List.isEmpty_nil, bodySp, mSeq, mRet, mRetN, mExp, mOp, mUn, mVar, mC, mB, mCons, mNil, mSet, mPar, mPar3, mCall, mTest, mIfS, mIf, mAnd, mOr, mNot, mAndV, mOrV, mNotV, mChain, mNx, mPass, mAsg, gNm, gTp, gsCons, gsNil, mIt, mEnum, mR1, mR2, rk1, rk2, mTup, mLst, mYes, mAug, mSl, mPart, mNoPart, addD_i, addD_t, addD_r, addD_s, subD_i, mulD_i, mulD_r, divD_i, modD_i, powD_i, ltD_i, leD_i, gtD_i, geD_i, eqD_i, eqD_s, eqD_r, neD_i, neD_s, neD_r, isND, notND, negD_i, revD_t, revD_r, lenR_t, listR_t, tupR_t, mListRg, mTupRg, mRg1, mRg2, ipAdd, ipSub, List.map_cons, List.map_nil, List.length_cons, List.length_nil, List.replicate, List.cons_append, List.nil_append, List.append_nil, List.getElem?_cons_zero, List.getElem?_cons_succ, List.set_cons_zero, List.set_cons_succ, Option.some.injEq, exists_eq_left', List.cons.injEq, and_assoc, D.int.injEq, D.bl.injEq, D.str.injEq, D.tup.injEq, D.wtup.injEq, D.flst.injEq, D.ref.injEq, wipeD, Nat.reduceSub, Nat.reduceAdd, true_and, and_true, Bool.false_eq_true, if_false, if_true, exists_and_left, exists_and_right, exists_eq_left, reduceCtorEq, false_and, exists_false, or_false, false_or, exists_const, ite_true, ite_false, ↓reduceIte, Bool.not_true, Bool.not_false, Bool.true_eq_false, Nat.zero_eq, Nat.succ_eq_add_one, Nat.sub_self, Nat.sub_zero, Nat.reduceEqDiff]
          refine hN _ _ ⟨_, _, _, rfl, hE.trans (hE4.trans (Ex.new he)), fun p hp' => ?_⟩
          rw [List.take_add_one, hp] at hp'
          rcases List.mem_append.mp hp' with z | z
          · exact hall p z
          · simp at z
            rw [z]; exact hrl
        | cons z t =>
          simp only [List.map_cons, List.isEmpty_cons, bodySp, mSeq, mRet, mRetN, mExp, mOp, mUn, mVar, mC, mB, mCons, mNil, mSet, mPar, mPar3, mCall, mTest, mIfS, mIf, mAnd, mOr, mNot, mAndV, mOrV, mNotV, mChain, mNx, mPass, mAsg, gNm, gTp, gsCons, gsNil, mIt, mEnum, mR1, mR2, rk1, rk2, mTup, mLst, mYes, mAug, mSl, mPart, mNoPart, addD_i, addD_t, addD_r, addD_s, subD_i, mulD_i, mulD_r, divD_i, modD_i, powD_i, ltD_i, leD_i, gtD_i, geD_i, eqD_i, eqD_s, eqD_r, neD_i, neD_s, neD_r, isND, notND, negD_i, revD_t, revD_r, lenR_t, listR_t, tupR_t, mListRg, mTupRg, mRg1, mRg2, ipAdd, ipSub, List.map_cons, List.map_nil, List.length_cons, List.length_nil, List.replicate, List.cons_append, List.nil_append, List.append_nil, List.getElem?_cons_zero, List.getElem?_cons_succ, List.set_cons_zero, List.set_cons_succ, Option.some.injEq, exists_eq_left', List.cons.injEq, and_assoc, D.int.injEq, D.bl.injEq, D.str.injEq, D.tup.injEq, D.wtup.injEq, D.flst.injEq, D.ref.injEq, wipeD, Nat.reduceSub, Nat.reduceAdd, true_and, and_true, Bool.false_eq_true, if_false, if_true, exists_and_left, exists_and_right, exists_eq_left, reduceCtorEq, false_and, exists_false, or_false, false_or, exists_const, ite_true, ite_false, ↓reduceIte, Bool.not_true, Bool.not_false, Bool.true_eq_false, Nat.zero_eq, Nat.succ_eq_add_one, Nat.sub_self, Nat.sub_zero, Nat.reduceEqDiff]
          rw [ixD_l (.inl (by rw [updM_ne (mu_ne hm5 he)]; exact hm5)) (d := tI z) (atI_nat (by omega) (by rw [hrl]; rfl))]
          refine ⟨by have := sizeLine_big; omega, ?_⟩
          have nr : Ref (Tk rs) (E d) := (ref_in V hl).mp ⟨_, hmem, by rw [hrl]; simp⟩
          have e : wordS rs d = "refused" := by unfold wordS; rw [if_neg nt, if_pos nr]
          rw [← e]
          exact h _ _ (hE13.trans (hE.trans (hE4.trans (Ex.new he)))) (.inr (.inl ⟨nt, nr, px, pz, z, rfl, by rw [hrl]; exact List.mem_cons_self, hmem⟩))
def sp_decide_ring : DSp := sp_decide_there
def t_decide_ring : DS :=
  (mSeq (mExp (mCall sp_check_both [] (mCons (mVar 0) (mCons (mVar 1) mNil))))
  (mRet (mCall sp_decide_there [] (mCons (mVar 0) (mCons (mVar 1) mNil)))))
abbrev N_decide_ring : List Str := ["rankings", "displacements"]
abbrev P_decide_ring : List Str := ["rankings", "displacements"]
theorem law_decide_ring : ∀ ds μ RX R, sp_decide_ring ds μ RX R → bodySp P_decide_ring.length N_decide_ring.length t_decide_ring ds μ RX R := by
  rintro _ μ RX R ⟨rs, d, rfl, ⟨hr, hl, V⟩, h⟩
  refine ⟨rfl, ?_⟩
  simp only [t_decide_ring, bodySp, mSeq, mRet, mRetN, mExp, mOp, mUn, mVar, mC, mB, mCons, mNil, mSet, mPar, mPar3, mCall, mTest, mIfS, mIf, mAnd, mOr, mNot, mAndV, mOrV, mNotV, mChain, mNx, mPass, mAsg, gNm, gTp, gsCons, gsNil, mIt, mEnum, mR1, mR2, rk1, rk2, mTup, mLst, mYes, mAug, mSl, mPart, mNoPart, addD_i, addD_t, addD_r, addD_s, subD_i, mulD_i, mulD_r, divD_i, modD_i, powD_i, ltD_i, leD_i, gtD_i, geD_i, eqD_i, eqD_s, eqD_r, neD_i, neD_s, neD_r, isND, notND, negD_i, revD_t, revD_r, lenR_t, listR_t, tupR_t, mListRg, mTupRg, mRg1, mRg2, ipAdd, ipSub, List.map_cons, List.map_nil, List.length_cons, List.length_nil, List.replicate, List.cons_append, List.nil_append, List.append_nil, List.getElem?_cons_zero, List.getElem?_cons_succ, List.set_cons_zero, List.set_cons_succ, Option.some.injEq, exists_eq_left', List.cons.injEq, and_assoc, D.int.injEq, D.bl.injEq, D.str.injEq, D.tup.injEq, D.wtup.injEq, D.flst.injEq, D.ref.injEq, wipeD, Nat.reduceSub, Nat.reduceAdd, true_and, and_true, Bool.false_eq_true, if_false, if_true, exists_and_left, exists_and_right, exists_eq_left, reduceCtorEq, false_and, exists_false, or_false, false_or, exists_const, ite_true, ite_false, ↓reduceIte, Bool.not_true, Bool.not_false, Bool.true_eq_false, Nat.zero_eq, Nat.succ_eq_add_one, Nat.sub_self, Nat.sub_zero, Nat.reduceEqDiff]
  refine ⟨rs, d, rfl, ⟨hr, hl, V⟩, fun μ1 hE1 => ?_⟩
  simp only [bodySp, mSeq, mRet, mRetN, mExp, mOp, mUn, mVar, mC, mB, mCons, mNil, mSet, mPar, mPar3, mCall, mTest, mIfS, mIf, mAnd, mOr, mNot, mAndV, mOrV, mNotV, mChain, mNx, mPass, mAsg, gNm, gTp, gsCons, gsNil, mIt, mEnum, mR1, mR2, rk1, rk2, mTup, mLst, mYes, mAug, mSl, mPart, mNoPart, addD_i, addD_t, addD_r, addD_s, subD_i, mulD_i, mulD_r, divD_i, modD_i, powD_i, ltD_i, leD_i, gtD_i, geD_i, eqD_i, eqD_s, eqD_r, neD_i, neD_s, neD_r, isND, notND, negD_i, revD_t, revD_r, lenR_t, listR_t, tupR_t, mListRg, mTupRg, mRg1, mRg2, ipAdd, ipSub, List.map_cons, List.map_nil, List.length_cons, List.length_nil, List.replicate, List.cons_append, List.nil_append, List.append_nil, List.getElem?_cons_zero, List.getElem?_cons_succ, List.set_cons_zero, List.set_cons_succ, Option.some.injEq, exists_eq_left', List.cons.injEq, and_assoc, D.int.injEq, D.bl.injEq, D.str.injEq, D.tup.injEq, D.wtup.injEq, D.flst.injEq, D.ref.injEq, wipeD, Nat.reduceSub, Nat.reduceAdd, true_and, and_true, Bool.false_eq_true, if_false, if_true, exists_and_left, exists_and_right, exists_eq_left, reduceCtorEq, false_and, exists_false, or_false, false_or, exists_const, ite_true, ite_false, ↓reduceIte, Bool.not_true, Bool.not_false, Bool.true_eq_false, Nat.zero_eq, Nat.succ_eq_add_one, Nat.sub_self, Nat.sub_zero, Nat.reduceEqDiff]
  exact ⟨rs, d, rfl, ⟨hr, hl, V⟩, fun v μ2 hE2 hv => h v μ2 (hE1.trans hE2) hv⟩
end Sw

set_option Elab.async false
set_option linter.all false
set_option maxRecDepth 100000
set_option maxHeartbeats 1000000
namespace Sw
open PySem PySem.Spec L2 DL RM
/-! ### the law's own draws -/
def sp_law_mixed : DSp := fun ds μ RX R => ∃ c n : Int, ds = [.int c, .int n] ∧ (0 ≤ c ∧ c < 1099511627776 ∧ 0 ≤ n ∧ n < 1099511627776) ∧ ∀ v, 0 ≤ v → v < 2147483647 → R (.int v) μ
def t_law_mixed : DS :=
  (mSeq (mSet 2 (mOp addD (mOp addD (mOp modD (mOp mulD (mOp mulD (mVar 0) (mOp addD (mC (.int 1)) (mOp mulD (mC (.int 2)) (mVar 1)))) (mC (.int 48271))) (mC (.int 2147483647))) (mOp mulD (mOp mulD (mC (.int 7919)) (mVar 1)) (mVar 1))) (mOp mulD (mC (.int 104729)) (mVar 1))))
  (mRet (mOp divD (mOp modD (mOp mulD (mVar 2) (mC (.int 69621))) (mC (.int 2147483629))) (mC (.int 7)))))
abbrev N_law_mixed : List Str := ["_law_cell", "_law_n", "_law_turned"]
abbrev P_law_mixed : List Str := ["_law_cell", "_law_n"]
theorem law_law_mixed : ∀ ds μ RX R, sp_law_mixed ds μ RX R → bodySp P_law_mixed.length N_law_mixed.length t_law_mixed ds μ RX R := by
  rintro _ μ RX R ⟨c, n, rfl, ⟨c0, c1, n0, n1⟩, h⟩
  refine ⟨rfl, ?_⟩
  simp only [t_law_mixed, bodySp, mSeq, mRet, mRetN, mExp, mOp, mUn, mVar, mC, mB, mCons, mNil, mSet, mPar, mPar3, mCall, mTest, mIfS, mIf, mAnd, mOr, mNot, mAndV, mOrV, mNotV, mChain, mNx, mPass, mAsg, gNm, gTp, gsCons, gsNil, mIt, mEnum, mR1, mR2, rk1, rk2, mTup, mLst, mYes, mAug, mSl, mPart, mNoPart, addD_i, addD_t, addD_r, addD_s, subD_i, mulD_i, mulD_r, divD_i, modD_i, powD_i, ltD_i, leD_i, gtD_i, geD_i, eqD_i, eqD_s, eqD_r, neD_i, neD_s, neD_r, isND, notND, negD_i, revD_t, revD_r, lenR_t, listR_t, tupR_t, mListRg, mTupRg, mRg1, mRg2, ipAdd, ipSub, List.map_cons, List.map_nil, List.length_cons, List.length_nil, List.replicate, List.cons_append, List.nil_append, List.append_nil, List.getElem?_cons_zero, List.getElem?_cons_succ, List.set_cons_zero, List.set_cons_succ, Option.some.injEq, exists_eq_left', List.cons.injEq, and_assoc, D.int.injEq, D.bl.injEq, D.str.injEq, D.tup.injEq, D.wtup.injEq, D.flst.injEq, D.ref.injEq, wipeD, Nat.reduceSub, Nat.reduceAdd, true_and, and_true, Bool.false_eq_true, if_false, if_true, exists_and_left, exists_and_right, exists_eq_left, reduceCtorEq, false_and, exists_false, or_false, false_or, exists_const, ite_true, ite_false, ↓reduceIte, Bool.not_true, Bool.not_false, Bool.true_eq_false, Nat.zero_eq, Nat.succ_eq_add_one, Nat.sub_self, Nat.sub_zero, Nat.reduceEqDiff]
  refine ⟨cmul_l (by omega), cmul_l (by omega), cmul_r (by omega), by omega, cmul_l (by omega), cmul_r (by omega), cmul_l (by omega), cmul_r (by omega), by omega, by omega, by omega, ?_⟩
  generalize (c * (1 + 2 * n) * 48271 % 2147483647 + 7919 * n * n + 104729 * n) * 69621 = x
  exact h _ (by omega) (by omega)
def sp_law_folded : DSp := fun ds μ RX R => ∃ l : List Int, ds = [.flst (nI l)] ∧ l.length < 1000000 ∧ ∀ p μ' cs, μ p = none → Ex μ μ' → μ' p = some (.lst (nI cs)) → cs.length = 64 → (∀ c ∈ cs, 0 ≤ c ∧ c < 2147483647) → R (.ref p) μ'
def t_law_folded : DS :=
  (mSeq (mSet 1 (mLc (mR1 (mC (.int 64))) (gNm 2) mYes (mOp addD (mC (.int 17)) (mVar 2)) [2]))
  (mSeq (mFor (mEnum (mVar 0)) (gTp 2 (gsCons (gNm 2) (gsCons (gNm 3) gsNil)))
  (mAsg (mOp modD (mOp addD (mOp mulD (mOp ixD (mVar 1) (mOp modD (mVar 2) (mC (.int 64)))) (mC (.int 48271))) (mVar 3)) (mC (.int 2147483647))) (gSb (mVar 1) (mOp modD (mVar 2) (mC (.int 64))))))
  (mSeq (mFor (mR2 (mC (.int 1)) (mC (.int 64))) (gNm 2)
  (mAsg (mOp modD (mOp addD (mOp ixD (mVar 1) (mVar 2)) (mOp mulD (mOp ixD (mVar 1) (mOp subD (mVar 2) (mC (.int 1)))) (mC (.int 16807)))) (mC (.int 2147483647))) (gSb (mVar 1) (mVar 2))))
  (mRet (mVar 1)))))
abbrev N_law_folded : List Str := ["_law_script", "_law_found", "_law_n", "_law_cell"]
abbrev P_law_folded : List Str := ["_law_script"]
theorem bd_set {cs : List Int} {i : Nat} {v : Int} (h : ∀ c ∈ cs, 0 ≤ c ∧ c < 2147483647) (hv : 0 ≤ v ∧ v < 2147483647) : ∀ c ∈ cs.set i v, 0 ≤ c ∧ c < 2147483647 := fun c hc => by
  rcases List.mem_or_eq_of_mem_set hc with z | rfl
  · exact h c z
  · exact hv
theorem law_law_folded : ∀ ds μ RX R, sp_law_folded ds μ RX R → bodySp P_law_folded.length N_law_folded.length t_law_folded ds μ RX R := by
  rintro _ μ RX R ⟨l, rfl, hl, h⟩
  refine ⟨rfl, ?_⟩
  simp only [t_law_folded, mLc, bodySp, mSeq, mRet, mRetN, mExp, mOp, mUn, mVar, mC, mB, mCons, mNil, mSet, mPar, mPar3, mCall, mTest, mIfS, mIf, mAnd, mOr, mNot, mAndV, mOrV, mNotV, mChain, mNx, mPass, mAsg, gNm, gTp, gsCons, gsNil, mIt, mEnum, mR1, mR2, rk1, rk2, mTup, mLst, mYes, mAug, mSl, mPart, mNoPart, addD_i, addD_t, addD_r, addD_s, subD_i, mulD_i, mulD_r, divD_i, modD_i, powD_i, ltD_i, leD_i, gtD_i, geD_i, eqD_i, eqD_s, eqD_r, neD_i, neD_s, neD_r, isND, notND, negD_i, revD_t, revD_r, lenR_t, listR_t, tupR_t, mListRg, mTupRg, mRg1, mRg2, ipAdd, ipSub, List.map_cons, List.map_nil, List.length_cons, List.length_nil, List.replicate, List.cons_append, List.nil_append, List.append_nil, List.getElem?_cons_zero, List.getElem?_cons_succ, List.set_cons_zero, List.set_cons_succ, Option.some.injEq, exists_eq_left', List.cons.injEq, and_assoc, D.int.injEq, D.bl.injEq, D.str.injEq, D.tup.injEq, D.wtup.injEq, D.flst.injEq, D.ref.injEq, wipeD, Nat.reduceSub, Nat.reduceAdd, true_and, and_true, Bool.false_eq_true, if_false, if_true, exists_and_left, exists_and_right, exists_eq_left, reduceCtorEq, false_and, exists_false, or_false, false_or, exists_const, ite_true, ite_false, ↓reduceIte, Bool.not_true, Bool.not_false, Bool.true_eq_false, Nat.zero_eq, Nat.succ_eq_add_one, Nat.sub_self, Nat.sub_zero, Nat.reduceEqDiff]
  refine ⟨by omega, by omega, fun p hp => ?_⟩
  rw [rgD_ints]
  refine lcD_int (fun _ => true) (fun x => .int (17 + x)) (fun _ => trivial) (by simp) (fun x hx acc N hN => ?_) ?_
  · simp only [bodySp, mSeq, mRet, mRetN, mExp, mOp, mUn, mVar, mC, mB, mCons, mNil, mSet, mPar, mPar3, mCall, mTest, mIfS, mIf, mAnd, mOr, mNot, mAndV, mOrV, mNotV, mChain, mNx, mPass, mAsg, gNm, gTp, gsCons, gsNil, mIt, mEnum, mR1, mR2, rk1, rk2, mTup, mLst, mYes, mAug, mSl, mPart, mNoPart, addD_i, addD_t, addD_r, addD_s, subD_i, mulD_i, mulD_r, divD_i, modD_i, powD_i, ltD_i, leD_i, gtD_i, geD_i, eqD_i, eqD_s, eqD_r, neD_i, neD_s, neD_r, isND, notND, negD_i, revD_t, revD_r, lenR_t, listR_t, tupR_t, mListRg, mTupRg, mRg1, mRg2, ipAdd, ipSub, List.map_cons, List.map_nil, List.length_cons, List.length_nil, List.replicate, List.cons_append, List.nil_append, List.append_nil, List.getElem?_cons_zero, List.getElem?_cons_succ, List.set_cons_zero, List.set_cons_succ, Option.some.injEq, exists_eq_left', List.cons.injEq, and_assoc, D.int.injEq, D.bl.injEq, D.str.injEq, D.tup.injEq, D.wtup.injEq, D.flst.injEq, D.ref.injEq, wipeD, Nat.reduceSub, Nat.reduceAdd, true_and, and_true, Bool.false_eq_true, if_false, if_true, exists_and_left, exists_and_right, exists_eq_left, reduceCtorEq, false_and, exists_false, or_false, false_or, exists_const, ite_true, ite_false, ↓reduceIte, Bool.not_true, Bool.not_false, Bool.true_eq_false, Nat.zero_eq, Nat.succ_eq_add_one, Nat.sub_self, Nat.sub_zero, Nat.reduceEqDiff]
    simpa using hN
  · rw [List.filter_eq_self.mpr (by simp)]
    have e0 : ∃ cs : List Int, (List.map (fun x => D.int (17 + x)) ((List.range ((64 : Int) - 0).toNat).map fun i : Nat => (0 : Int) + i)) = nI cs ∧ cs.length = 64 ∧ ∀ c ∈ cs, 0 ≤ c ∧ c < 2147483647 := by
      refine ⟨(List.range 64).map fun i : Nat => 17 + (i : Int), ?_, by simp, fun c hc => ?_⟩
      · simp [nI, Function.comp_def]
      · obtain ⟨i, hi, rfl⟩ := List.mem_map.mp hc
        have := List.mem_range.mp hi
        omega
    obtain ⟨cs, e1, e2, e3⟩ := e0
    rw [e1]
    simp only [mFor, bodySp, mSeq, mRet, mRetN, mExp, mOp, mUn, mVar, mC, mB, mCons, mNil, mSet, mPar, mPar3, mCall, mTest, mIfS, mIf, mAnd, mOr, mNot, mAndV, mOrV, mNotV, mChain, mNx, mPass, mAsg, gNm, gTp, gsCons, gsNil, mIt, mEnum, mR1, mR2, rk1, rk2, mTup, mLst, mYes, mAug, mSl, mPart, mNoPart, addD_i, addD_t, addD_r, addD_s, subD_i, mulD_i, mulD_r, divD_i, modD_i, powD_i, ltD_i, leD_i, gtD_i, geD_i, eqD_i, eqD_s, eqD_r, neD_i, neD_s, neD_r, isND, notND, negD_i, revD_t, revD_r, lenR_t, listR_t, tupR_t, mListRg, mTupRg, mRg1, mRg2, ipAdd, ipSub, List.map_cons, List.map_nil, List.length_cons, List.length_nil, List.replicate, List.cons_append, List.nil_append, List.append_nil, List.getElem?_cons_zero, List.getElem?_cons_succ, List.set_cons_zero, List.set_cons_succ, Option.some.injEq, exists_eq_left', List.cons.injEq, and_assoc, D.int.injEq, D.bl.injEq, D.str.injEq, D.tup.injEq, D.wtup.injEq, D.flst.injEq, D.ref.injEq, wipeD, Nat.reduceSub, Nat.reduceAdd, true_and, and_true, Bool.false_eq_true, if_false, if_true, exists_and_left, exists_and_right, exists_eq_left, reduceCtorEq, false_and, exists_false, or_false, false_or, exists_const, ite_true, ite_false, ↓reduceIte, Bool.not_true, Bool.not_false, Bool.true_eq_false, Nat.zero_eq, Nat.succ_eq_add_one, Nat.sub_self, Nat.sub_zero, Nat.reduceEqDiff]
    refine forD_ix _ (fun k δ μ' => ∃ cs o2 o3, δ = [some (.flst (nI l)), some (.ref p), o2, o3] ∧ Ex μ μ' ∧ μ' p = some (.lst (nI cs)) ∧ cs.length = 64 ∧ ∀ c ∈ cs, 0 ≤ c ∧ c < 2147483647) (fun _ _ _ _ => trivial) ?_ ?_ _ _ ⟨cs, _, _, rfl, Ex.new hp, updM_same, e2, e3⟩
    · rintro _ μ1 ⟨cs, o2, o3, rfl, hE, hm, h64, hb⟩
      simp only [mFor, bodySp, mSeq, mRet, mRetN, mExp, mOp, mUn, mVar, mC, mB, mCons, mNil, mSet, mPar, mPar3, mCall, mTest, mIfS, mIf, mAnd, mOr, mNot, mAndV, mOrV, mNotV, mChain, mNx, mPass, mAsg, gNm, gTp, gsCons, gsNil, mIt, mEnum, mR1, mR2, rk1, rk2, mTup, mLst, mYes, mAug, mSl, mPart, mNoPart, addD_i, addD_t, addD_r, addD_s, subD_i, mulD_i, mulD_r, divD_i, modD_i, powD_i, ltD_i, leD_i, gtD_i, geD_i, eqD_i, eqD_s, eqD_r, neD_i, neD_s, neD_r, isND, notND, negD_i, revD_t, revD_r, lenR_t, listR_t, tupR_t, mListRg, mTupRg, mRg1, mRg2, ipAdd, ipSub, List.map_cons, List.map_nil, List.length_cons, List.length_nil, List.replicate, List.cons_append, List.nil_append, List.append_nil, List.getElem?_cons_zero, List.getElem?_cons_succ, List.set_cons_zero, List.set_cons_succ, Option.some.injEq, exists_eq_left', List.cons.injEq, and_assoc, D.int.injEq, D.bl.injEq, D.str.injEq, D.tup.injEq, D.wtup.injEq, D.flst.injEq, D.ref.injEq, wipeD, Nat.reduceSub, Nat.reduceAdd, true_and, and_true, Bool.false_eq_true, if_false, if_true, exists_and_left, exists_and_right, exists_eq_left, reduceCtorEq, false_and, exists_false, or_false, false_or, exists_const, ite_true, ite_false, ↓reduceIte, Bool.not_true, Bool.not_false, Bool.true_eq_false, Nat.zero_eq, Nat.succ_eq_add_one, Nat.sub_self, Nat.sub_zero, Nat.reduceEqDiff]
      refine ⟨by omega, by omega, by omega, by omega, ?_⟩
      refine forD_ix _ (fun k δ μ' => ∃ cs o2 o3, δ = [some (.flst (nI l)), some (.ref p), o2, o3] ∧ Ex μ μ' ∧ μ' p = some (.lst (nI cs)) ∧ cs.length = 64 ∧ ∀ c ∈ cs, 0 ≤ c ∧ c < 2147483647) (fun _ _ _ _ => trivial) ?_ ?_ _ _ ⟨cs, _, _, rfl, hE, hm, h64, hb⟩
      · rintro _ μ2 ⟨cs, o2, o3, rfl, hE, hm, h64, hb⟩
        simp only [bodySp, mSeq, mRet, mRetN, mExp, mOp, mUn, mVar, mC, mB, mCons, mNil, mSet, mPar, mPar3, mCall, mTest, mIfS, mIf, mAnd, mOr, mNot, mAndV, mOrV, mNotV, mChain, mNx, mPass, mAsg, gNm, gTp, gsCons, gsNil, mIt, mEnum, mR1, mR2, rk1, rk2, mTup, mLst, mYes, mAug, mSl, mPart, mNoPart, addD_i, addD_t, addD_r, addD_s, subD_i, mulD_i, mulD_r, divD_i, modD_i, powD_i, ltD_i, leD_i, gtD_i, geD_i, eqD_i, eqD_s, eqD_r, neD_i, neD_s, neD_r, isND, notND, negD_i, revD_t, revD_r, lenR_t, listR_t, tupR_t, mListRg, mTupRg, mRg1, mRg2, ipAdd, ipSub, List.map_cons, List.map_nil, List.length_cons, List.length_nil, List.replicate, List.cons_append, List.nil_append, List.append_nil, List.getElem?_cons_zero, List.getElem?_cons_succ, List.set_cons_zero, List.set_cons_succ, Option.some.injEq, exists_eq_left', List.cons.injEq, and_assoc, D.int.injEq, D.bl.injEq, D.str.injEq, D.tup.injEq, D.wtup.injEq, D.flst.injEq, D.ref.injEq, wipeD, Nat.reduceSub, Nat.reduceAdd, true_and, and_true, Bool.false_eq_true, if_false, if_true, exists_and_left, exists_and_right, exists_eq_left, reduceCtorEq, false_and, exists_false, or_false, false_or, exists_const, ite_true, ite_false, ↓reduceIte, Bool.not_true, Bool.not_false, Bool.true_eq_false, Nat.zero_eq, Nat.succ_eq_add_one, Nat.sub_self, Nat.sub_zero, Nat.reduceEqDiff]
        exact h p μ2 cs hp hE hm h64 hb
      · rintro k d _ μ2 N hd hN ⟨cs, o2, o3, rfl, hE, hm, h64, hb⟩
        have hk : k < 63 := by
          rcases Nat.lt_or_ge k 63 with z | z
          · exact z
          · rw [List.getElem?_eq_none (by rw [rgD_len]; exact z)] at hd; cases hd
        rw [rgD_get (by omega)] at hd
        cases hd
        simp only [gSb, bodySp, mSeq, mRet, mRetN, mExp, mOp, mUn, mVar, mC, mB, mCons, mNil, mSet, mPar, mPar3, mCall, mTest, mIfS, mIf, mAnd, mOr, mNot, mAndV, mOrV, mNotV, mChain, mNx, mPass, mAsg, gNm, gTp, gsCons, gsNil, mIt, mEnum, mR1, mR2, rk1, rk2, mTup, mLst, mYes, mAug, mSl, mPart, mNoPart, addD_i, addD_t, addD_r, addD_s, subD_i, mulD_i, mulD_r, divD_i, modD_i, powD_i, ltD_i, leD_i, gtD_i, geD_i, eqD_i, eqD_s, eqD_r, neD_i, neD_s, neD_r, isND, notND, negD_i, revD_t, revD_r, lenR_t, listR_t, tupR_t, mListRg, mTupRg, mRg1, mRg2, ipAdd, ipSub, List.map_cons, List.map_nil, List.length_cons, List.length_nil, List.replicate, List.cons_append, List.nil_append, List.append_nil, List.getElem?_cons_zero, List.getElem?_cons_succ, List.set_cons_zero, List.set_cons_succ, Option.some.injEq, exists_eq_left', List.cons.injEq, and_assoc, D.int.injEq, D.bl.injEq, D.str.injEq, D.tup.injEq, D.wtup.injEq, D.flst.injEq, D.ref.injEq, wipeD, Nat.reduceSub, Nat.reduceAdd, true_and, and_true, Bool.false_eq_true, if_false, if_true, exists_and_left, exists_and_right, exists_eq_left, reduceCtorEq, false_and, exists_false, or_false, false_or, exists_const, ite_true, ite_false, ↓reduceIte, Bool.not_true, Bool.not_false, Bool.true_eq_false, Nat.zero_eq, Nat.succ_eq_add_one, Nat.sub_self, Nat.sub_zero, Nat.reduceEqDiff]
        refine ix_i hm (by omega) (by omega) ?_
        refine ix_i hm (by omega) (by omega) ?_
        simp only [bodySp, mSeq, mRet, mRetN, mExp, mOp, mUn, mVar, mC, mB, mCons, mNil, mSet, mPar, mPar3, mCall, mTest, mIfS, mIf, mAnd, mOr, mNot, mAndV, mOrV, mNotV, mChain, mNx, mPass, mAsg, gNm, gTp, gsCons, gsNil, mIt, mEnum, mR1, mR2, rk1, rk2, mTup, mLst, mYes, mAug, mSl, mPart, mNoPart, addD_i, addD_t, addD_r, addD_s, subD_i, mulD_i, mulD_r, divD_i, modD_i, powD_i, ltD_i, leD_i, gtD_i, geD_i, eqD_i, eqD_s, eqD_r, neD_i, neD_s, neD_r, isND, notND, negD_i, revD_t, revD_r, lenR_t, listR_t, tupR_t, mListRg, mTupRg, mRg1, mRg2, ipAdd, ipSub, List.map_cons, List.map_nil, List.length_cons, List.length_nil, List.replicate, List.cons_append, List.nil_append, List.append_nil, List.getElem?_cons_zero, List.getElem?_cons_succ, List.set_cons_zero, List.set_cons_succ, Option.some.injEq, exists_eq_left', List.cons.injEq, and_assoc, D.int.injEq, D.bl.injEq, D.str.injEq, D.tup.injEq, D.wtup.injEq, D.flst.injEq, D.ref.injEq, wipeD, Nat.reduceSub, Nat.reduceAdd, true_and, and_true, Bool.false_eq_true, if_false, if_true, exists_and_left, exists_and_right, exists_eq_left, reduceCtorEq, false_and, exists_false, or_false, false_or, exists_const, ite_true, ite_false, ↓reduceIte, Bool.not_true, Bool.not_false, Bool.true_eq_false, Nat.zero_eq, Nat.succ_eq_add_one, Nat.sub_self, Nat.sub_zero, Nat.reduceEqDiff]
        refine ⟨cmul_r (by omega), by omega, ?_⟩
        generalize cs.getD (1 + (k : Int)).toNat 0 + cs.getD (1 + (k : Int) - 1).toNat 0 * 16807 = x
        refine setD_i hm (by omega) (by omega) ?_
        exact hN _ _ ⟨_, _, _, rfl, Ex.over hE hp, updM_same, by rw [List.length_set]; exact h64, bd_set hb (by omega)⟩
    · rintro k d _ μ1 N hd hN ⟨cs, o2, o3, rfl, hE, hm, h64, hb⟩
      have hk : k < l.length := by
        rcases Nat.lt_or_ge k l.length with z | z
        · exact z
        · rw [List.getElem?_eq_none (by rw [enumD_len, nI_len]; exact z)] at hd; cases hd
      rw [enumD_get (d := .int (l.getD k 0)) (by rw [List.getElem?_map, List.getElem?_eq_getElem hk, List.getD_eq_getElem?_getD, List.getElem?_eq_getElem hk]; rfl)] at hd
      cases hd
      simp only [gSb, bodySp, mSeq, mRet, mRetN, mExp, mOp, mUn, mVar, mC, mB, mCons, mNil, mSet, mPar, mPar3, mCall, mTest, mIfS, mIf, mAnd, mOr, mNot, mAndV, mOrV, mNotV, mChain, mNx, mPass, mAsg, gNm, gTp, gsCons, gsNil, mIt, mEnum, mR1, mR2, rk1, rk2, mTup, mLst, mYes, mAug, mSl, mPart, mNoPart, addD_i, addD_t, addD_r, addD_s, subD_i, mulD_i, mulD_r, divD_i, modD_i, powD_i, ltD_i, leD_i, gtD_i, geD_i, eqD_i, eqD_s, eqD_r, neD_i, neD_s, neD_r, isND, notND, negD_i, revD_t, revD_r, lenR_t, listR_t, tupR_t, mListRg, mTupRg, mRg1, mRg2, ipAdd, ipSub, List.map_cons, List.map_nil, List.length_cons, List.length_nil, List.replicate, List.cons_append, List.nil_append, List.append_nil, List.getElem?_cons_zero, List.getElem?_cons_succ, List.set_cons_zero, List.set_cons_succ, Option.some.injEq, exists_eq_left', List.cons.injEq, and_assoc, D.int.injEq, D.bl.injEq, D.str.injEq, D.tup.injEq, D.wtup.injEq, D.flst.injEq, D.ref.injEq, wipeD, Nat.reduceSub, Nat.reduceAdd, true_and, and_true, Bool.false_eq_true, if_false, if_true, exists_and_left, exists_and_right, exists_eq_left, reduceCtorEq, false_and, exists_false, or_false, false_or, exists_const, ite_true, ite_false, ↓reduceIte, Bool.not_true, Bool.not_false, Bool.true_eq_false, Nat.zero_eq, Nat.succ_eq_add_one, Nat.sub_self, Nat.sub_zero, Nat.reduceEqDiff]
      refine ⟨by omega, ix_i hm (by omega) (by omega) ?_⟩
      simp only [bodySp, mSeq, mRet, mRetN, mExp, mOp, mUn, mVar, mC, mB, mCons, mNil, mSet, mPar, mPar3, mCall, mTest, mIfS, mIf, mAnd, mOr, mNot, mAndV, mOrV, mNotV, mChain, mNx, mPass, mAsg, gNm, gTp, gsCons, gsNil, mIt, mEnum, mR1, mR2, rk1, rk2, mTup, mLst, mYes, mAug, mSl, mPart, mNoPart, addD_i, addD_t, addD_r, addD_s, subD_i, mulD_i, mulD_r, divD_i, modD_i, powD_i, ltD_i, leD_i, gtD_i, geD_i, eqD_i, eqD_s, eqD_r, neD_i, neD_s, neD_r, isND, notND, negD_i, revD_t, revD_r, lenR_t, listR_t, tupR_t, mListRg, mTupRg, mRg1, mRg2, ipAdd, ipSub, List.map_cons, List.map_nil, List.length_cons, List.length_nil, List.replicate, List.cons_append, List.nil_append, List.append_nil, List.getElem?_cons_zero, List.getElem?_cons_succ, List.set_cons_zero, List.set_cons_succ, Option.some.injEq, exists_eq_left', List.cons.injEq, and_assoc, D.int.injEq, D.bl.injEq, D.str.injEq, D.tup.injEq, D.wtup.injEq, D.flst.injEq, D.ref.injEq, wipeD, Nat.reduceSub, Nat.reduceAdd, true_and, and_true, Bool.false_eq_true, if_false, if_true, exists_and_left, exists_and_right, exists_eq_left, reduceCtorEq, false_and, exists_false, or_false, false_or, exists_const, ite_true, ite_false, ↓reduceIte, Bool.not_true, Bool.not_false, Bool.true_eq_false, Nat.zero_eq, Nat.succ_eq_add_one, Nat.sub_self, Nat.sub_zero, Nat.reduceEqDiff]
      refine ⟨cmul_r (by omega), by omega, by omega, ?_⟩
      generalize cs.getD ((k : Int) % 64).toNat 0 * 48271 + l.getD k 0 = x
      refine setD_i hm (by omega) (by omega) ?_
      exact hN _ _ ⟨_, _, _, rfl, Ex.over hE hp, updM_same, by rw [List.length_set]; exact h64, bd_set hb (by omega)⟩
/-- the law's state: cells, great cells, spot -/
def kvM (cA g : Addr) (n : Nat) : List (Key × D) := [(.inr "cells", .ref cA), (.inr "great", .ref g), (.inr "spot", .int n)]
structure LM (m cA g : Addr) (n : Nat) (μ : Mu) : Prop where
  md : μ m = some (.dic (kvM cA g n))
  mc : ∃ cs, μ cA = some (.lst (nI cs)) ∧ cs.length = 64 ∧ ∀ c ∈ cs, 0 ≤ c ∧ c < 2147483647
  mg : ∃ gs, μ g = some (.lst (nI gs)) ∧ ∀ c ∈ gs, 0 ≤ c
  cg : cA ≠ g
theorem LM.ex {m cA g : Addr} {n : Nat} {μ μ' : Mu} (h : LM m cA g n μ) (hE : Ex μ μ') : LM m cA g n μ' := by
  obtain ⟨cs, h1, h2, h3⟩ := h.mc
  obtain ⟨gs, g1, g2⟩ := h.mg
  exact ⟨hE.at h.md, ⟨cs, hE.at h1, h2, h3⟩, ⟨gs, hE.at g1, g2⟩, h.cg⟩
theorem LM.put {m cA g p : Addr} {n : Nat} {μ : Mu} {o : DO} (h : LM m cA g n μ) (h1 : p ≠ m) (h2 : p ≠ cA) (h3 : p ≠ g) : LM m cA g n (updM μ p o) := by
  obtain ⟨cs, c1, c2, c3⟩ := h.mc
  obtain ⟨gs, g1, g2⟩ := h.mg
  exact ⟨by rw [updM_ne (Ne.symm h1)]; exact h.md, ⟨cs, by rw [updM_ne (Ne.symm h2)]; exact c1, c2, c3⟩, ⟨gs, by rw [updM_ne (Ne.symm h3)]; exact g1, g2⟩, h.cg⟩
theorem LM.mc_ne {m cA g : Addr} {n : Nat} {μ : Mu} (h : LM m cA g n μ) : m ≠ cA ∧ m ≠ g := by
  obtain ⟨cs, c1, _⟩ := h.mc
  obtain ⟨gs, g1, _⟩ := h.mg
  exact ⟨mu_ne2 h.md c1 (fun z => by cases z), mu_ne2 h.md g1 (fun z => by cases z)⟩
theorem LM.fresh {m cA g p : Addr} {n : Nat} {μ : Mu} (h : LM m cA g n μ) (hp : μ p = none) : p ≠ m ∧ p ≠ cA ∧ p ≠ g := by
  obtain ⟨cs, c1, _⟩ := h.mc
  obtain ⟨gs, g1, _⟩ := h.mg
  exact ⟨Ne.symm (mu_ne h.md hp), Ne.symm (mu_ne c1 hp), Ne.symm (mu_ne g1 hp)⟩
def sp_law_draw : DSp := fun ds μ RX R => ∃ m cA g n top, ds = [.ref m, .int top] ∧ LM m cA g n μ ∧ (n < 1000000 ∧ 0 < top ∧ top < 1000000) ∧ ∀ v μ', 0 ≤ v → v < top → LM m cA g (n + 1) μ' → Kp [m, g] μ μ' → R (.int v) μ'
def t_law_draw : DS :=
  (mSeq (mSet 2 (mOp ixD (mVar 0) (mC (.str "spot"))))
  (mSeq (mAsg (mOp addD (mVar 2) (mC (.int 1))) (gSb (mVar 0) (mC (.str "spot"))))
  (mSeq (mIfS (mTest (mOp neD (mOp ixD (mVar 0) (mC (.str "great"))) (mLst mNil)))
  (mSeq (mSet 3 (mOp modD (mVar 2) (mB lenR (mCons (mOp ixD (mVar 0) (mC (.str "great"))) mNil))))
  (mSeq (mSet 4 (mOp ixD (mOp ixD (mVar 0) (mC (.str "great"))) (mVar 3)))
  (mIfS (mTest (mOp gtD (mVar 4) (mC (.int 0))))
  (mSeq (mAsg (mOp divD (mVar 4) (mVar 1)) (gSb (mOp ixD (mVar 0) (mC (.str "great"))) (mVar 3)))
  (mRet (mOp modD (mVar 4) (mVar 1))))
  mNx)))
  mNx)
  (mRet (mOp modD (mCall sp_law_mixed [] (mCons (mCall sp_law_mixed [] (mCons (mOp addD (mOp ixD (mOp ixD (mVar 0) (mC (.str "cells"))) (mOp modD (mVar 2) (mC (.int 64)))) (mOp mulD (mC (.int 31)) (mOp divD (mVar 2) (mC (.int 64))))) (mCons (mVar 2) mNil))) (mCons (mOp addD (mVar 2) (mC (.int 7))) mNil))) (mVar 1))))))
abbrev N_law_draw : List Str := ["_law_m", "_law_top", "_law_n", "_law_at", "_law_cell"]
abbrev P_law_draw : List Str := ["_law_m", "_law_top"]
theorem valD_spot (cA g : Addr) (n : Nat) : valD (kvM cA g n) (.inr "spot") = some (.int n) := by rfl
theorem valD_great (cA g : Addr) (n : Nat) : valD (kvM cA g n) (.inr "great") = some (.ref g) := by rfl
theorem valD_cells (cA g : Addr) (n : Nat) : valD (kvM cA g n) (.inr "cells") = some (.ref cA) := by rfl
theorem putD_spot (cA g : Addr) (n k : Nat) : putD (kvM cA g n) (.inr "spot") (.int k) = kvM cA g k := by rfl
theorem putD_great (cA g g' : Addr) (n : Nat) : putD (kvM cA g n) (.inr "great") (.ref g') = kvM cA g' n := by rfl
theorem ix_s {μ : Mu} {a : Addr} {kvs : List (Key × D)} {k : Str} {d : D} {R : DK} (h : μ a = some (.dic kvs)) (hv : valD kvs (.inr k) = some d) (hR : R d μ) : ixD (.ref a) (.str k) μ R :=
  (ixD_k (k := .inr k) h rfl hv).mpr hR
theorem law_law_draw : ∀ ds μ RX R, sp_law_draw ds μ RX R → bodySp P_law_draw.length N_law_draw.length t_law_draw ds μ RX R := by
  rintro _ μ RX R ⟨m, cA, g, n, top, rfl, L, ⟨hn, t0, t1⟩, h⟩
  obtain ⟨cs, c1, c2, c3⟩ := L.mc
  obtain ⟨gs, g1, g2⟩ := L.mg
  obtain ⟨n1, n2⟩ := L.mc_ne
  refine ⟨rfl, ?_⟩
  simp only [t_law_draw, gSb, bodySp, mSeq, mRet, mRetN, mExp, mOp, mUn, mVar, mC, mB, mCons, mNil, mSet, mPar, mPar3, mCall, mTest, mIfS, mIf, mAnd, mOr, mNot, mAndV, mOrV, mNotV, mChain, mNx, mPass, mAsg, gNm, gTp, gsCons, gsNil, mIt, mEnum, mR1, mR2, rk1, rk2, mTup, mLst, mYes, mAug, mSl, mPart, mNoPart, addD_i, addD_t, addD_r, addD_s, subD_i, mulD_i, mulD_r, divD_i, modD_i, powD_i, ltD_i, leD_i, gtD_i, geD_i, eqD_i, eqD_s, eqD_r, neD_i, neD_s, neD_r, isND, notND, negD_i, revD_t, revD_r, lenR_t, listR_t, tupR_t, mListRg, mTupRg, mRg1, mRg2, ipAdd, ipSub, List.map_cons, List.map_nil, List.length_cons, List.length_nil, List.replicate, List.cons_append, List.nil_append, List.append_nil, List.getElem?_cons_zero, List.getElem?_cons_succ, List.set_cons_zero, List.set_cons_succ, Option.some.injEq, exists_eq_left', List.cons.injEq, and_assoc, D.int.injEq, D.bl.injEq, D.str.injEq, D.tup.injEq, D.wtup.injEq, D.flst.injEq, D.ref.injEq, wipeD, Nat.reduceSub, Nat.reduceAdd, true_and, and_true, Bool.false_eq_true, if_false, if_true, exists_and_left, exists_and_right, exists_eq_left, reduceCtorEq, false_and, exists_false, or_false, false_or, exists_const, ite_true, ite_false, ↓reduceIte, Bool.not_true, Bool.not_false, Bool.true_eq_false, Nat.zero_eq, Nat.succ_eq_add_one, Nat.sub_self, Nat.sub_zero, Nat.reduceEqDiff]
  refine ix_s L.md (valD_spot _ _ _) ?_
  simp only [bodySp, mSeq, mRet, mRetN, mExp, mOp, mUn, mVar, mC, mB, mCons, mNil, mSet, mPar, mPar3, mCall, mTest, mIfS, mIf, mAnd, mOr, mNot, mAndV, mOrV, mNotV, mChain, mNx, mPass, mAsg, gNm, gTp, gsCons, gsNil, mIt, mEnum, mR1, mR2, rk1, rk2, mTup, mLst, mYes, mAug, mSl, mPart, mNoPart, addD_i, addD_t, addD_r, addD_s, subD_i, mulD_i, mulD_r, divD_i, modD_i, powD_i, ltD_i, leD_i, gtD_i, geD_i, eqD_i, eqD_s, eqD_r, neD_i, neD_s, neD_r, isND, notND, negD_i, revD_t, revD_r, lenR_t, listR_t, tupR_t, mListRg, mTupRg, mRg1, mRg2, ipAdd, ipSub, List.map_cons, List.map_nil, List.length_cons, List.length_nil, List.replicate, List.cons_append, List.nil_append, List.append_nil, List.getElem?_cons_zero, List.getElem?_cons_succ, List.set_cons_zero, List.set_cons_succ, Option.some.injEq, exists_eq_left', List.cons.injEq, and_assoc, D.int.injEq, D.bl.injEq, D.str.injEq, D.tup.injEq, D.wtup.injEq, D.flst.injEq, D.ref.injEq, wipeD, Nat.reduceSub, Nat.reduceAdd, true_and, and_true, Bool.false_eq_true, if_false, if_true, exists_and_left, exists_and_right, exists_eq_left, reduceCtorEq, false_and, exists_false, or_false, false_or, exists_const, ite_true, ite_false, ↓reduceIte, Bool.not_true, Bool.not_false, Bool.true_eq_false, Nat.zero_eq, Nat.succ_eq_add_one, Nat.sub_self, Nat.sub_zero, Nat.reduceEqDiff]
  refine .inr ⟨m, kvM cA g n, .inr "spot", rfl, rfl, L.md, by have := sizeLine_big; simp [kvM]; omega, ?_⟩
  rw [show (n : Int) + 1 = ((n + 1 : Nat) : Int) by omega, putD_spot]
  have md1 : (updM μ m (.dic (kvM cA g (n + 1)))) m = some (.dic (kvM cA g (n + 1))) := updM_same
  have hg1 : (updM μ m (.dic (kvM cA g (n + 1)))) g = some (.lst (nI gs)) := by rw [updM_ne (Ne.symm n2)]; exact g1
  have hc1 : (updM μ m (.dic (kvM cA g (n + 1)))) cA = some (.lst (nI cs)) := by rw [updM_ne (Ne.symm n1)]; exact c1
  have hK1 : Kp [m, g] μ (updM μ m (.dic (kvM cA g (n + 1)))) := Kp.put (by simp)
  generalize updM μ m (.dic (kvM cA g (n + 1))) = μ1 at md1 hg1 hc1 hK1
  have last : ∀ (μ2 : Mu), LM m cA g (n + 1) μ2 → μ2 cA = some (.lst (nI cs)) → Kp [m, g] μ μ2 →
      ixD (.ref m) (.str "cells") μ2 fun x μ1 => (0 : Int) < 64 ∧ ixD x (.int ((n : Int) % 64)) μ1 fun x μ1 => (0 : Int) < 64 ∧ (64 : Int) < 1073741824 ∧ CMulA 31 ((n : Int) / 64) ∧ addD x (.int (31 * ((n : Int) / 64))) μ1 fun x μ1 =>
        sp_law_mixed [x, .int n] μ1 (fun C fs μ' => RX C fs μ') fun x μ1 => sp_law_mixed [x, .int ((n : Int) + 7)] μ1 (fun C fs μ' => RX C fs μ') fun x μ1 => modD x (.int top) μ1 R := fun μ2 L2 hc2 hK2 => by
    refine ix_s L2.md (valD_cells _ _ _) ⟨by omega, ix_i hc2 (by omega) (by omega) ?_⟩
    simp only [bodySp, mSeq, mRet, mRetN, mExp, mOp, mUn, mVar, mC, mB, mCons, mNil, mSet, mPar, mPar3, mCall, mTest, mIfS, mIf, mAnd, mOr, mNot, mAndV, mOrV, mNotV, mChain, mNx, mPass, mAsg, gNm, gTp, gsCons, gsNil, mIt, mEnum, mR1, mR2, rk1, rk2, mTup, mLst, mYes, mAug, mSl, mPart, mNoPart, addD_i, addD_t, addD_r, addD_s, subD_i, mulD_i, mulD_r, divD_i, modD_i, powD_i, ltD_i, leD_i, gtD_i, geD_i, eqD_i, eqD_s, eqD_r, neD_i, neD_s, neD_r, isND, notND, negD_i, revD_t, revD_r, lenR_t, listR_t, tupR_t, mListRg, mTupRg, mRg1, mRg2, ipAdd, ipSub, List.map_cons, List.map_nil, List.length_cons, List.length_nil, List.replicate, List.cons_append, List.nil_append, List.append_nil, List.getElem?_cons_zero, List.getElem?_cons_succ, List.set_cons_zero, List.set_cons_succ, Option.some.injEq, exists_eq_left', List.cons.injEq, and_assoc, D.int.injEq, D.bl.injEq, D.str.injEq, D.tup.injEq, D.wtup.injEq, D.flst.injEq, D.ref.injEq, wipeD, Nat.reduceSub, Nat.reduceAdd, true_and, and_true, Bool.false_eq_true, if_false, if_true, exists_and_left, exists_and_right, exists_eq_left, reduceCtorEq, false_and, exists_false, or_false, false_or, exists_const, ite_true, ite_false, ↓reduceIte, Bool.not_true, Bool.not_false, Bool.true_eq_false, Nat.zero_eq, Nat.succ_eq_add_one, Nat.sub_self, Nat.sub_zero, Nat.reduceEqDiff]
    have b := c3 _ (getD_mem (l := cs) (i := ((n : Int) % 64).toNat) (by omega))
    refine ⟨by omega, by omega, cmul_l (by omega), _, _, rfl, ⟨by omega, by omega, by omega, by omega⟩, fun v v0 v1 => ⟨v, _, rfl, ⟨by omega, by omega, by omega, by omega⟩, fun u u0 u1 => ?_⟩⟩
    simp only [bodySp, mSeq, mRet, mRetN, mExp, mOp, mUn, mVar, mC, mB, mCons, mNil, mSet, mPar, mPar3, mCall, mTest, mIfS, mIf, mAnd, mOr, mNot, mAndV, mOrV, mNotV, mChain, mNx, mPass, mAsg, gNm, gTp, gsCons, gsNil, mIt, mEnum, mR1, mR2, rk1, rk2, mTup, mLst, mYes, mAug, mSl, mPart, mNoPart, addD_i, addD_t, addD_r, addD_s, subD_i, mulD_i, mulD_r, divD_i, modD_i, powD_i, ltD_i, leD_i, gtD_i, geD_i, eqD_i, eqD_s, eqD_r, neD_i, neD_s, neD_r, isND, notND, negD_i, revD_t, revD_r, lenR_t, listR_t, tupR_t, mListRg, mTupRg, mRg1, mRg2, ipAdd, ipSub, List.map_cons, List.map_nil, List.length_cons, List.length_nil, List.replicate, List.cons_append, List.nil_append, List.append_nil, List.getElem?_cons_zero, List.getElem?_cons_succ, List.set_cons_zero, List.set_cons_succ, Option.some.injEq, exists_eq_left', List.cons.injEq, and_assoc, D.int.injEq, D.bl.injEq, D.str.injEq, D.tup.injEq, D.wtup.injEq, D.flst.injEq, D.ref.injEq, wipeD, Nat.reduceSub, Nat.reduceAdd, true_and, and_true, Bool.false_eq_true, if_false, if_true, exists_and_left, exists_and_right, exists_eq_left, reduceCtorEq, false_and, exists_false, or_false, false_or, exists_const, ite_true, ite_false, ↓reduceIte, Bool.not_true, Bool.not_false, Bool.true_eq_false, Nat.zero_eq, Nat.succ_eq_add_one, Nat.sub_self, Nat.sub_zero, Nat.reduceEqDiff]
    exact ⟨t0, h _ _ (Int.emod_nonneg _ (by omega)) (Int.emod_lt_of_pos _ t0) L2 hK2⟩
  refine ix_s md1 (valD_great _ _ _) ?_
  simp only [bodySp, mSeq, mRet, mRetN, mExp, mOp, mUn, mVar, mC, mB, mCons, mNil, mSet, mPar, mPar3, mCall, mTest, mIfS, mIf, mAnd, mOr, mNot, mAndV, mOrV, mNotV, mChain, mNx, mPass, mAsg, gNm, gTp, gsCons, gsNil, mIt, mEnum, mR1, mR2, rk1, rk2, mTup, mLst, mYes, mAug, mSl, mPart, mNoPart, addD_i, addD_t, addD_r, addD_s, subD_i, mulD_i, mulD_r, divD_i, modD_i, powD_i, ltD_i, leD_i, gtD_i, geD_i, eqD_i, eqD_s, eqD_r, neD_i, neD_s, neD_r, isND, notND, negD_i, revD_t, revD_r, lenR_t, listR_t, tupR_t, mListRg, mTupRg, mRg1, mRg2, ipAdd, ipSub, List.map_cons, List.map_nil, List.length_cons, List.length_nil, List.replicate, List.cons_append, List.nil_append, List.append_nil, List.getElem?_cons_zero, List.getElem?_cons_succ, List.set_cons_zero, List.set_cons_succ, Option.some.injEq, exists_eq_left', List.cons.injEq, and_assoc, D.int.injEq, D.bl.injEq, D.str.injEq, D.tup.injEq, D.wtup.injEq, D.flst.injEq, D.ref.injEq, wipeD, Nat.reduceSub, Nat.reduceAdd, true_and, and_true, Bool.false_eq_true, if_false, if_true, exists_and_left, exists_and_right, exists_eq_left, reduceCtorEq, false_and, exists_false, or_false, false_or, exists_const, ite_true, ite_false, ↓reduceIte, Bool.not_true, Bool.not_false, Bool.true_eq_false, Nat.zero_eq, Nat.succ_eq_add_one, Nat.sub_self, Nat.sub_zero, Nat.reduceEqDiff]
  refine ⟨by omega, fun e he => ?_⟩
  have hEe : Ex μ1 (updM μ1 e (.lst [])) := Ex.new he
  have L1 : LM m cA g (n + 1) (updM μ1 e (.lst [])) := ⟨hEe.at md1, ⟨cs, hEe.at hc1, c2, c3⟩, ⟨gs, hEe.at hg1, g2⟩, L.cg⟩
  have hK2 : Kp [m, g] μ (updM μ1 e (.lst [])) := hK1.trans hEe.kp
  refine ⟨nI gs, .inl (hEe.at hg1), [], .inl updM_same, plains_ints _, rfl, by have := deps_nI gs; omega, by decide, ?_⟩
  have hc3 := hEe.at hc1
  have hg3 := hEe.at hg1
  generalize updM μ1 e (.lst []) = μ2 at L1 hK2 hc3 hg3
  rw [beqs_nil]
  cases hgs : gs with
  | nil =>
    simp only [nI, List.map_nil, List.isEmpty_nil, bodySp, mSeq, mRet, mRetN, mExp, mOp, mUn, mVar, mC, mB, mCons, mNil, mSet, mPar, mPar3, mCall, mTest, mIfS, mIf, mAnd, mOr, mNot, mAndV, mOrV, mNotV, mChain, mNx, mPass, mAsg, gNm, gTp, gsCons, gsNil, mIt, mEnum, mR1, mR2, rk1, rk2, mTup, mLst, mYes, mAug, mSl, mPart, mNoPart, addD_i, addD_t, addD_r, addD_s, subD_i, mulD_i, mulD_r, divD_i, modD_i, powD_i, ltD_i, leD_i, gtD_i, geD_i, eqD_i, eqD_s, eqD_r, neD_i, neD_s, neD_r, isND, notND, negD_i, revD_t, revD_r, lenR_t, listR_t, tupR_t, mListRg, mTupRg, mRg1, mRg2, ipAdd, ipSub, List.map_cons, List.map_nil, List.length_cons, List.length_nil, List.replicate, List.cons_append, List.nil_append, List.append_nil, List.getElem?_cons_zero, List.getElem?_cons_succ, List.set_cons_zero, List.set_cons_succ, Option.some.injEq, exists_eq_left', List.cons.injEq, and_assoc, D.int.injEq, D.bl.injEq, D.str.injEq, D.tup.injEq, D.wtup.injEq, D.flst.injEq, D.ref.injEq, wipeD, Nat.reduceSub, Nat.reduceAdd, true_and, and_true, Bool.false_eq_true, if_false, if_true, exists_and_left, exists_and_right, exists_eq_left, reduceCtorEq, false_and, exists_false, or_false, false_or, exists_const, ite_true, ite_false, ↓reduceIte, Bool.not_true, Bool.not_false, Bool.true_eq_false, Nat.zero_eq, Nat.succ_eq_add_one, Nat.sub_self, Nat.sub_zero, Nat.reduceEqDiff]
    exact last μ2 L1 hc3 hK2
  | cons z t =>
    have hpos : 0 < gs.length := by rw [hgs]; simp
    simp only [List.map_cons, List.isEmpty_cons, bodySp, mSeq, mRet, mRetN, mExp, mOp, mUn, mVar, mC, mB, mCons, mNil, mSet, mPar, mPar3, mCall, mTest, mIfS, mIf, mAnd, mOr, mNot, mAndV, mOrV, mNotV, mChain, mNx, mPass, mAsg, gNm, gTp, gsCons, gsNil, mIt, mEnum, mR1, mR2, rk1, rk2, mTup, mLst, mYes, mAug, mSl, mPart, mNoPart, addD_i, addD_t, addD_r, addD_s, subD_i, mulD_i, mulD_r, divD_i, modD_i, powD_i, ltD_i, leD_i, gtD_i, geD_i, eqD_i, eqD_s, eqD_r, neD_i, neD_s, neD_r, isND, notND, negD_i, revD_t, revD_r, lenR_t, listR_t, tupR_t, mListRg, mTupRg, mRg1, mRg2, ipAdd, ipSub, List.map_cons, List.map_nil, List.length_cons, List.length_nil, List.replicate, List.cons_append, List.nil_append, List.append_nil, List.getElem?_cons_zero, List.getElem?_cons_succ, List.set_cons_zero, List.set_cons_succ, Option.some.injEq, exists_eq_left', List.cons.injEq, and_assoc, D.int.injEq, D.bl.injEq, D.str.injEq, D.tup.injEq, D.wtup.injEq, D.flst.injEq, D.ref.injEq, wipeD, Nat.reduceSub, Nat.reduceAdd, true_and, and_true, Bool.false_eq_true, if_false, if_true, exists_and_left, exists_and_right, exists_eq_left, reduceCtorEq, false_and, exists_false, or_false, false_or, exists_const, ite_true, ite_false, ↓reduceIte, Bool.not_true, Bool.not_false, Bool.true_eq_false, Nat.zero_eq, Nat.succ_eq_add_one, Nat.sub_self, Nat.sub_zero, Nat.reduceEqDiff]
    refine ix_s L1.md (valD_great _ _ _) ?_
    rw [lenR_r (.inl hg3), nI_len]
    simp only [bodySp, mSeq, mRet, mRetN, mExp, mOp, mUn, mVar, mC, mB, mCons, mNil, mSet, mPar, mPar3, mCall, mTest, mIfS, mIf, mAnd, mOr, mNot, mAndV, mOrV, mNotV, mChain, mNx, mPass, mAsg, gNm, gTp, gsCons, gsNil, mIt, mEnum, mR1, mR2, rk1, rk2, mTup, mLst, mYes, mAug, mSl, mPart, mNoPart, addD_i, addD_t, addD_r, addD_s, subD_i, mulD_i, mulD_r, divD_i, modD_i, powD_i, ltD_i, leD_i, gtD_i, geD_i, eqD_i, eqD_s, eqD_r, neD_i, neD_s, neD_r, isND, notND, negD_i, revD_t, revD_r, lenR_t, listR_t, tupR_t, mListRg, mTupRg, mRg1, mRg2, ipAdd, ipSub, List.map_cons, List.map_nil, List.length_cons, List.length_nil, List.replicate, List.cons_append, List.nil_append, List.append_nil, List.getElem?_cons_zero, List.getElem?_cons_succ, List.set_cons_zero, List.set_cons_succ, Option.some.injEq, exists_eq_left', List.cons.injEq, and_assoc, D.int.injEq, D.bl.injEq, D.str.injEq, D.tup.injEq, D.wtup.injEq, D.flst.injEq, D.ref.injEq, wipeD, Nat.reduceSub, Nat.reduceAdd, true_and, and_true, Bool.false_eq_true, if_false, if_true, exists_and_left, exists_and_right, exists_eq_left, reduceCtorEq, false_and, exists_false, or_false, false_or, exists_const, ite_true, ite_false, ↓reduceIte, Bool.not_true, Bool.not_false, Bool.true_eq_false, Nat.zero_eq, Nat.succ_eq_add_one, Nat.sub_self, Nat.sub_zero, Nat.reduceEqDiff]
    have hl : (0 : Int) < gs.length := by omega
    have i0 := Int.emod_nonneg n (Int.ne_of_gt hl)
    have i1 := Int.emod_lt_of_pos n hl
    refine ⟨hl, ix_s L1.md (valD_great _ _ _) (ix_i hg3 i0 i1 ?_)⟩
    have hc := g2 _ (getD_mem (l := gs) (i := ((n : Int) % gs.length).toNat) (by omega))
    generalize gs.getD ((n : Int) % gs.length).toNat 0 = c at hc
    simp only [bodySp, mSeq, mRet, mRetN, mExp, mOp, mUn, mVar, mC, mB, mCons, mNil, mSet, mPar, mPar3, mCall, mTest, mIfS, mIf, mAnd, mOr, mNot, mAndV, mOrV, mNotV, mChain, mNx, mPass, mAsg, gNm, gTp, gsCons, gsNil, mIt, mEnum, mR1, mR2, rk1, rk2, mTup, mLst, mYes, mAug, mSl, mPart, mNoPart, addD_i, addD_t, addD_r, addD_s, subD_i, mulD_i, mulD_r, divD_i, modD_i, powD_i, ltD_i, leD_i, gtD_i, geD_i, eqD_i, eqD_s, eqD_r, neD_i, neD_s, neD_r, isND, notND, negD_i, revD_t, revD_r, lenR_t, listR_t, tupR_t, mListRg, mTupRg, mRg1, mRg2, ipAdd, ipSub, List.map_cons, List.map_nil, List.length_cons, List.length_nil, List.replicate, List.cons_append, List.nil_append, List.append_nil, List.getElem?_cons_zero, List.getElem?_cons_succ, List.set_cons_zero, List.set_cons_succ, Option.some.injEq, exists_eq_left', List.cons.injEq, and_assoc, D.int.injEq, D.bl.injEq, D.str.injEq, D.tup.injEq, D.wtup.injEq, D.flst.injEq, D.ref.injEq, wipeD, Nat.reduceSub, Nat.reduceAdd, true_and, and_true, Bool.false_eq_true, if_false, if_true, exists_and_left, exists_and_right, exists_eq_left, reduceCtorEq, false_and, exists_false, or_false, false_or, exists_const, ite_true, ite_false, ↓reduceIte, Bool.not_true, Bool.not_false, Bool.true_eq_false, Nat.zero_eq, Nat.succ_eq_add_one, Nat.sub_self, Nat.sub_zero, Nat.reduceEqDiff]
    by_cases hpc : 0 < c
    · rw [if_pos (decide_eq_true hpc)]
      refine ⟨t0, by omega, ix_s L1.md (valD_great _ _ _) (setD_i hg3 i0 i1 ?_)⟩
      refine ⟨t0, h _ _ (Int.emod_nonneg _ (by omega)) (Int.emod_lt_of_pos _ t0) ⟨by rw [updM_ne n2]; exact L1.md, ⟨cs, by rw [updM_ne L.cg]; exact hc3, c2, c3⟩, ⟨_, updM_same, fun x hx => ?_⟩, L.cg⟩ (hK2.trans (Kp.put (by simp)))⟩
      rcases List.mem_or_eq_of_mem_set hx with z | rfl
      · exact g2 x z
      · exact Int.ediv_nonneg hc (by omega)
    · rw [if_neg (by simpa using hpc)]
      exact last μ2 L1 hc3 hK2
def sp_law_begun : DSp := fun ds μ RX R => ∃ l : List Int, ds = [.flst (nI l)] ∧ l.length < 100000 ∧ ∀ m cA g μ', Ex μ μ' → LM m cA g 0 μ' → R (.ref m) μ'
def t_law_begun : DS :=
  (mSeq (mSet 1 (mDisp [("cells", (mCall sp_law_folded [] (mCons (mVar 0) mNil))), ("great", (mLst mNil)), ("spot", (mC (.int 0)))]))
  (mSeq (mAsg (mLc (mIt (mVar 0)) (gNm 2) mYes (mIf (mTest (mOp geD (mVar 2) (mOp powD (mC (.int 10)) (mC (.int 18))))) (mVar 2) (mC (.int 0))) [2]) (gSb (mVar 1) (mC (.str "great"))))
  (mRet (mVar 1))))
abbrev N_law_begun : List Str := ["_law_script", "_law_m", "_law_cell"]
abbrev P_law_begun : List Str := ["_law_script"]
theorem law_law_begun : ∀ ds μ RX R, sp_law_begun ds μ RX R → bodySp P_law_begun.length N_law_begun.length t_law_begun ds μ RX R := by
  rintro _ μ RX R ⟨l, rfl, hl, h⟩
  refine ⟨rfl, ?_⟩
  simp only [t_law_begun, mDisp, mPairs, mLc, gSb, bodySp, mSeq, mRet, mRetN, mExp, mOp, mUn, mVar, mC, mB, mCons, mNil, mSet, mPar, mPar3, mCall, mTest, mIfS, mIf, mAnd, mOr, mNot, mAndV, mOrV, mNotV, mChain, mNx, mPass, mAsg, gNm, gTp, gsCons, gsNil, mIt, mEnum, mR1, mR2, rk1, rk2, mTup, mLst, mYes, mAug, mSl, mPart, mNoPart, addD_i, addD_t, addD_r, addD_s, subD_i, mulD_i, mulD_r, divD_i, modD_i, powD_i, ltD_i, leD_i, gtD_i, geD_i, eqD_i, eqD_s, eqD_r, neD_i, neD_s, neD_r, isND, notND, negD_i, revD_t, revD_r, lenR_t, listR_t, tupR_t, mListRg, mTupRg, mRg1, mRg2, ipAdd, ipSub, List.map_cons, List.map_nil, List.length_cons, List.length_nil, List.replicate, List.cons_append, List.nil_append, List.append_nil, List.getElem?_cons_zero, List.getElem?_cons_succ, List.set_cons_zero, List.set_cons_succ, Option.some.injEq, exists_eq_left', List.cons.injEq, and_assoc, D.int.injEq, D.bl.injEq, D.str.injEq, D.tup.injEq, D.wtup.injEq, D.flst.injEq, D.ref.injEq, wipeD, Nat.reduceSub, Nat.reduceAdd, true_and, and_true, Bool.false_eq_true, if_false, if_true, exists_and_left, exists_and_right, exists_eq_left, reduceCtorEq, false_and, exists_false, or_false, false_or, exists_const, ite_true, ite_false, ↓reduceIte, Bool.not_true, Bool.not_false, Bool.true_eq_false, Nat.zero_eq, Nat.succ_eq_add_one, Nat.sub_self, Nat.sub_zero, Nat.reduceEqDiff]
  intro m hm
  refine ⟨l, rfl, by omega, fun cA μ1 cs hcA hE1 hm1 h64 hb => ?_⟩
  simp only [bodySp, mSeq, mRet, mRetN, mExp, mOp, mUn, mVar, mC, mB, mCons, mNil, mSet, mPar, mPar3, mCall, mTest, mIfS, mIf, mAnd, mOr, mNot, mAndV, mOrV, mNotV, mChain, mNx, mPass, mAsg, gNm, gTp, gsCons, gsNil, mIt, mEnum, mR1, mR2, rk1, rk2, mTup, mLst, mYes, mAug, mSl, mPart, mNoPart, addD_i, addD_t, addD_r, addD_s, subD_i, mulD_i, mulD_r, divD_i, modD_i, powD_i, ltD_i, leD_i, gtD_i, geD_i, eqD_i, eqD_s, eqD_r, neD_i, neD_s, neD_r, isND, notND, negD_i, revD_t, revD_r, lenR_t, listR_t, tupR_t, mListRg, mTupRg, mRg1, mRg2, ipAdd, ipSub, List.map_cons, List.map_nil, List.length_cons, List.length_nil, List.replicate, List.cons_append, List.nil_append, List.append_nil, List.getElem?_cons_zero, List.getElem?_cons_succ, List.set_cons_zero, List.set_cons_succ, Option.some.injEq, exists_eq_left', List.cons.injEq, and_assoc, D.int.injEq, D.bl.injEq, D.str.injEq, D.tup.injEq, D.wtup.injEq, D.flst.injEq, D.ref.injEq, wipeD, Nat.reduceSub, Nat.reduceAdd, true_and, and_true, Bool.false_eq_true, if_false, if_true, exists_and_left, exists_and_right, exists_eq_left, reduceCtorEq, false_and, exists_false, or_false, false_or, exists_const, ite_true, ite_false, ↓reduceIte, Bool.not_true, Bool.not_false, Bool.true_eq_false, Nat.zero_eq, Nat.succ_eq_add_one, Nat.sub_self, Nat.sub_zero, Nat.reduceEqDiff]
  refine ⟨by omega, fun g0 hg0 => ?_⟩
  have md1 := hE1.at (updM_same (μ := μ) (a := m) (o := .dic []))
  have hmg0 : m ≠ g0 := mu_ne md1 hg0
  have hcg0 : cA ≠ g0 := mu_ne hm1 hg0
  have hmc : m ≠ cA := mu_ne updM_same hcA
  refine ⟨by rw [updM_ne hmg0]; exact md1, by omega, fun g hg => ?_⟩
  have hE2 : Ex μ μ1 := (Ex.new hm).trans hE1
  have hgm : g ≠ m := fun z => by rw [z, updM_same] at hg; cases hg
  rw [updM_ne hgm] at hg
  have hgg : g ≠ g0 := fun z => by rw [z, updM_same] at hg; cases hg
  rw [updM_ne hgg] at hg
  have hgc : g ≠ cA := Ne.symm (mu_ne hm1 hg)
  refine lcD_int (fun _ => true) (fun x => .int (if (1000000000000000000 : Int) ≤ x then x else 0)) (fun _ => trivial) (by omega) (fun x hx acc N hN => ?_) ?_
  · simp only [bodySp, mSeq, mRet, mRetN, mExp, mOp, mUn, mVar, mC, mB, mCons, mNil, mSet, mPar, mPar3, mCall, mTest, mIfS, mIf, mAnd, mOr, mNot, mAndV, mOrV, mNotV, mChain, mNx, mPass, mAsg, gNm, gTp, gsCons, gsNil, mIt, mEnum, mR1, mR2, rk1, rk2, mTup, mLst, mYes, mAug, mSl, mPart, mNoPart, addD_i, addD_t, addD_r, addD_s, subD_i, mulD_i, mulD_r, divD_i, modD_i, powD_i, ltD_i, leD_i, gtD_i, geD_i, eqD_i, eqD_s, eqD_r, neD_i, neD_s, neD_r, isND, notND, negD_i, revD_t, revD_r, lenR_t, listR_t, tupR_t, mListRg, mTupRg, mRg1, mRg2, ipAdd, ipSub, List.map_cons, List.map_nil, List.length_cons, List.length_nil, List.replicate, List.cons_append, List.nil_append, List.append_nil, List.getElem?_cons_zero, List.getElem?_cons_succ, List.set_cons_zero, List.set_cons_succ, Option.some.injEq, exists_eq_left', List.cons.injEq, and_assoc, D.int.injEq, D.bl.injEq, D.str.injEq, D.tup.injEq, D.wtup.injEq, D.flst.injEq, D.ref.injEq, wipeD, Nat.reduceSub, Nat.reduceAdd, true_and, and_true, Bool.false_eq_true, if_false, if_true, exists_and_left, exists_and_right, exists_eq_left, reduceCtorEq, false_and, exists_false, or_false, false_or, exists_const, ite_true, ite_false, ↓reduceIte, Bool.not_true, Bool.not_false, Bool.true_eq_false, Nat.zero_eq, Nat.succ_eq_add_one, Nat.sub_self, Nat.sub_zero, Nat.reduceEqDiff]
    refine ⟨⟨by omega, by omega, by decide⟩, ?_⟩
    rw [show ((10 : Int) ^ (18 : Int).toNat) = 1000000000000000000 by rfl]
    by_cases q : (1000000000000000000 : Int) ≤ x
    · rw [if_pos (decide_eq_true q)]
      simpa [q] using hN
    · rw [if_neg (by simpa using q)]
      simpa [q] using hN
  · refine .inr ⟨m, mergeD [] [(.inr "cells", .ref cA), (.inr "great", .ref g0), (.inr "spot", .int 0)], .inr "great", rfl, rfl, by rw [updM_ne (Ne.symm hgm), updM_same], by have := sizeLine_big; show 3 < sizeLine; omega, ?_⟩
    rw [show putD (mergeD [] [(.inr "cells", .ref cA), (.inr "great", .ref g0), (.inr "spot", .int 0)]) (.inr "great") (.ref g) = kvM cA g 0 from by rfl]
    refine h m cA g _ ?_ ⟨updM_same, ⟨cs, ?_, h64, hb⟩, ⟨l.map fun x => if (1000000000000000000 : Int) ≤ x then x else 0, ?_, ?_⟩, Ne.symm hgc⟩
    · intro a o _ e
      have ham := mu_ne e hm
      have hag := mu_ne (hE2.at e) hg
      have hag0 := mu_ne (hE2.at e) hg0
      rw [updM_ne ham, updM_ne hag, updM_ne ham, updM_ne hag0]
      exact hE2.at e
    · rw [updM_ne (Ne.symm hmc), updM_ne (Ne.symm hgc), updM_ne (Ne.symm hmc), updM_ne hcg0]
      exact hm1
    · rw [updM_ne hgm, updM_same]
      rw [List.filter_eq_self.mpr (by simp)]
      simp [nI, Function.comp_def]
    · intro c hc
      obtain ⟨x, _, rfl⟩ := List.mem_map.mp hc
      split <;> omega
theorem erase_perm {α : Type} : ∀ {l : List α} {i : Nat} (h : i < l.length), (l[i] :: l.eraseIdx i).Perm l
  | a :: t, 0, _ => List.Perm.refl _
  | a :: t, i + 1, h => (List.Perm.swap a _ _).trans ((erase_perm (l := t) (i := i) (by simpa using h)).cons a)
def sp_law_mixed_up : DSp := fun ds μ RX R => ∃ m cA g n q xs, ds = [.ref m, .ref q] ∧ LM m cA g n μ ∧ LsM μ q xs ∧ n + xs.length < 1000000 ∧
  ∀ p ys μ', μ p = none → ys.Perm xs → LM m cA g (n + xs.length) μ' → Kp [m, g] μ μ' → μ' p = some (.lst ys) → R (.ref p) μ'
def t_law_mixed_up : DS :=
  (mSeq (mPar 2 3 (mCons (mB listR (mCons (mVar 1) mNil)) (mCons (mLst mNil) mNil)))
  (mSeq (mFor (mR1 (mB lenR (mCons (mVar 2) mNil))) (gNm 4)
  (mExp (mBML appendR (mVar 3) (mCons (mBML popR (mVar 2) (mCons (mCall sp_law_draw [] (mCons (mVar 0) (mCons (mB lenR (mCons (mVar 2) mNil)) mNil))) mNil)) mNil))))
  (mRet (mVar 3))))
abbrev N_law_mixed_up : List Str := ["_law_m", "_law_things", "_law_stock", "_law_found", "_law_n"]
abbrev P_law_mixed_up : List Str := ["_law_m", "_law_things"]
theorem law_law_mixed_up : ∀ ds μ RX R, sp_law_mixed_up ds μ RX R → bodySp P_law_mixed_up.length N_law_mixed_up.length t_law_mixed_up ds μ RX R := by
  rintro _ μ RX R ⟨m, cA, g, n, q, xs, rfl, L, hq, hn, h⟩
  refine ⟨rfl, ?_⟩
  simp only [t_law_mixed_up, mFor, bodySp, mSeq, mRet, mRetN, mExp, mOp, mUn, mVar, mC, mB, mCons, mNil, mSet, mPar, mPar3, mCall, mTest, mIfS, mIf, mAnd, mOr, mNot, mAndV, mOrV, mNotV, mChain, mNx, mPass, mAsg, gNm, gTp, gsCons, gsNil, mIt, mEnum, mR1, mR2, rk1, rk2, mTup, mLst, mYes, mAug, mSl, mPart, mNoPart, addD_i, addD_t, addD_r, addD_s, subD_i, mulD_i, mulD_r, divD_i, modD_i, powD_i, ltD_i, leD_i, gtD_i, geD_i, eqD_i, eqD_s, eqD_r, neD_i, neD_s, neD_r, isND, notND, negD_i, revD_t, revD_r, lenR_t, listR_t, tupR_t, mListRg, mTupRg, mRg1, mRg2, ipAdd, ipSub, List.map_cons, List.map_nil, List.length_cons, List.length_nil, List.replicate, List.cons_append, List.nil_append, List.append_nil, List.getElem?_cons_zero, List.getElem?_cons_succ, List.set_cons_zero, List.set_cons_succ, Option.some.injEq, exists_eq_left', List.cons.injEq, and_assoc, D.int.injEq, D.bl.injEq, D.str.injEq, D.tup.injEq, D.wtup.injEq, D.flst.injEq, D.ref.injEq, wipeD, Nat.reduceSub, Nat.reduceAdd, true_and, and_true, Bool.false_eq_true, if_false, if_true, exists_and_left, exists_and_right, exists_eq_left, reduceCtorEq, false_and, exists_false, or_false, false_or, exists_const, ite_true, ite_false, ↓reduceIte, Bool.not_true, Bool.not_false, Bool.true_eq_false, Nat.zero_eq, Nat.succ_eq_add_one, Nat.sub_self, Nat.sub_zero, Nat.reduceEqDiff]
  refine ⟨xs, hq, fun r hr => ⟨by omega, fun f hf => ?_⟩⟩
  rw [lenR_r (.inl (by rw [updM_ne (mu_ne updM_same hf)]; exact updM_same))]
  simp only [bodySp, mSeq, mRet, mRetN, mExp, mOp, mUn, mVar, mC, mB, mCons, mNil, mSet, mPar, mPar3, mCall, mTest, mIfS, mIf, mAnd, mOr, mNot, mAndV, mOrV, mNotV, mChain, mNx, mPass, mAsg, gNm, gTp, gsCons, gsNil, mIt, mEnum, mR1, mR2, rk1, rk2, mTup, mLst, mYes, mAug, mSl, mPart, mNoPart, addD_i, addD_t, addD_r, addD_s, subD_i, mulD_i, mulD_r, divD_i, modD_i, powD_i, ltD_i, leD_i, gtD_i, geD_i, eqD_i, eqD_s, eqD_r, neD_i, neD_s, neD_r, isND, notND, negD_i, revD_t, revD_r, lenR_t, listR_t, tupR_t, mListRg, mTupRg, mRg1, mRg2, ipAdd, ipSub, List.map_cons, List.map_nil, List.length_cons, List.length_nil, List.replicate, List.cons_append, List.nil_append, List.append_nil, List.getElem?_cons_zero, List.getElem?_cons_succ, List.set_cons_zero, List.set_cons_succ, Option.some.injEq, exists_eq_left', List.cons.injEq, and_assoc, D.int.injEq, D.bl.injEq, D.str.injEq, D.tup.injEq, D.wtup.injEq, D.flst.injEq, D.ref.injEq, wipeD, Nat.reduceSub, Nat.reduceAdd, true_and, and_true, Bool.false_eq_true, if_false, if_true, exists_and_left, exists_and_right, exists_eq_left, reduceCtorEq, false_and, exists_false, or_false, false_or, exists_const, ite_true, ite_false, ↓reduceIte, Bool.not_true, Bool.not_false, Bool.true_eq_false, Nat.zero_eq, Nat.succ_eq_add_one, Nat.sub_self, Nat.sub_zero, Nat.reduceEqDiff]
  refine ⟨by omega, by omega, ?_⟩
  have hrf : r ≠ f := mu_ne updM_same hf
  have f0 : μ f = none := (Ex.new hr).none hf
  obtain ⟨r1, r2, r3⟩ := L.fresh hr
  obtain ⟨f1, f2, f3⟩ := L.fresh f0
  refine forD_rng xs.length (fun k δ μ' => ∃ st fs o4, δ = [some (.ref m), some (.ref q), some (.ref r), some (.ref f), o4] ∧ LM m cA g (n + k) μ' ∧ Kp [m, g] μ μ' ∧ μ' r = some (.lst st) ∧ μ' f = some (.lst fs) ∧ (fs ++ st).Perm xs ∧ fs.length = k ∧ k ≤ xs.length) (fun _ => trivial) ?_ ?_ _ _
    ⟨xs, [], _, rfl, (L.ex (Ex.new hr)).put f1 f2 f3, (Kp.new hr).trans (Kp.new hf), by rw [updM_ne hrf, updM_same], updM_same, by simp, rfl, Nat.zero_le _⟩
  · rintro _ μ1 ⟨st, fs, o4, rfl, L1, hK, hr1, hf1, hp, hl, _⟩
    simp only [bodySp, mSeq, mRet, mRetN, mExp, mOp, mUn, mVar, mC, mB, mCons, mNil, mSet, mPar, mPar3, mCall, mTest, mIfS, mIf, mAnd, mOr, mNot, mAndV, mOrV, mNotV, mChain, mNx, mPass, mAsg, gNm, gTp, gsCons, gsNil, mIt, mEnum, mR1, mR2, rk1, rk2, mTup, mLst, mYes, mAug, mSl, mPart, mNoPart, addD_i, addD_t, addD_r, addD_s, subD_i, mulD_i, mulD_r, divD_i, modD_i, powD_i, ltD_i, leD_i, gtD_i, geD_i, eqD_i, eqD_s, eqD_r, neD_i, neD_s, neD_r, isND, notND, negD_i, revD_t, revD_r, lenR_t, listR_t, tupR_t, mListRg, mTupRg, mRg1, mRg2, ipAdd, ipSub, List.map_cons, List.map_nil, List.length_cons, List.length_nil, List.replicate, List.cons_append, List.nil_append, List.append_nil, List.getElem?_cons_zero, List.getElem?_cons_succ, List.set_cons_zero, List.set_cons_succ, Option.some.injEq, exists_eq_left', List.cons.injEq, and_assoc, D.int.injEq, D.bl.injEq, D.str.injEq, D.tup.injEq, D.wtup.injEq, D.flst.injEq, D.ref.injEq, wipeD, Nat.reduceSub, Nat.reduceAdd, true_and, and_true, Bool.false_eq_true, if_false, if_true, exists_and_left, exists_and_right, exists_eq_left, reduceCtorEq, false_and, exists_false, or_false, false_or, exists_const, ite_true, ite_false, ↓reduceIte, Bool.not_true, Bool.not_false, Bool.true_eq_false, Nat.zero_eq, Nat.succ_eq_add_one, Nat.sub_self, Nat.sub_zero, Nat.reduceEqDiff]
    have hst : st = [] := by
      have := hp.length_eq
      rw [List.length_append] at this
      exact List.length_eq_zero_iff.mp (by omega)
    subst hst
    exact h f fs μ1 f0 (by simpa using hp) L1 hK hf1
  · rintro k _ μ1 N hk hN ⟨st, fs, o4, rfl, L1, hK, hr1, hf1, hp, hl, hk2⟩
    have hlen := hp.length_eq
    rw [List.length_append] at hlen
    simp only [mBML, bodySp, mSeq, mRet, mRetN, mExp, mOp, mUn, mVar, mC, mB, mCons, mNil, mSet, mPar, mPar3, mCall, mTest, mIfS, mIf, mAnd, mOr, mNot, mAndV, mOrV, mNotV, mChain, mNx, mPass, mAsg, gNm, gTp, gsCons, gsNil, mIt, mEnum, mR1, mR2, rk1, rk2, mTup, mLst, mYes, mAug, mSl, mPart, mNoPart, addD_i, addD_t, addD_r, addD_s, subD_i, mulD_i, mulD_r, divD_i, modD_i, powD_i, ltD_i, leD_i, gtD_i, geD_i, eqD_i, eqD_s, eqD_r, neD_i, neD_s, neD_r, isND, notND, negD_i, revD_t, revD_r, lenR_t, listR_t, tupR_t, mListRg, mTupRg, mRg1, mRg2, ipAdd, ipSub, List.map_cons, List.map_nil, List.length_cons, List.length_nil, List.replicate, List.cons_append, List.nil_append, List.append_nil, List.getElem?_cons_zero, List.getElem?_cons_succ, List.set_cons_zero, List.set_cons_succ, Option.some.injEq, exists_eq_left', List.cons.injEq, and_assoc, D.int.injEq, D.bl.injEq, D.str.injEq, D.tup.injEq, D.wtup.injEq, D.flst.injEq, D.ref.injEq, wipeD, Nat.reduceSub, Nat.reduceAdd, true_and, and_true, Bool.false_eq_true, if_false, if_true, exists_and_left, exists_and_right, exists_eq_left, reduceCtorEq, false_and, exists_false, or_false, false_or, exists_const, ite_true, ite_false, ↓reduceIte, Bool.not_true, Bool.not_false, Bool.true_eq_false, Nat.zero_eq, Nat.succ_eq_add_one, Nat.sub_self, Nat.sub_zero, Nat.reduceEqDiff]
    refine ⟨⟨_, .inl hf1⟩, ⟨_, .inl hr1⟩, ?_⟩
    rw [lenR_r (.inl hr1)]
    refine ⟨m, cA, g, n + k, st.length, rfl, L1, ⟨by omega, by omega, by omega⟩, fun v μ2 v0 v1 L2 hK2 => ?_⟩
    have hr2 : μ2 r = some (.lst st) := hK2 r _ (by simp [r1, r3]) hr1
    have hf2 : μ2 f = some (.lst fs) := hK2 f _ (by simp [f1, f3]) hf1
    have hv : v.toNat < st.length := by omega
    refine ⟨r, st, v, v.toNat, st[v.toNat], rfl, rfl, hr2, ixN_nat v0 v1, List.getElem?_eq_getElem hv, ?_⟩
    refine appendR_l (by rw [updM_ne (Ne.symm hrf)]; exact hf2) (by omega) ?_
    refine hN _ _ ⟨st.eraseIdx v.toNat, fs ++ [st[v.toNat]], _, rfl, ?_, ?_, ?_, updM_same, ?_, by simp [hl], by omega⟩
    · rw [show n + (k + 1) = n + k + 1 by omega]
      exact (L2.put r1 r2 r3).put f1 f2 f3
    · intro a o ha e
      have h1 := mu_ne e hr
      have h2 := mu_ne e f0
      rw [updM_ne h2, updM_ne h1]
      exact hK2 a o ha (hK a o ha e)
    · rw [updM_ne hrf, updM_same]
    · refine List.Perm.trans ?_ hp
      rw [List.append_assoc]
      exact List.Perm.append_left _ (erase_perm hv)
end Sw

set_option Elab.async false
set_option linter.all false
set_option maxRecDepth 100000
set_option maxHeartbeats 2000000
namespace Sw
open PySem PySem.Spec L2 DL RM
/-! ### a walk round the ring -/
structure WkS (n : Nat) (row moves : List Int) (hl : List (List Int)) : Prop where
  rk : Rk row n
  ml : moves.length = n
  hlen : hl.length = n
  pos : ∀ t : Nat, t < n → row.getD (((t : Int) + moves.getD t 0) % n).toNat 0 = t
  bd : ∀ t : Nat, t < n → -(n : Int) < moves.getD t 0 ∧ moves.getD t 0 < n
  held : ∀ t : Nat, t < n → ∀ j : Int, (0 ≤ j ∧ j ≤ moves.getD t 0) ∨ (moves.getD t 0 ≤ j ∧ j ≤ 0) → (t : Int) ∈ hl.getD (((t : Int) + j) % n).toNat []
  hn : ∀ l ∈ hl, l.Nodup ∧ ∀ x ∈ l, 0 ≤ x ∧ x < (n : Int)
  sum : moves.sum = 0
theorem sum_set : ∀ {l : List Int} {i : Nat} (v : Int), i < l.length → (l.set i v).sum + l.getD i 0 = l.sum + v
  | [], _, _, h => absurd h (Nat.not_lt_zero _)
  | a :: t, 0, v, _ => by simp; omega
  | a :: t, i + 1, v, h => by
    have ih := sum_set (l := t) (i := i) v (by simpa using h)
    simp at ih ⊢; omega
theorem getD_setL {α : Type} {l : List α} {i j : Nat} {v d : α} (h : i < l.length) : (l.set i v).getD j d = if i = j then v else l.getD j d := by
  rw [List.getD_eq_getElem?_getD, List.getD_eq_getElem?_getD, List.getElem?_set]
  by_cases e : i = j
  · subst e; simp [h]
  · simp [e]
theorem getD_memL {α : Type} {l : List α} {i : Nat} {d : α} (h : i < l.length) : l.getD i d ∈ l := by
  rw [List.getD_eq_getElem?_getD, List.getElem?_eq_getElem h]
  exact List.getElem_mem h
theorem WkS.vd {n : Nat} {row moves : List Int} {hl : List (List Int)} (h : WkS n row moves hl) (h3 : 3 ≤ n) (h20 : n ≤ 20) : Vd moves := by
  have hl := h.ml
  refine ⟨by omega, by omega, fun x hx => ?_, h.sum, ?_⟩
  · obtain ⟨i, hi, e⟩ := List.mem_iff_getElem.mp hx
    have := h.bd i (by omega)
    rw [List.getD_eq_getElem?_getD, List.getElem?_eq_getElem hi] at this
    simp [e] at this
    omega
  · rw [hl]
    refine nodup_map_on List.nodup_range fun x hx y hy e => ?_
    have hx := List.mem_range.mp hx
    have hy := List.mem_range.mp hy
    have p1 := h.pos x hx
    have p2 := h.pos y hy
    rw [e] at p1
    omega
theorem getD_rep {n i : Nat} : (List.replicate n (0 : Int)).getD i 0 = 0 := by
  rw [List.getD_eq_getElem?_getD, List.getElem?_replicate]
  split <;> rfl
theorem WkS.start {n : Nat} (hn : 0 < n) : WkS n (iota n) (List.replicate n 0) ((List.range n).map fun i : Nat => [(i : Int)]) := by
  refine ⟨iota_rk n, by simp, by simp, fun t ht => ?_, fun t ht => by rw [getD_rep]; omega, fun t ht j hj => ?_, fun l hl => ?_, by simp⟩
  · rw [getD_rep, Int.add_zero, Int.emod_eq_of_lt (by omega) (by omega), Int.toNat_natCast, iota_get ht]
  · rw [getD_rep] at hj
    have : j = 0 := by omega
    subst this
    rw [Int.add_zero, Int.emod_eq_of_lt (by omega) (by omega), Int.toNat_natCast, List.getD_eq_getElem?_getD, List.getElem?_eq_getElem (by simpa using ht)]
    simp
  · obtain ⟨i, hi, rfl⟩ := List.mem_map.mp hl
    have := List.mem_range.mp hi
    simp; omega
section
variable {n : Nat} {row moves : List Int} {hl : List (List Int)} {s : Nat}
def mv1 (n s : Nat) (row moves : List Int) : List Int := (moves.set (row.getD s 0).toNat (moves.getD (row.getD s 0).toNat 0 + 1)).set (row.getD (oth n s) 0).toNat (moves.getD (row.getD (oth n s) 0).toNat 0 - 1)
def hl1 (n s : Nat) (row : List Int) (hl : List (List Int)) : List (List Int) := (hl.set s (hl.getD s [] ++ [row.getD (oth n s) 0])).set (oth n s) (hl.getD (oth n s) [] ++ [row.getD s 0])
theorem WkS.step (h : WkS n row moves hl) (hn : 2 ≤ n) (hs : s < n) (h1 : 0 ≤ moves.getD (row.getD s 0).toNat 0) (h2 : moves.getD (row.getD (oth n s) 0).toNat 0 ≤ 0)
    (h3 : row.getD (oth n s) 0 ∉ hl.getD s []) (h4 : row.getD s 0 ∉ hl.getD (oth n s) []) : WkS n (art n s row) (mv1 n s row moves) (hl1 n s row hl) := by
  have hp : (0 : Int) < n := by omega
  have ho := oth_lt (n := n) (s := s) (by omega)
  have hne := oth_ne hn hs
  have a1 := h.rk.at hs
  have a2 := h.rk.at ho
  have hl0 := h.hlen
  have ml := h.ml
  have hab : (row.getD s 0).toNat ≠ (row.getD (oth n s) 0).toNat := fun e => hne (h.rk.inj ho hs e.symm)
  have oi := oth_int (n := n) (s := s)
  generalize hA : (row.getD s 0).toNat = A at h1 hab
  generalize hB : (row.getD (oth n s) 0).toNat = B at h2 hab
  have hAn : A < n := by omega
  have hBn : B < n := by omega
  have eA : row.getD s 0 = (A : Int) := by omega
  have eB : row.getD (oth n s) 0 = (B : Int) := by omega
  -- where they stand
  have pA : (((A : Int) + moves.getD A 0) % n).toNat = s := by
    have b0 := Int.emod_nonneg ((A : Int) + moves.getD A 0) (Int.ne_of_gt hp)
    have b1 := Int.emod_lt_of_pos ((A : Int) + moves.getD A 0) hp
    exact h.rk.inj (by omega) hs (by rw [h.pos A hAn, eA])
  have pB : (((B : Int) + moves.getD B 0) % n).toNat = oth n s := by
    have b0 := Int.emod_nonneg ((B : Int) + moves.getD B 0) (Int.ne_of_gt hp)
    have b1 := Int.emod_lt_of_pos ((B : Int) + moves.getD B 0) hp
    exact h.rk.inj (by omega) ho (by rw [h.pos B hBn, eB])
  have zA : ((A : Int) + moves.getD A 0) % n = s := by
    have b0 := Int.emod_nonneg ((A : Int) + moves.getD A 0) (Int.ne_of_gt hp)
    omega
  have zB : ((B : Int) + moves.getD B 0) % n = (oth n s : Nat) := by
    have b0 := Int.emod_nonneg ((B : Int) + moves.getD B 0) (Int.ne_of_gt hp)
    omega
  have qA : ((A : Int) + (moves.getD A 0 + 1)) % n = (oth n s : Nat) := by
    rw [oi, emod_eq_iff]
    have : (n : Int) ∣ ((A : Int) + moves.getD A 0) - s := emod_eq_iff.mp (by rw [zA, Int.emod_eq_of_lt (by omega) (by omega)])
    rw [show (A : Int) + (moves.getD A 0 + 1) - (s + 1) = (A + moves.getD A 0) - s by omega]
    exact this
  have qB : ((B : Int) + (moves.getD B 0 - 1)) % n = s := by
    have e0 : ((s : Int)) % n = s := Int.emod_eq_of_lt (by omega) (by omega)
    rw [← e0, emod_eq_iff]
    have : (n : Int) ∣ ((B : Int) + moves.getD B 0) - ((s : Int) + 1) := emod_eq_iff.mp (by rw [zB, oi])
    rw [show (B : Int) + (moves.getD B 0 - 1) - s = (B + moves.getD B 0) - (s + 1) by omega]
    exact this
  have gm : ∀ t, (mv1 n s row moves).getD t 0 = if B = t then moves.getD B 0 - 1 else if A = t then moves.getD A 0 + 1 else moves.getD t 0 := fun t => by
    unfold mv1
    rw [hA, hB, getD_set (by rw [List.length_set]; omega), getD_set (by omega)]
  have gr : ∀ t, (art n s row).getD t 0 = if oth n s = t then (A : Int) else if s = t then (B : Int) else row.getD t 0 := fun t => by
    unfold art
    rw [getD_set (by rw [List.length_set, h.rk.len]; exact ho), getD_set (by rw [h.rk.len]; exact hs), eA, eB]
  have gh : ∀ t, (hl1 n s row hl).getD t [] = if oth n s = t then hl.getD (oth n s) [] ++ [(A : Int)] else if s = t then hl.getD s [] ++ [(B : Int)] else hl.getD t [] := fun t => by
    unfold hl1
    rw [getD_setL (by rw [List.length_set]; omega), getD_setL (by omega), eA, eB]
  have sup : ∀ t x, x ∈ hl.getD t [] → x ∈ (hl1 n s row hl).getD t [] := fun t x hx => by
    rw [gh]
    split
    · rename_i e; subst e; exact List.mem_append_left _ hx
    · split
      · rename_i e; subst e; exact List.mem_append_left _ hx
      · exact hx
  -- not round the whole ring
  have kA : moves.getD A 0 + 1 < n := by
    have b := h.bd A hAn
    rcases (show moves.getD A 0 + 1 < n ∨ moves.getD A 0 + 1 = n by omega) with z | z
    · exact z
    · exfalso
      have hz := h.held A hAn 0 (.inl ⟨by omega, h1⟩)
      have e : ((A : Int) + 0) % n = (oth n s : Nat) := by
        rw [← qA, z, emod_eq_iff]
        exact ⟨-1, by omega⟩
      rw [e, Int.toNat_natCast] at hz
      rw [eA] at h4
      exact h4 hz
  have kB : -(n : Int) < moves.getD B 0 - 1 := by
    have b := h.bd B hBn
    rcases (show -(n : Int) < moves.getD B 0 - 1 ∨ moves.getD B 0 - 1 = -(n : Int) by omega) with z | z
    · exact z
    · exfalso
      have hz := h.held B hBn 0 (.inr ⟨h2, by omega⟩)
      have e : ((B : Int) + 0) % n = s := by
        rw [← qB, z]
        have : ((B : Int) + 0) % n = ((B : Int) + -(n : Int)) % n := by rw [emod_eq_iff]; exact ⟨1, by omega⟩
        exact this
      rw [e, Int.toNat_natCast] at hz
      rw [eB] at h3
      exact h3 hz
  refine ⟨art_rk hn hs h.rk, by unfold mv1; rw [List.length_set, List.length_set]; exact ml, by unfold hl1; rw [List.length_set, List.length_set]; exact hl0, fun t ht => ?_, fun t ht => ?_, fun t ht j hj => ?_, fun l hm => ?_, ?_⟩
  · rw [gm]
    by_cases e1 : B = t
    · subst e1
      rw [if_pos rfl, qB, Int.toNat_natCast, gr, if_neg hne, if_pos rfl]
    · by_cases e2 : A = t
      · subst e2
        rw [if_neg e1, if_pos rfl, qA, Int.toNat_natCast, gr, if_pos rfl]
      · rw [if_neg e1, if_neg e2, gr]
        have hpt := h.pos t ht
        rw [if_neg (fun z => ?_), if_neg (fun z => ?_)]
        · exact hpt
        · rw [← z, eA] at hpt; omega
        · rw [← z, eB] at hpt; omega
  · rw [gm]
    have b := h.bd t ht
    by_cases e1 : B = t
    · rw [if_pos e1]; have := h.bd B hBn; omega
    · by_cases e2 : A = t
      · rw [if_neg e1, if_pos e2]; have := h.bd A hAn; omega
      · rw [if_neg e1, if_neg e2]; exact b
  · rw [gm] at hj
    by_cases e1 : B = t
    · subst e1
      rw [if_pos rfl] at hj
      rcases (show j = moves.getD B 0 - 1 ∨ (moves.getD B 0 ≤ j ∧ j ≤ 0) by omega) with z | z
      · rw [z, qB, Int.toNat_natCast, gh, if_neg hne, if_pos rfl]
        exact List.mem_append_right _ (by simp)
      · exact sup _ _ (h.held B hBn j (.inr z))
    · by_cases e2 : A = t
      · subst e2
        rw [if_neg e1, if_pos rfl] at hj
        rcases (show j = moves.getD A 0 + 1 ∨ (0 ≤ j ∧ j ≤ moves.getD A 0) by omega) with z | z
        · rw [z, qA, Int.toNat_natCast, gh, if_pos rfl]
          exact List.mem_append_right _ (by simp)
        · exact sup _ _ (h.held A hAn j (.inl z))
      · rw [if_neg e1, if_neg e2] at hj
        exact sup _ _ (h.held t ht j hj)
  · have old : ∀ t, t < n → (hl.getD t []).Nodup ∧ ∀ x ∈ hl.getD t [], 0 ≤ x ∧ x < (n : Int) := fun t ht => h.hn _ (getD_memL (by omega))
    have add : ∀ (l : List Int) (x : Int), (l.Nodup ∧ ∀ y ∈ l, 0 ≤ y ∧ y < (n : Int)) → x ∉ l → (0 ≤ x ∧ x < (n : Int)) → ((l ++ [x]).Nodup ∧ ∀ y ∈ l ++ [x], 0 ≤ y ∧ y < (n : Int)) := fun l x ⟨g1, g2⟩ hx hb => by
      refine ⟨List.nodup_append.mpr ⟨g1, by simp, fun a ha b hb e => hx ?_⟩, fun y hy => ?_⟩
      · rw [List.mem_singleton.mp hb] at e
        rw [← e]; exact ha
      · rcases List.mem_append.mp hy with z | z
        · exact g2 y z
        · rw [List.mem_singleton.mp z]; exact hb
    unfold hl1 at hm
    rcases List.mem_or_eq_of_mem_set hm with z | rfl
    · rcases List.mem_or_eq_of_mem_set z with z | rfl
      · exact h.hn l z
      · exact add _ _ (old s hs) h3 (by omega)
    · exact add _ _ (old _ ho) h4 (by omega)
  · have m1 := sum_set (l := moves) (i := A) (moves.getD A 0 + 1) (by omega)
    have m2 := sum_set (l := moves.set A (moves.getD A 0 + 1)) (i := B) (moves.getD B 0 - 1) (by rw [List.length_set]; omega)
    rw [getD_set (by omega), if_neg hab] at m2
    have := h.sum
    unfold mv1
    rw [hA, hB]
    omega
end
end Sw

set_option Elab.async false
set_option linter.all false
set_option maxRecDepth 100000
set_option maxHeartbeats 2000000
namespace Sw
open PySem PySem.Spec L2 DL RM
theorem beq_int {x y : Int} : beq (.int x) (.int y) = decide (x = y) := by
  unfold beq
  simp only [py, PyData.eqv]
  by_cases h : x = y
  · simp [h]
  · simp [h]
theorem anyEq_int (x : Int) (l : List Int) : anyEq (.int x) (nI l) = decide (x ∈ l) := by
  unfold anyEq
  induction l with
  | nil => rfl
  | cons a t ih =>
    simp only [nI, List.map_cons, List.any_cons, beq_int] at ih ⊢
    rw [ih]
    by_cases h : a = x
    · simp [h]
    · have h' : ¬ x = a := fun z => h z.symm
      simp [h, h']
theorem inD_i {neg : Bool} {μ : Mu} {a : Addr} {l : List Int} {x : Int} {R : DK} (h : μ a = some (.lst (nI l))) (hR : R (.bl (if neg then !decide (x ∈ l) else decide (x ∈ l))) μ) : inD neg (.int x) (.ref a) μ R := by
  refine .inl ⟨nI l, .inl h, ⟨rfl, by unfold depD; simp [py, PyData.depth], plains_ints l, by have := deps_nI l; omega⟩, ?_⟩
  rw [anyEq_int]; exact hR
/-- who held what -/
structure Hld (m g : Addr) (k : Nat) (q : Addr) (hs : List Addr) (hl : List (List Int)) (μ : Mu) : Prop where
  mq : μ q = some (.lst (hs.map D.ref))
  l1 : hs.length = k
  l2 : hl.length = k
  at_ : ∀ i, i < k → μ (hs.getD i 0) = some (.lst (nI (hl.getD i [])))
  ok : ∀ l ∈ hl, l.Nodup ∧ ∀ x ∈ l, 0 ≤ x ∧ x < (k : Int)
  nq : q ≠ m ∧ q ≠ g
  nh : ∀ a ∈ hs, a ≠ m ∧ a ≠ g
theorem not_mg {a m g : Addr} (h1 : a ≠ m) (h2 : a ≠ g) : a ∉ [m, g] := by
  simp only [List.mem_cons, List.not_mem_nil, or_false, not_or]
  exact ⟨h1, h2⟩
theorem rep_flat : ∀ j : Nat, (List.replicate j [D.int 0]).flatten = nI (List.replicate j 0)
  | 0 => rfl
  | j + 1 => by rw [List.replicate_succ, List.flatten_cons, rep_flat j, List.replicate_succ]; rfl
theorem Hld.kp {m g q : Addr} {k : Nat} {hs : List Addr} {hl : List (List Int)} {μ μ' : Mu} (h : Hld m g k q hs hl μ) (hK : Kp [m, g] μ μ') : Hld m g k q hs hl μ' :=
  ⟨hK q _ (not_mg h.nq.1 h.nq.2) h.mq, h.l1, h.l2, fun i hi => hK _ _ (have z := h.nh (hs.getD i 0) (getD_memL (by rw [h.l1]; exact hi)); not_mg z.1 z.2) (h.at_ i hi), h.ok, h.nq, h.nh⟩
theorem Hld.ix {m g q : Addr} {k : Nat} {hs : List Addr} {hl : List (List Int)} {μ : Mu} {R : DK} (h : Hld m g k q hs hl μ) {i : Int} (h0 : 0 ≤ i) (h1 : i < k) (hR : R (.ref (hs.getD i.toNat 0)) μ) : ixD (.ref q) (.int i) μ R := by
  have hi : i.toNat < hs.length := by rw [h.l1]; omega
  refine (ixD_l (.inl h.mq) (d := .ref (hs.getD i.toNat 0)) (atI_nat h0 ?_)).mpr hR
  rw [List.getElem?_map, List.getElem?_eq_getElem hi, List.getD_eq_getElem?_getD, List.getElem?_eq_getElem hi]; rfl
theorem Hld.put {m g q p : Addr} {k : Nat} {hs : List Addr} {hl : List (List Int)} {μ : Mu} {o : DO} (h : Hld m g k q hs hl μ) (h1 : p ≠ q) (h2 : p ∉ hs) : Hld m g k q hs hl (updM μ p o) :=
  ⟨by rw [updM_ne (Ne.symm h1)]; exact h.mq, h.l1, h.l2, fun i hi => by rw [updM_ne (fun z => h2 (by rw [← z]; exact getD_memL (by rw [h.l1]; exact hi)))]; exact h.at_ i hi, h.ok, h.nq, h.nh⟩
def sp_law_ring_walk : DSp := fun ds μ RX R => ∃ m cA g n k, ds = [.ref m, .int (k : Nat)] ∧ LM m cA g n μ ∧ (3 ≤ k ∧ k ≤ 20 ∧ n < 900000) ∧
  ∀ q hs hl mv μ' n', n' ≤ n + 200 → LM m cA g n' μ' → Kp [m, g] μ μ' → Hld m g k q hs hl μ' → Vd mv → mv.length = k → R (.tup [.ref q, tI mv]) μ'
def t_law_ring_walk : DS :=
  (mSeq (mPar3 2 3 4 (mCons (mListRg (mRg1 (mVar 1))) (mCons (mLc (mR1 (mVar 1)) (gNm 10) mYes (mLst (mCons (mVar 10) mNil)) [10]) (mCons (mOp mulD (mLst (mCons (mC (.int 0)) mNil)) (mVar 1)) mNil))))
  (mSeq (mFor (mR1 (mCall sp_law_draw [] (mCons (mVar 0) (mCons (mOp mulD (mC (.int 3)) (mVar 1)) mNil)))) (gNm 5)
  (mSeq (mSet 6 (mCall sp_law_draw [] (mCons (mVar 0) (mCons (mVar 1) mNil))))
  (mSeq (mSet 7 (mOp modD (mOp addD (mVar 6) (mC (.int 1))) (mVar 1)))
  (mSeq (mPar 8 9 (mCons (mOp ixD (mVar 2) (mVar 6)) (mCons (mOp ixD (mVar 2) (mVar 7)) mNil)))
  (mIfS (mAnd (mTest (mOp geD (mOp ixD (mVar 4) (mVar 8)) (mC (.int 0)))) (mAnd (mTest (mOp leD (mOp ixD (mVar 4) (mVar 9)) (mC (.int 0)))) (mAnd (mTest (mOp (inD true) (mVar 9) (mOp ixD (mVar 3) (mVar 6)))) (mTest (mOp (inD true) (mVar 8) (mOp ixD (mVar 3) (mVar 7)))))))
  (mSeq (mAsg (mTup (mCons (mOp addD (mOp ixD (mVar 4) (mVar 8)) (mC (.int 1))) (mCons (mOp subD (mOp ixD (mVar 4) (mVar 9)) (mC (.int 1))) mNil))) (gTp 2 (gsCons (gSb (mVar 4) (mVar 8)) (gsCons (gSb (mVar 4) (mVar 9)) gsNil))))
  (mSeq (mAsg (mTup (mCons (mVar 9) (mCons (mVar 8) mNil))) (gTp 2 (gsCons (gSb (mVar 2) (mVar 6)) (gsCons (gSb (mVar 2) (mVar 7)) gsNil))))
  (mSeq (mExp (mBML appendR (mOp ixD (mVar 3) (mVar 6)) (mCons (mVar 9) mNil)))
  (mExp (mBML appendR (mOp ixD (mVar 3) (mVar 7)) (mCons (mVar 8) mNil))))))
  mNx)))))
  (mRet (mTup (mCons (mVar 3) (mCons (mB tupR (mCons (mVar 4) mNil)) mNil))))))
abbrev N_law_ring_walk : List Str := ["_law_m", "_law_many", "_law_row", "_law_held", "_law_moves", "_law_n", "_law_at", "_law_near", "_law_thing", "_law_far", "_law_who"]
abbrev P_law_ring_walk : List Str := ["_law_m", "_law_many"]
structure RW (μ0 : Mu) (m cA g : Addr) (k : Nat) (rw q mv : Addr) (hs : List Addr) (n' : Nat) (row moves : List Int) (hl : List (List Int)) (μ : Mu) : Prop where
  lm : LM m cA g n' μ
  kp : Kp [m, g] μ0 μ
  h : Hld m g k q hs hl μ
  st : WkS k row moves hl
  mr : μ rw = some (.lst (nI row))
  mm : μ mv = some (.lst (nI moves))
  r0 : μ0 rw = none
  v0 : μ0 mv = none
  q0 : μ0 q = none
  h0 : ∀ a ∈ hs, μ0 a = none
  rv : rw ≠ mv
  rq : rw ≠ q
  vq : mv ≠ q
  hr : rw ∉ hs
  hv : mv ∉ hs
  hq : q ∉ hs
  hn : hs.Nodup
  ne : rw ≠ m ∧ rw ≠ cA ∧ rw ≠ g ∧ mv ≠ m ∧ mv ≠ cA ∧ mv ≠ g ∧ ∀ a ∈ hs, a ≠ cA
theorem RW.draw {μ0 μ μ' : Mu} {m cA g rw q mv : Addr} {k n' : Nat} {hs : List Addr} {row moves : List Int} {hl : List (List Int)} (w : RW μ0 m cA g k rw q mv hs n' row moves hl μ) (L : LM m cA g (n' + 1) μ') (hK : Kp [m, g] μ μ') :
    RW μ0 m cA g k rw q mv hs (n' + 1) row moves hl μ' :=
  ⟨L, w.kp.trans hK, w.h.kp hK, w.st, hK _ _ (by simp [w.ne.1, w.ne.2.2.1]) w.mr, hK _ _ (by simp [w.ne.2.2.2.1, w.ne.2.2.2.2.2.1]) w.mm, w.r0, w.v0, w.q0, w.h0, w.rv, w.rq, w.vq, w.hr, w.hv, w.hq, w.hn, w.ne⟩
theorem ne_mem {a b : Addr} {hs : List Addr} (h : a ∉ hs) (g : b ∈ hs) : a ≠ b := fun z => h (by rw [z]; exact g)
theorem Kp.over {A : List Addr} {μ0 μ : Mu} {p : Addr} {o : DO} (h : Kp A μ0 μ) (h0 : μ0 p = none) : Kp A μ0 (updM μ p o) := fun b w hb e => by
  rw [updM_ne (mu_ne e h0)]; exact h b w hb e
theorem law_law_ring_walk : ∀ ds μ RX R, sp_law_ring_walk ds μ RX R → bodySp P_law_ring_walk.length N_law_ring_walk.length t_law_ring_walk ds μ RX R := by
  rintro _ μ0 RX R ⟨m, cA, g, n, k, rfl, L, ⟨k3, k20, hn⟩, h⟩
  refine ⟨rfl, ?_⟩
  simp only [t_law_ring_walk, mLc, bodySp, mSeq, mRet, mRetN, mExp, mOp, mUn, mVar, mC, mB, mCons, mNil, mSet, mPar, mPar3, mCall, mTest, mIfS, mIf, mAnd, mOr, mNot, mAndV, mOrV, mNotV, mChain, mNx, mPass, mAsg, gNm, gTp, gsCons, gsNil, mIt, mEnum, mR1, mR2, rk1, rk2, mTup, mLst, mYes, mAug, mSl, mPart, mNoPart, addD_i, addD_t, addD_r, addD_s, subD_i, mulD_i, mulD_r, divD_i, modD_i, powD_i, ltD_i, leD_i, gtD_i, geD_i, eqD_i, eqD_s, eqD_r, neD_i, neD_s, neD_r, isND, notND, negD_i, revD_t, revD_r, lenR_t, listR_t, tupR_t, mListRg, mTupRg, mRg1, mRg2, ipAdd, ipSub, List.map_cons, List.map_nil, List.length_cons, List.length_nil, List.replicate, List.cons_append, List.nil_append, List.append_nil, List.getElem?_cons_zero, List.getElem?_cons_succ, List.set_cons_zero, List.set_cons_succ, Option.some.injEq, exists_eq_left', List.cons.injEq, and_assoc, D.int.injEq, D.bl.injEq, D.str.injEq, D.tup.injEq, D.wtup.injEq, D.flst.injEq, D.ref.injEq, wipeD, Nat.reduceSub, Nat.reduceAdd, true_and, and_true, Bool.false_eq_true, if_false, if_true, exists_and_left, exists_and_right, exists_eq_left, reduceCtorEq, false_and, exists_false, or_false, false_or, exists_const, ite_true, ite_false, ↓reduceIte, Bool.not_true, Bool.not_false, Bool.true_eq_false, Nat.zero_eq, Nat.succ_eq_add_one, Nat.sub_self, Nat.sub_zero, Nat.reduceEqDiff]
  refine ⟨RgOk.of_le (by omega) (by omega) (by omega) (by omega), fun rw hrw => ⟨by omega, by omega, fun q hq => ?_⟩⟩
  have hrq : rw ≠ q := mu_ne updM_same hq
  have q0 : μ0 q = none := (Ex.new hrw).none hq
  obtain ⟨r1, r2, r3⟩ := L.fresh hrw
  obtain ⟨q1, q2, q3⟩ := L.fresh q0
  refine lcD_ind (fun l acc μ' => ∃ (j : Nat) (hs : List Addr), l = (rgD 0 k).drop j ∧ j ≤ k ∧ acc = hs.map D.ref ∧ hs.length = j ∧ Ex μ0 μ' ∧ μ' q = some (.lst acc) ∧ μ' rw = some (.lst (rgD 0 k)) ∧ hs.Nodup ∧ (∀ a ∈ hs, μ0 a = none ∧ a ≠ rw ∧ a ≠ q) ∧
    ∀ i, i < j → μ' (hs.getD i 0) = some (.lst (nI [(i : Int)]))) ?_ ?_ _ _ _ ⟨0, [], by simp, Nat.zero_le _, rfl, rfl, (Ex.new hrw).trans (Ex.new hq), updM_same, by rw [updM_ne hrq, updM_same], by simp, by simp, by omega⟩
  · rintro acc μ1 ⟨j, hs, e1, e2, rfl, e3, hE, hm1, hr1, hnd, hall, hat⟩
    have hjk : j = k := by
      have := congrArg List.length e1
      rw [List.length_drop, rgD_len] at this
      simp at this; omega
    subst hjk
    refine ⟨trivial, ?_⟩
    refine ⟨by have := sizeLine_big; omega, fun e he => ?_⟩
    have e0 : μ0 e = none := hE.none he
    refine ⟨[.int 0], updM_same, by omega, by omega, by have := sizeLine_big; simp; omega, fun mv hmv => ?_⟩
    have hv0 : μ0 mv = none := (hE.trans (Ex.new he)).none hmv
    obtain ⟨v1, v2, v3⟩ := L.fresh hv0
    have hme : ∀ a ∈ hs, a ≠ e := fun a ha => by
      obtain ⟨i, hi, rfl⟩ := List.mem_iff_getElem.mp ha
      have := hat i (by omega)
      rw [List.getD_eq_getElem?_getD, List.getElem?_eq_getElem hi] at this
      exact mu_ne this he
    have hmm : ∀ a ∈ hs, a ≠ mv := fun a ha => by
      obtain ⟨i, hi, rfl⟩ := List.mem_iff_getElem.mp ha
      have := hat i (by omega)
      rw [List.getD_eq_getElem?_getD, List.getElem?_eq_getElem hi] at this
      exact mu_ne (by rw [updM_ne (hme _ ha)]; exact this) hmv
    have hre : rw ≠ e := mu_ne hr1 he
    have hqe : q ≠ e := mu_ne hm1 he
    have hrv : rw ≠ mv := mu_ne (by rw [updM_ne hre]; exact hr1) hmv
    have hqv : q ≠ mv := mu_ne (by rw [updM_ne hqe]; exact hm1) hmv
    have hrep : (List.replicate (j : Int).toNat [D.int 0]).flatten = nI (List.replicate j 0) := by rw [Int.toNat_natCast]; exact rep_flat j
    have hE3 : Ex μ0 (updM (updM μ1 e (.lst [.int 0])) mv (.lst (List.replicate (j : Int).toNat [D.int 0]).flatten)) := (hE.trans (Ex.new he)).trans (Ex.new hmv)
    have w0 : RW μ0 m cA g j rw q mv hs n (iota j) (List.replicate j 0) ((List.range j).map fun i : Nat => [(i : Int)]) (updM (updM μ1 e (.lst [.int 0])) mv (.lst (List.replicate (j : Int).toNat [D.int 0]).flatten)) := by
      refine ⟨L.ex hE3, hE3.kp, ⟨by rw [updM_ne hqv, updM_ne hqe]; exact hm1, e3, by simp, fun i hi => ?_, (WkS.start (n := j) (by omega)).hn, ⟨q1, q3⟩, fun a ha => ⟨(L.fresh (hall a ha).1).1, (L.fresh (hall a ha).1).2.2⟩⟩, WkS.start (by omega), ?_, by rw [updM_same, hrep],
        hrw, hv0, q0, fun a ha => (hall a ha).1, hrv, hrq, Ne.symm hqv, fun z => (hall _ z).2.1 rfl, fun z => hmm _ z rfl, fun z => (hall _ z).2.2 rfl, hnd, ⟨r1, r2, r3, v1, v2, v3, fun a ha => (L.fresh (hall a ha).1).2.1⟩⟩
      · have hmem : hs.getD i 0 ∈ hs := getD_memL (by omega)
        rw [updM_ne (hmm _ hmem), updM_ne (hme _ hmem), hat i hi]
        simp [hi]
      · rw [updM_ne hrv, updM_ne hre, hr1, rgD_ints]
        unfold iota; simp
    generalize updM (updM μ1 e (.lst [.int 0])) mv (.lst (List.replicate (j : Int).toNat [D.int 0]).flatten) = μ2 at w0
    simp only [mFor, bodySp, mSeq, mRet, mRetN, mExp, mOp, mUn, mVar, mC, mB, mCons, mNil, mSet, mPar, mPar3, mCall, mTest, mIfS, mIf, mAnd, mOr, mNot, mAndV, mOrV, mNotV, mChain, mNx, mPass, mAsg, gNm, gTp, gsCons, gsNil, mIt, mEnum, mR1, mR2, rk1, rk2, mTup, mLst, mYes, mAug, mSl, mPart, mNoPart, addD_i, addD_t, addD_r, addD_s, subD_i, mulD_i, mulD_r, divD_i, modD_i, powD_i, ltD_i, leD_i, gtD_i, geD_i, eqD_i, eqD_s, eqD_r, neD_i, neD_s, neD_r, isND, notND, negD_i, revD_t, revD_r, lenR_t, listR_t, tupR_t, mListRg, mTupRg, mRg1, mRg2, ipAdd, ipSub, List.map_cons, List.map_nil, List.length_cons, List.length_nil, List.replicate, List.cons_append, List.nil_append, List.append_nil, List.getElem?_cons_zero, List.getElem?_cons_succ, List.set_cons_zero, List.set_cons_succ, Option.some.injEq, exists_eq_left', List.cons.injEq, and_assoc, D.int.injEq, D.bl.injEq, D.str.injEq, D.tup.injEq, D.wtup.injEq, D.flst.injEq, D.ref.injEq, wipeD, Nat.reduceSub, Nat.reduceAdd, true_and, and_true, Bool.false_eq_true, if_false, if_true, exists_and_left, exists_and_right, exists_eq_left, reduceCtorEq, false_and, exists_false, or_false, false_or, exists_const, ite_true, ite_false, ↓reduceIte, Bool.not_true, Bool.not_false, Bool.true_eq_false, Nat.zero_eq, Nat.succ_eq_add_one, Nat.sub_self, Nat.sub_zero, Nat.reduceEqDiff]
    refine ⟨cmul_l (by omega), m, cA, g, n, 3 * j, rfl, w0.lm, ⟨by omega, by omega, by omega⟩, fun v μ3 v0 v1 L3 hK3 => ?_⟩
    simp only [bodySp, mSeq, mRet, mRetN, mExp, mOp, mUn, mVar, mC, mB, mCons, mNil, mSet, mPar, mPar3, mCall, mTest, mIfS, mIf, mAnd, mOr, mNot, mAndV, mOrV, mNotV, mChain, mNx, mPass, mAsg, gNm, gTp, gsCons, gsNil, mIt, mEnum, mR1, mR2, rk1, rk2, mTup, mLst, mYes, mAug, mSl, mPart, mNoPart, addD_i, addD_t, addD_r, addD_s, subD_i, mulD_i, mulD_r, divD_i, modD_i, powD_i, ltD_i, leD_i, gtD_i, geD_i, eqD_i, eqD_s, eqD_r, neD_i, neD_s, neD_r, isND, notND, negD_i, revD_t, revD_r, lenR_t, listR_t, tupR_t, mListRg, mTupRg, mRg1, mRg2, ipAdd, ipSub, List.map_cons, List.map_nil, List.length_cons, List.length_nil, List.replicate, List.cons_append, List.nil_append, List.append_nil, List.getElem?_cons_zero, List.getElem?_cons_succ, List.set_cons_zero, List.set_cons_succ, Option.some.injEq, exists_eq_left', List.cons.injEq, and_assoc, D.int.injEq, D.bl.injEq, D.str.injEq, D.tup.injEq, D.wtup.injEq, D.flst.injEq, D.ref.injEq, wipeD, Nat.reduceSub, Nat.reduceAdd, true_and, and_true, Bool.false_eq_true, if_false, if_true, exists_and_left, exists_and_right, exists_eq_left, reduceCtorEq, false_and, exists_false, or_false, false_or, exists_const, ite_true, ite_false, ↓reduceIte, Bool.not_true, Bool.not_false, Bool.true_eq_false, Nat.zero_eq, Nat.succ_eq_add_one, Nat.sub_self, Nat.sub_zero, Nat.reduceEqDiff]
    refine ⟨by omega, by omega, ?_⟩
    have ev : rgD 0 v = rgD 0 (v.toNat : Nat) := by rw [Int.toNat_of_nonneg v0]
    rw [ev]
    refine forD_rng v.toNat (fun t δ μ => ∃ n' row moves hl o5 o6 o7 o8 o9 o10, δ = [some (.ref m), some (.int j), some (.ref rw), some (.ref q), some (.ref mv), o5, o6, o7, o8, o9, o10] ∧ RW μ0 m cA g j rw q mv hs n' row moves hl μ ∧ n' ≤ n + 1 + t) (fun _ => trivial) ?_ ?_ _ _
      ⟨_, _, _, _, _, _, _, _, _, _, rfl, w0.draw L3 hK3, by omega⟩
    · rintro _ μ4 ⟨n', row, moves, hl, o5, o6, o7, o8, o9, o10, rfl, w, hb⟩
      simp only [bodySp, mSeq, mRet, mRetN, mExp, mOp, mUn, mVar, mC, mB, mCons, mNil, mSet, mPar, mPar3, mCall, mTest, mIfS, mIf, mAnd, mOr, mNot, mAndV, mOrV, mNotV, mChain, mNx, mPass, mAsg, gNm, gTp, gsCons, gsNil, mIt, mEnum, mR1, mR2, rk1, rk2, mTup, mLst, mYes, mAug, mSl, mPart, mNoPart, addD_i, addD_t, addD_r, addD_s, subD_i, mulD_i, mulD_r, divD_i, modD_i, powD_i, ltD_i, leD_i, gtD_i, geD_i, eqD_i, eqD_s, eqD_r, neD_i, neD_s, neD_r, isND, notND, negD_i, revD_t, revD_r, lenR_t, listR_t, tupR_t, mListRg, mTupRg, mRg1, mRg2, ipAdd, ipSub, List.map_cons, List.map_nil, List.length_cons, List.length_nil, List.replicate, List.cons_append, List.nil_append, List.append_nil, List.getElem?_cons_zero, List.getElem?_cons_succ, List.set_cons_zero, List.set_cons_succ, Option.some.injEq, exists_eq_left', List.cons.injEq, and_assoc, D.int.injEq, D.bl.injEq, D.str.injEq, D.tup.injEq, D.wtup.injEq, D.flst.injEq, D.ref.injEq, wipeD, Nat.reduceSub, Nat.reduceAdd, true_and, and_true, Bool.false_eq_true, if_false, if_true, exists_and_left, exists_and_right, exists_eq_left, reduceCtorEq, false_and, exists_false, or_false, false_or, exists_const, ite_true, ite_false, ↓reduceIte, Bool.not_true, Bool.not_false, Bool.true_eq_false, Nat.zero_eq, Nat.succ_eq_add_one, Nat.sub_self, Nat.sub_zero, Nat.reduceEqDiff]
      refine ⟨_, .inl w.mm, by have := sizeLine_big; omega, ?_⟩
      exact h q hs hl moves μ4 n' (by omega) w.lm w.kp w.h (w.st.vd (by omega) (by omega)) w.st.ml
    · rintro t _ μ4 N ht hN ⟨n', row, moves, hl, o5, o6, o7, o8, o9, o10, rfl, w, hb⟩
      simp only [bodySp, mSeq, mRet, mRetN, mExp, mOp, mUn, mVar, mC, mB, mCons, mNil, mSet, mPar, mPar3, mCall, mTest, mIfS, mIf, mAnd, mOr, mNot, mAndV, mOrV, mNotV, mChain, mNx, mPass, mAsg, gNm, gTp, gsCons, gsNil, mIt, mEnum, mR1, mR2, rk1, rk2, mTup, mLst, mYes, mAug, mSl, mPart, mNoPart, addD_i, addD_t, addD_r, addD_s, subD_i, mulD_i, mulD_r, divD_i, modD_i, powD_i, ltD_i, leD_i, gtD_i, geD_i, eqD_i, eqD_s, eqD_r, neD_i, neD_s, neD_r, isND, notND, negD_i, revD_t, revD_r, lenR_t, listR_t, tupR_t, mListRg, mTupRg, mRg1, mRg2, ipAdd, ipSub, List.map_cons, List.map_nil, List.length_cons, List.length_nil, List.replicate, List.cons_append, List.nil_append, List.append_nil, List.getElem?_cons_zero, List.getElem?_cons_succ, List.set_cons_zero, List.set_cons_succ, Option.some.injEq, exists_eq_left', List.cons.injEq, and_assoc, D.int.injEq, D.bl.injEq, D.str.injEq, D.tup.injEq, D.wtup.injEq, D.flst.injEq, D.ref.injEq, wipeD, Nat.reduceSub, Nat.reduceAdd, true_and, and_true, Bool.false_eq_true, if_false, if_true, exists_and_left, exists_and_right, exists_eq_left, reduceCtorEq, false_and, exists_false, or_false, false_or, exists_const, ite_true, ite_false, ↓reduceIte, Bool.not_true, Bool.not_false, Bool.true_eq_false, Nat.zero_eq, Nat.succ_eq_add_one, Nat.sub_self, Nat.sub_zero, Nat.reduceEqDiff]
      refine ⟨m, cA, g, n', j, rfl, w.lm, ⟨by omega, by omega, by omega⟩, fun s μ5 s0 s1 L5 hK5 => ?_⟩
      have w5 := w.draw L5 hK5
      obtain ⟨s, rfl⟩ := Int.eq_ofNat_of_zero_le s0
      have hs' : s < j := by omega
      have ho := oth_lt (n := j) (s := s) (by omega)
      have hrl := w5.st.rk.len
      have hml := w5.st.ml
      have a1 := w5.st.rk.at hs'
      have a2 := w5.st.rk.at ho
      simp only [bodySp, mSeq, mRet, mRetN, mExp, mOp, mUn, mVar, mC, mB, mCons, mNil, mSet, mPar, mPar3, mCall, mTest, mIfS, mIf, mAnd, mOr, mNot, mAndV, mOrV, mNotV, mChain, mNx, mPass, mAsg, gNm, gTp, gsCons, gsNil, mIt, mEnum, mR1, mR2, rk1, rk2, mTup, mLst, mYes, mAug, mSl, mPart, mNoPart, addD_i, addD_t, addD_r, addD_s, subD_i, mulD_i, mulD_r, divD_i, modD_i, powD_i, ltD_i, leD_i, gtD_i, geD_i, eqD_i, eqD_s, eqD_r, neD_i, neD_s, neD_r, isND, notND, negD_i, revD_t, revD_r, lenR_t, listR_t, tupR_t, mListRg, mTupRg, mRg1, mRg2, ipAdd, ipSub, List.map_cons, List.map_nil, List.length_cons, List.length_nil, List.replicate, List.cons_append, List.nil_append, List.append_nil, List.getElem?_cons_zero, List.getElem?_cons_succ, List.set_cons_zero, List.set_cons_succ, Option.some.injEq, exists_eq_left', List.cons.injEq, and_assoc, D.int.injEq, D.bl.injEq, D.str.injEq, D.tup.injEq, D.wtup.injEq, D.flst.injEq, D.ref.injEq, wipeD, Nat.reduceSub, Nat.reduceAdd, true_and, and_true, Bool.false_eq_true, if_false, if_true, exists_and_left, exists_and_right, exists_eq_left, reduceCtorEq, false_and, exists_false, or_false, false_or, exists_const, ite_true, ite_false, ↓reduceIte, Bool.not_true, Bool.not_false, Bool.true_eq_false, Nat.zero_eq, Nat.succ_eq_add_one, Nat.sub_self, Nat.sub_zero, Nat.reduceEqDiff]
      refine ⟨by omega, ?_⟩
      rw [← oth_int]
      refine ix_i w5.mr (by omega) (by omega) (ix_i w5.mr (by omega) (by omega) ?_)
      simp only [Int.toNat_natCast, bodySp, mSeq, mRet, mRetN, mExp, mOp, mUn, mVar, mC, mB, mCons, mNil, mSet, mPar, mPar3, mCall, mTest, mIfS, mIf, mAnd, mOr, mNot, mAndV, mOrV, mNotV, mChain, mNx, mPass, mAsg, gNm, gTp, gsCons, gsNil, mIt, mEnum, mR1, mR2, rk1, rk2, mTup, mLst, mYes, mAug, mSl, mPart, mNoPart, addD_i, addD_t, addD_r, addD_s, subD_i, mulD_i, mulD_r, divD_i, modD_i, powD_i, ltD_i, leD_i, gtD_i, geD_i, eqD_i, eqD_s, eqD_r, neD_i, neD_s, neD_r, isND, notND, negD_i, revD_t, revD_r, lenR_t, listR_t, tupR_t, mListRg, mTupRg, mRg1, mRg2, ipAdd, ipSub, List.map_cons, List.map_nil, List.length_cons, List.length_nil, List.replicate, List.cons_append, List.nil_append, List.append_nil, List.getElem?_cons_zero, List.getElem?_cons_succ, List.set_cons_zero, List.set_cons_succ, Option.some.injEq, exists_eq_left', List.cons.injEq, and_assoc, D.int.injEq, D.bl.injEq, D.str.injEq, D.tup.injEq, D.wtup.injEq, D.flst.injEq, D.ref.injEq, wipeD, Nat.reduceSub, Nat.reduceAdd, true_and, and_true, Bool.false_eq_true, if_false, if_true, exists_and_left, exists_and_right, exists_eq_left, reduceCtorEq, false_and, exists_false, or_false, false_or, exists_const, ite_true, ite_false, ↓reduceIte, Bool.not_true, Bool.not_false, Bool.true_eq_false, Nat.zero_eq, Nat.succ_eq_add_one, Nat.sub_self, Nat.sub_zero, Nat.reduceEqDiff]
      refine ix_i w5.mm (by omega) (by omega) ?_
      simp only [bodySp, mSeq, mRet, mRetN, mExp, mOp, mUn, mVar, mC, mB, mCons, mNil, mSet, mPar, mPar3, mCall, mTest, mIfS, mIf, mAnd, mOr, mNot, mAndV, mOrV, mNotV, mChain, mNx, mPass, mAsg, gNm, gTp, gsCons, gsNil, mIt, mEnum, mR1, mR2, rk1, rk2, mTup, mLst, mYes, mAug, mSl, mPart, mNoPart, addD_i, addD_t, addD_r, addD_s, subD_i, mulD_i, mulD_r, divD_i, modD_i, powD_i, ltD_i, leD_i, gtD_i, geD_i, eqD_i, eqD_s, eqD_r, neD_i, neD_s, neD_r, isND, notND, negD_i, revD_t, revD_r, lenR_t, listR_t, tupR_t, mListRg, mTupRg, mRg1, mRg2, ipAdd, ipSub, List.map_cons, List.map_nil, List.length_cons, List.length_nil, List.replicate, List.cons_append, List.nil_append, List.append_nil, List.getElem?_cons_zero, List.getElem?_cons_succ, List.set_cons_zero, List.set_cons_succ, Option.some.injEq, exists_eq_left', List.cons.injEq, and_assoc, D.int.injEq, D.bl.injEq, D.str.injEq, D.tup.injEq, D.wtup.injEq, D.flst.injEq, D.ref.injEq, wipeD, Nat.reduceSub, Nat.reduceAdd, true_and, and_true, Bool.false_eq_true, if_false, if_true, exists_and_left, exists_and_right, exists_eq_left, reduceCtorEq, false_and, exists_false, or_false, false_or, exists_const, ite_true, ite_false, ↓reduceIte, Bool.not_true, Bool.not_false, Bool.true_eq_false, Nat.zero_eq, Nat.succ_eq_add_one, Nat.sub_self, Nat.sub_zero, Nat.reduceEqDiff]
      have same : N [some (.ref m), some (.int j), some (.ref rw), some (.ref q), some (.ref mv), some (.int t), some (.int s), some (.int (oth j s : Nat)), some (.int (row.getD s 0)), some (.int (row.getD (oth j s) 0)), o10] μ5 :=
        hN _ _ ⟨_, _, _, _, _, _, _, _, _, _, rfl, w5, by omega⟩
      by_cases g1 : 0 ≤ moves.getD (row.getD s 0).toNat 0
      · rw [if_pos (decide_eq_true g1)]
        refine ix_i w5.mm (by omega) (by omega) ?_
        simp only [bodySp, mSeq, mRet, mRetN, mExp, mOp, mUn, mVar, mC, mB, mCons, mNil, mSet, mPar, mPar3, mCall, mTest, mIfS, mIf, mAnd, mOr, mNot, mAndV, mOrV, mNotV, mChain, mNx, mPass, mAsg, gNm, gTp, gsCons, gsNil, mIt, mEnum, mR1, mR2, rk1, rk2, mTup, mLst, mYes, mAug, mSl, mPart, mNoPart, addD_i, addD_t, addD_r, addD_s, subD_i, mulD_i, mulD_r, divD_i, modD_i, powD_i, ltD_i, leD_i, gtD_i, geD_i, eqD_i, eqD_s, eqD_r, neD_i, neD_s, neD_r, isND, notND, negD_i, revD_t, revD_r, lenR_t, listR_t, tupR_t, mListRg, mTupRg, mRg1, mRg2, ipAdd, ipSub, List.map_cons, List.map_nil, List.length_cons, List.length_nil, List.replicate, List.cons_append, List.nil_append, List.append_nil, List.getElem?_cons_zero, List.getElem?_cons_succ, List.set_cons_zero, List.set_cons_succ, Option.some.injEq, exists_eq_left', List.cons.injEq, and_assoc, D.int.injEq, D.bl.injEq, D.str.injEq, D.tup.injEq, D.wtup.injEq, D.flst.injEq, D.ref.injEq, wipeD, Nat.reduceSub, Nat.reduceAdd, true_and, and_true, Bool.false_eq_true, if_false, if_true, exists_and_left, exists_and_right, exists_eq_left, reduceCtorEq, false_and, exists_false, or_false, false_or, exists_const, ite_true, ite_false, ↓reduceIte, Bool.not_true, Bool.not_false, Bool.true_eq_false, Nat.zero_eq, Nat.succ_eq_add_one, Nat.sub_self, Nat.sub_zero, Nat.reduceEqDiff]
        by_cases g2 : moves.getD (row.getD (oth j s) 0).toNat 0 ≤ 0
        · rw [if_pos (decide_eq_true g2)]
          refine w5.h.ix (by omega) (by omega) (inD_i (w5.h.at_ _ (by omega)) ?_)
          simp only [Int.toNat_natCast, bodySp, mSeq, mRet, mRetN, mExp, mOp, mUn, mVar, mC, mB, mCons, mNil, mSet, mPar, mPar3, mCall, mTest, mIfS, mIf, mAnd, mOr, mNot, mAndV, mOrV, mNotV, mChain, mNx, mPass, mAsg, gNm, gTp, gsCons, gsNil, mIt, mEnum, mR1, mR2, rk1, rk2, mTup, mLst, mYes, mAug, mSl, mPart, mNoPart, addD_i, addD_t, addD_r, addD_s, subD_i, mulD_i, mulD_r, divD_i, modD_i, powD_i, ltD_i, leD_i, gtD_i, geD_i, eqD_i, eqD_s, eqD_r, neD_i, neD_s, neD_r, isND, notND, negD_i, revD_t, revD_r, lenR_t, listR_t, tupR_t, mListRg, mTupRg, mRg1, mRg2, ipAdd, ipSub, List.map_cons, List.map_nil, List.length_cons, List.length_nil, List.replicate, List.cons_append, List.nil_append, List.append_nil, List.getElem?_cons_zero, List.getElem?_cons_succ, List.set_cons_zero, List.set_cons_succ, Option.some.injEq, exists_eq_left', List.cons.injEq, and_assoc, D.int.injEq, D.bl.injEq, D.str.injEq, D.tup.injEq, D.wtup.injEq, D.flst.injEq, D.ref.injEq, wipeD, Nat.reduceSub, Nat.reduceAdd, true_and, and_true, Bool.false_eq_true, if_false, if_true, exists_and_left, exists_and_right, exists_eq_left, reduceCtorEq, false_and, exists_false, or_false, false_or, exists_const, ite_true, ite_false, ↓reduceIte, Bool.not_true, Bool.not_false, Bool.true_eq_false, Nat.zero_eq, Nat.succ_eq_add_one, Nat.sub_self, Nat.sub_zero, Nat.reduceEqDiff]
          by_cases g3 : row.getD (oth j s) 0 ∈ hl.getD s []
          · rw [decide_eq_true g3]
            exact same
          · rw [decide_eq_false g3]
            simp only [bodySp, mSeq, mRet, mRetN, mExp, mOp, mUn, mVar, mC, mB, mCons, mNil, mSet, mPar, mPar3, mCall, mTest, mIfS, mIf, mAnd, mOr, mNot, mAndV, mOrV, mNotV, mChain, mNx, mPass, mAsg, gNm, gTp, gsCons, gsNil, mIt, mEnum, mR1, mR2, rk1, rk2, mTup, mLst, mYes, mAug, mSl, mPart, mNoPart, addD_i, addD_t, addD_r, addD_s, subD_i, mulD_i, mulD_r, divD_i, modD_i, powD_i, ltD_i, leD_i, gtD_i, geD_i, eqD_i, eqD_s, eqD_r, neD_i, neD_s, neD_r, isND, notND, negD_i, revD_t, revD_r, lenR_t, listR_t, tupR_t, mListRg, mTupRg, mRg1, mRg2, ipAdd, ipSub, List.map_cons, List.map_nil, List.length_cons, List.length_nil, List.replicate, List.cons_append, List.nil_append, List.append_nil, List.getElem?_cons_zero, List.getElem?_cons_succ, List.set_cons_zero, List.set_cons_succ, Option.some.injEq, exists_eq_left', List.cons.injEq, and_assoc, D.int.injEq, D.bl.injEq, D.str.injEq, D.tup.injEq, D.wtup.injEq, D.flst.injEq, D.ref.injEq, wipeD, Nat.reduceSub, Nat.reduceAdd, true_and, and_true, Bool.false_eq_true, if_false, if_true, exists_and_left, exists_and_right, exists_eq_left, reduceCtorEq, false_and, exists_false, or_false, false_or, exists_const, ite_true, ite_false, ↓reduceIte, Bool.not_true, Bool.not_false, Bool.true_eq_false, Nat.zero_eq, Nat.succ_eq_add_one, Nat.sub_self, Nat.sub_zero, Nat.reduceEqDiff]
            refine w5.h.ix (by omega) (by omega) (inD_i (w5.h.at_ _ (by omega)) ?_)
            simp only [Int.toNat_natCast, bodySp, mSeq, mRet, mRetN, mExp, mOp, mUn, mVar, mC, mB, mCons, mNil, mSet, mPar, mPar3, mCall, mTest, mIfS, mIf, mAnd, mOr, mNot, mAndV, mOrV, mNotV, mChain, mNx, mPass, mAsg, gNm, gTp, gsCons, gsNil, mIt, mEnum, mR1, mR2, rk1, rk2, mTup, mLst, mYes, mAug, mSl, mPart, mNoPart, addD_i, addD_t, addD_r, addD_s, subD_i, mulD_i, mulD_r, divD_i, modD_i, powD_i, ltD_i, leD_i, gtD_i, geD_i, eqD_i, eqD_s, eqD_r, neD_i, neD_s, neD_r, isND, notND, negD_i, revD_t, revD_r, lenR_t, listR_t, tupR_t, mListRg, mTupRg, mRg1, mRg2, ipAdd, ipSub, List.map_cons, List.map_nil, List.length_cons, List.length_nil, List.replicate, List.cons_append, List.nil_append, List.append_nil, List.getElem?_cons_zero, List.getElem?_cons_succ, List.set_cons_zero, List.set_cons_succ, Option.some.injEq, exists_eq_left', List.cons.injEq, and_assoc, D.int.injEq, D.bl.injEq, D.str.injEq, D.tup.injEq, D.wtup.injEq, D.flst.injEq, D.ref.injEq, wipeD, Nat.reduceSub, Nat.reduceAdd, true_and, and_true, Bool.false_eq_true, if_false, if_true, exists_and_left, exists_and_right, exists_eq_left, reduceCtorEq, false_and, exists_false, or_false, false_or, exists_const, ite_true, ite_false, ↓reduceIte, Bool.not_true, Bool.not_false, Bool.true_eq_false, Nat.zero_eq, Nat.succ_eq_add_one, Nat.sub_self, Nat.sub_zero, Nat.reduceEqDiff]
            by_cases g4 : row.getD s 0 ∈ hl.getD (oth j s) []
            · rw [decide_eq_true g4]
              exact same
            · rw [decide_eq_false g4]
              simp only [gSb, bodySp, mSeq, mRet, mRetN, mExp, mOp, mUn, mVar, mC, mB, mCons, mNil, mSet, mPar, mPar3, mCall, mTest, mIfS, mIf, mAnd, mOr, mNot, mAndV, mOrV, mNotV, mChain, mNx, mPass, mAsg, gNm, gTp, gsCons, gsNil, mIt, mEnum, mR1, mR2, rk1, rk2, mTup, mLst, mYes, mAug, mSl, mPart, mNoPart, addD_i, addD_t, addD_r, addD_s, subD_i, mulD_i, mulD_r, divD_i, modD_i, powD_i, ltD_i, leD_i, gtD_i, geD_i, eqD_i, eqD_s, eqD_r, neD_i, neD_s, neD_r, isND, notND, negD_i, revD_t, revD_r, lenR_t, listR_t, tupR_t, mListRg, mTupRg, mRg1, mRg2, ipAdd, ipSub, List.map_cons, List.map_nil, List.length_cons, List.length_nil, List.replicate, List.cons_append, List.nil_append, List.append_nil, List.getElem?_cons_zero, List.getElem?_cons_succ, List.set_cons_zero, List.set_cons_succ, Option.some.injEq, exists_eq_left', List.cons.injEq, and_assoc, D.int.injEq, D.bl.injEq, D.str.injEq, D.tup.injEq, D.wtup.injEq, D.flst.injEq, D.ref.injEq, wipeD, Nat.reduceSub, Nat.reduceAdd, true_and, and_true, Bool.false_eq_true, if_false, if_true, exists_and_left, exists_and_right, exists_eq_left, reduceCtorEq, false_and, exists_false, or_false, false_or, exists_const, ite_true, ite_false, ↓reduceIte, Bool.not_true, Bool.not_false, Bool.true_eq_false, Nat.zero_eq, Nat.succ_eq_add_one, Nat.sub_self, Nat.sub_zero, Nat.reduceEqDiff]
              have hst := w5.st.step (by omega) hs' g1 g2 g3 g4
              have hsl : hs.length = j := w5.h.l1
              have hk5 := w5.h.l2
              refine ix_i w5.mm (by omega) (by omega) ?_
              simp only [bodySp, mSeq, mRet, mRetN, mExp, mOp, mUn, mVar, mC, mB, mCons, mNil, mSet, mPar, mPar3, mCall, mTest, mIfS, mIf, mAnd, mOr, mNot, mAndV, mOrV, mNotV, mChain, mNx, mPass, mAsg, gNm, gTp, gsCons, gsNil, mIt, mEnum, mR1, mR2, rk1, rk2, mTup, mLst, mYes, mAug, mSl, mPart, mNoPart, addD_i, addD_t, addD_r, addD_s, subD_i, mulD_i, mulD_r, divD_i, modD_i, powD_i, ltD_i, leD_i, gtD_i, geD_i, eqD_i, eqD_s, eqD_r, neD_i, neD_s, neD_r, isND, notND, negD_i, revD_t, revD_r, lenR_t, listR_t, tupR_t, mListRg, mTupRg, mRg1, mRg2, ipAdd, ipSub, List.map_cons, List.map_nil, List.length_cons, List.length_nil, List.replicate, List.cons_append, List.nil_append, List.append_nil, List.getElem?_cons_zero, List.getElem?_cons_succ, List.set_cons_zero, List.set_cons_succ, Option.some.injEq, exists_eq_left', List.cons.injEq, and_assoc, D.int.injEq, D.bl.injEq, D.str.injEq, D.tup.injEq, D.wtup.injEq, D.flst.injEq, D.ref.injEq, wipeD, Nat.reduceSub, Nat.reduceAdd, true_and, and_true, Bool.false_eq_true, if_false, if_true, exists_and_left, exists_and_right, exists_eq_left, reduceCtorEq, false_and, exists_false, or_false, false_or, exists_const, ite_true, ite_false, ↓reduceIte, Bool.not_true, Bool.not_false, Bool.true_eq_false, Nat.zero_eq, Nat.succ_eq_add_one, Nat.sub_self, Nat.sub_zero, Nat.reduceEqDiff]
              refine ix_i w5.mm (by omega) (by omega) ?_
              simp only [bodySp, mSeq, mRet, mRetN, mExp, mOp, mUn, mVar, mC, mB, mCons, mNil, mSet, mPar, mPar3, mCall, mTest, mIfS, mIf, mAnd, mOr, mNot, mAndV, mOrV, mNotV, mChain, mNx, mPass, mAsg, gNm, gTp, gsCons, gsNil, mIt, mEnum, mR1, mR2, rk1, rk2, mTup, mLst, mYes, mAug, mSl, mPart, mNoPart, addD_i, addD_t, addD_r, addD_s, subD_i, mulD_i, mulD_r, divD_i, modD_i, powD_i, ltD_i, leD_i, gtD_i, geD_i, eqD_i, eqD_s, eqD_r, neD_i, neD_s, neD_r, isND, notND, negD_i, revD_t, revD_r, lenR_t, listR_t, tupR_t, mListRg, mTupRg, mRg1, mRg2, ipAdd, ipSub, List.map_cons, List.map_nil, List.length_cons, List.length_nil, List.replicate, List.cons_append, List.nil_append, List.append_nil, List.getElem?_cons_zero, List.getElem?_cons_succ, List.set_cons_zero, List.set_cons_succ, Option.some.injEq, exists_eq_left', List.cons.injEq, and_assoc, D.int.injEq, D.bl.injEq, D.str.injEq, D.tup.injEq, D.wtup.injEq, D.flst.injEq, D.ref.injEq, wipeD, Nat.reduceSub, Nat.reduceAdd, true_and, and_true, Bool.false_eq_true, if_false, if_true, exists_and_left, exists_and_right, exists_eq_left, reduceCtorEq, false_and, exists_false, or_false, false_or, exists_const, ite_true, ite_false, ↓reduceIte, Bool.not_true, Bool.not_false, Bool.true_eq_false, Nat.zero_eq, Nat.succ_eq_add_one, Nat.sub_self, Nat.sub_zero, Nat.reduceEqDiff]
              refine ⟨by have := sizeLine_big; omega, setD_i w5.mm (by omega) (by omega) (setD_i updM_same (by omega) (by rw [List.length_set]; omega) ?_)⟩
              rw [updM_updM]
              have mr6 : (updM μ5 mv (.lst (nI (mv1 j s row moves)))) rw = some (.lst (nI row)) := by rw [updM_ne w5.rv]; exact w5.mr
              refine ⟨by have := sizeLine_big; omega, setD_i mr6 (by omega) (by omega) (setD_i updM_same (by omega) (by rw [List.length_set]; omega) ?_)⟩
              rw [updM_updM]
              have H6 : Hld m g j q hs hl (updM (updM μ5 mv (.lst (nI (mv1 j s row moves)))) rw (.lst (nI (art j s row)))) := (w5.h.put w5.vq w5.hv).put w5.rq w5.hr
              have L6 : LM m cA g (n' + 1) (updM (updM μ5 mv (.lst (nI (mv1 j s row moves)))) rw (.lst (nI (art j s row)))) :=
                (w5.lm.put w5.ne.2.2.2.1 w5.ne.2.2.2.2.1 w5.ne.2.2.2.2.2.1).put w5.ne.1 w5.ne.2.1 w5.ne.2.2.1
              have K6 : Kp [m, g] μ0 (updM (updM μ5 mv (.lst (nI (mv1 j s row moves)))) rw (.lst (nI (art j s row)))) := Kp.over (Kp.over w5.kp w5.v0) w5.r0
              have mr7 : (updM (updM μ5 mv (.lst (nI (mv1 j s row moves)))) rw (.lst (nI (art j s row)))) rw = some (.lst (nI (art j s row))) := updM_same
              have mm7 : (updM (updM μ5 mv (.lst (nI (mv1 j s row moves)))) rw (.lst (nI (art j s row)))) mv = some (.lst (nI (mv1 j s row moves))) := by rw [updM_ne (Ne.symm w5.rv), updM_same]
              simp only [mBML, bodySp, mSeq, mRet, mRetN, mExp, mOp, mUn, mVar, mC, mB, mCons, mNil, mSet, mPar, mPar3, mCall, mTest, mIfS, mIf, mAnd, mOr, mNot, mAndV, mOrV, mNotV, mChain, mNx, mPass, mAsg, gNm, gTp, gsCons, gsNil, mIt, mEnum, mR1, mR2, rk1, rk2, mTup, mLst, mYes, mAug, mSl, mPart, mNoPart, addD_i, addD_t, addD_r, addD_s, subD_i, mulD_i, mulD_r, divD_i, modD_i, powD_i, ltD_i, leD_i, gtD_i, geD_i, eqD_i, eqD_s, eqD_r, neD_i, neD_s, neD_r, isND, notND, negD_i, revD_t, revD_r, lenR_t, listR_t, tupR_t, mListRg, mTupRg, mRg1, mRg2, ipAdd, ipSub, List.map_cons, List.map_nil, List.length_cons, List.length_nil, List.replicate, List.cons_append, List.nil_append, List.append_nil, List.getElem?_cons_zero, List.getElem?_cons_succ, List.set_cons_zero, List.set_cons_succ, Option.some.injEq, exists_eq_left', List.cons.injEq, and_assoc, D.int.injEq, D.bl.injEq, D.str.injEq, D.tup.injEq, D.wtup.injEq, D.flst.injEq, D.ref.injEq, wipeD, Nat.reduceSub, Nat.reduceAdd, true_and, and_true, Bool.false_eq_true, if_false, if_true, exists_and_left, exists_and_right, exists_eq_left, reduceCtorEq, false_and, exists_false, or_false, false_or, exists_const, ite_true, ite_false, ↓reduceIte, Bool.not_true, Bool.not_false, Bool.true_eq_false, Nat.zero_eq, Nat.succ_eq_add_one, Nat.sub_self, Nat.sub_zero, Nat.reduceEqDiff]
              show ixD (.ref q) (.int s) (updM (updM μ5 mv (.lst (nI (mv1 j s row moves)))) rw (.lst (nI (art j s row)))) _
              generalize updM (updM μ5 mv (.lst (nI (mv1 j s row moves)))) rw (.lst (nI (art j s row))) = μ6 at H6 L6 K6 mr7 mm7
              have in1 : hs.getD s 0 ∈ hs := getD_memL (by omega)
              have in2 : hs.getD (oth j s) 0 ∈ hs := getD_memL (by omega)
              have hne2 : hs.getD s 0 ≠ hs.getD (oth j s) 0 := fun z => by
                rw [List.getD_eq_getElem?_getD, List.getD_eq_getElem?_getD, List.getElem?_eq_getElem (show s < hs.length by omega), List.getElem?_eq_getElem (show oth j s < hs.length by omega)] at z
                exact oth_ne (by omega) hs' (nodup_inj w5.hn (by simpa using z)).symm
              have le : ∀ i, i < j → (hl.getD i []).length < 1000 := fun i hi => by
                have ok := w5.h.ok _ (getD_memL (l := hl) (i := i) (d := []) (by omega))
                have := sub_len (r := (List.range j).map fun i : Nat => (i : Int)) ok.1 fun x hx => by
                  have := ok.2 x hx
                  exact List.mem_map.mpr ⟨x.toNat, List.mem_range.mpr (by omega), by omega⟩
                rw [List.length_map, List.length_range] at this
                omega
              refine H6.ix (by omega) (by omega) ?_
              simp only [Int.toNat_natCast, bodySp, mSeq, mRet, mRetN, mExp, mOp, mUn, mVar, mC, mB, mCons, mNil, mSet, mPar, mPar3, mCall, mTest, mIfS, mIf, mAnd, mOr, mNot, mAndV, mOrV, mNotV, mChain, mNx, mPass, mAsg, gNm, gTp, gsCons, gsNil, mIt, mEnum, mR1, mR2, rk1, rk2, mTup, mLst, mYes, mAug, mSl, mPart, mNoPart, addD_i, addD_t, addD_r, addD_s, subD_i, mulD_i, mulD_r, divD_i, modD_i, powD_i, ltD_i, leD_i, gtD_i, geD_i, eqD_i, eqD_s, eqD_r, neD_i, neD_s, neD_r, isND, notND, negD_i, revD_t, revD_r, lenR_t, listR_t, tupR_t, mListRg, mTupRg, mRg1, mRg2, ipAdd, ipSub, List.map_cons, List.map_nil, List.length_cons, List.length_nil, List.replicate, List.cons_append, List.nil_append, List.append_nil, List.getElem?_cons_zero, List.getElem?_cons_succ, List.set_cons_zero, List.set_cons_succ, Option.some.injEq, exists_eq_left', List.cons.injEq, and_assoc, D.int.injEq, D.bl.injEq, D.str.injEq, D.tup.injEq, D.wtup.injEq, D.flst.injEq, D.ref.injEq, wipeD, Nat.reduceSub, Nat.reduceAdd, true_and, and_true, Bool.false_eq_true, if_false, if_true, exists_and_left, exists_and_right, exists_eq_left, reduceCtorEq, false_and, exists_false, or_false, false_or, exists_const, ite_true, ite_false, ↓reduceIte, Bool.not_true, Bool.not_false, Bool.true_eq_false, Nat.zero_eq, Nat.succ_eq_add_one, Nat.sub_self, Nat.sub_zero, Nat.reduceEqDiff]
              refine ⟨⟨_, .inl (H6.at_ s hs')⟩, appendR_l (H6.at_ s hs') (by rw [nI_len]; have := le s hs'; omega) ?_⟩
              have q7 : (updM μ6 (hs.getD s 0) (.lst (nI (hl.getD s []) ++ [.int (row.getD (oth j s) 0)]))) q = some (.lst (hs.map D.ref)) := by
                rw [updM_ne (ne_mem w5.hq in1)]; exact H6.mq
              have at7 : (updM μ6 (hs.getD s 0) (.lst (nI (hl.getD s []) ++ [.int (row.getD (oth j s) 0)]))) (hs.getD (oth j s) 0) = some (.lst (nI (hl.getD (oth j s) []))) := by
                rw [updM_ne (Ne.symm hne2)]; exact H6.at_ _ ho
              refine (ixD_l (.inl q7) (d := .ref (hs.getD (oth j s) 0)) (atI_nat (by omega) (by
                rw [List.getElem?_map, Int.toNat_natCast, List.getElem?_eq_getElem (show oth j s < hs.length by omega), List.getD_eq_getElem?_getD, List.getElem?_eq_getElem (show oth j s < hs.length by omega)]; rfl))).mpr ?_
              simp only [bodySp, mSeq, mRet, mRetN, mExp, mOp, mUn, mVar, mC, mB, mCons, mNil, mSet, mPar, mPar3, mCall, mTest, mIfS, mIf, mAnd, mOr, mNot, mAndV, mOrV, mNotV, mChain, mNx, mPass, mAsg, gNm, gTp, gsCons, gsNil, mIt, mEnum, mR1, mR2, rk1, rk2, mTup, mLst, mYes, mAug, mSl, mPart, mNoPart, addD_i, addD_t, addD_r, addD_s, subD_i, mulD_i, mulD_r, divD_i, modD_i, powD_i, ltD_i, leD_i, gtD_i, geD_i, eqD_i, eqD_s, eqD_r, neD_i, neD_s, neD_r, isND, notND, negD_i, revD_t, revD_r, lenR_t, listR_t, tupR_t, mListRg, mTupRg, mRg1, mRg2, ipAdd, ipSub, List.map_cons, List.map_nil, List.length_cons, List.length_nil, List.replicate, List.cons_append, List.nil_append, List.append_nil, List.getElem?_cons_zero, List.getElem?_cons_succ, List.set_cons_zero, List.set_cons_succ, Option.some.injEq, exists_eq_left', List.cons.injEq, and_assoc, D.int.injEq, D.bl.injEq, D.str.injEq, D.tup.injEq, D.wtup.injEq, D.flst.injEq, D.ref.injEq, wipeD, Nat.reduceSub, Nat.reduceAdd, true_and, and_true, Bool.false_eq_true, if_false, if_true, exists_and_left, exists_and_right, exists_eq_left, reduceCtorEq, false_and, exists_false, or_false, false_or, exists_const, ite_true, ite_false, ↓reduceIte, Bool.not_true, Bool.not_false, Bool.true_eq_false, Nat.zero_eq, Nat.succ_eq_add_one, Nat.sub_self, Nat.sub_zero, Nat.reduceEqDiff]
              refine ⟨⟨_, .inl at7⟩, appendR_l at7 (by rw [nI_len]; have := le _ ho; omega) ?_⟩
              refine hN _ _ ⟨n' + 1, art j s row, mv1 j s row moves, hl1 j s row hl, _, _, _, _, _, _, rfl, ?_, by omega⟩
              have c1 := w5.ne.2.2.2.2.2.2 _ in1
              have c2 := w5.ne.2.2.2.2.2.2 _ in2
              have n1 := w5.h.nh _ in1
              have n2 := w5.h.nh _ in2
              have len1 : s < hl.length := by omega
              refine ⟨(L6.put n1.1 c1 n1.2).put n2.1 c2 n2.2, Kp.over (Kp.over K6 (w5.h0 _ in1)) (w5.h0 _ in2), ⟨?_, hsl, by unfold hl1; rw [List.length_set, List.length_set]; exact hk5, fun i hi => ?_, hst.hn, w5.h.nq, w5.h.nh⟩, hst, ?_, ?_, w5.r0, w5.v0, w5.q0, w5.h0, w5.rv, w5.rq, w5.vq, w5.hr, w5.hv, w5.hq, w5.hn, w5.ne⟩
              · rw [updM_ne (ne_mem w5.hq in2)]; exact q7
              · have gh : (hl1 j s row hl).getD i [] = if oth j s = i then hl.getD (oth j s) [] ++ [row.getD s 0] else if s = i then hl.getD s [] ++ [row.getD (oth j s) 0] else hl.getD i [] := by
                  unfold hl1
                  rw [getD_setL (by rw [List.length_set]; omega), getD_setL (by omega)]
                rw [gh]
                by_cases e1 : oth j s = i
                · subst e1
                  rw [if_pos rfl, updM_same]; simp
                · have d1 : hs.getD i 0 ≠ hs.getD (oth j s) 0 := fun z => by
                    rw [List.getD_eq_getElem?_getD, List.getD_eq_getElem?_getD, List.getElem?_eq_getElem (show i < hs.length by omega), List.getElem?_eq_getElem (show oth j s < hs.length by omega)] at z
                    exact e1 (nodup_inj w5.hn (by simpa using z)).symm
                  rw [if_neg e1, updM_ne d1]
                  by_cases e2 : s = i
                  · subst e2
                    rw [if_pos rfl, updM_same]; simp
                  · have d2 : hs.getD i 0 ≠ hs.getD s 0 := fun z => by
                      rw [List.getD_eq_getElem?_getD, List.getD_eq_getElem?_getD, List.getElem?_eq_getElem (show i < hs.length by omega), List.getElem?_eq_getElem (show s < hs.length by omega)] at z
                      exact e2 (nodup_inj w5.hn (by simpa using z)).symm
                    rw [if_neg e2, updM_ne d2]
                    exact H6.at_ i hi
              · rw [updM_ne (ne_mem w5.hr in2), updM_ne (ne_mem w5.hr in1)]; exact mr7
              · rw [updM_ne (ne_mem w5.hv in2), updM_ne (ne_mem w5.hv in1)]; exact mm7
        · rw [if_neg (by simpa using g2)]
          exact same
      · rw [if_neg (by simpa using g1)]
        exact same
  · rintro d l acc μ1 N hN ⟨j, hs, e1, e2, rfl, e3, hE, hm1, hr1, hnd, hall, hat⟩
    have hjk : j < k := by
      rcases Nat.lt_or_ge j k with z | z
      · exact z
      · rw [List.drop_eq_nil_of_le (by rw [rgD_len]; omega)] at e1; cases e1
    have hlt : j < (rgD 0 k).length := by rw [rgD_len]; omega
    rw [List.drop_eq_getElem_cons hlt] at e1
    injection e1 with e4 e5
    have e6 : (rgD 0 k)[j] = .int j := by
      have := rgD_get (lo := 0) (hi := k) (k := j) (by omega)
      rw [List.getElem?_eq_getElem hlt] at this
      rw [Option.some.inj this, Int.zero_add]
    rw [e6] at e4
    subst e4
    refine ⟨trivial, ?_⟩
    simp only [bodySp, mSeq, mRet, mRetN, mExp, mOp, mUn, mVar, mC, mB, mCons, mNil, mSet, mPar, mPar3, mCall, mTest, mIfS, mIf, mAnd, mOr, mNot, mAndV, mOrV, mNotV, mChain, mNx, mPass, mAsg, gNm, gTp, gsCons, gsNil, mIt, mEnum, mR1, mR2, rk1, rk2, mTup, mLst, mYes, mAug, mSl, mPart, mNoPart, addD_i, addD_t, addD_r, addD_s, subD_i, mulD_i, mulD_r, divD_i, modD_i, powD_i, ltD_i, leD_i, gtD_i, geD_i, eqD_i, eqD_s, eqD_r, neD_i, neD_s, neD_r, isND, notND, negD_i, revD_t, revD_r, lenR_t, listR_t, tupR_t, mListRg, mTupRg, mRg1, mRg2, ipAdd, ipSub, List.map_cons, List.map_nil, List.length_cons, List.length_nil, List.replicate, List.cons_append, List.nil_append, List.append_nil, List.getElem?_cons_zero, List.getElem?_cons_succ, List.set_cons_zero, List.set_cons_succ, Option.some.injEq, exists_eq_left', List.cons.injEq, and_assoc, D.int.injEq, D.bl.injEq, D.str.injEq, D.tup.injEq, D.wtup.injEq, D.flst.injEq, D.ref.injEq, wipeD, Nat.reduceSub, Nat.reduceAdd, true_and, and_true, Bool.false_eq_true, if_false, if_true, exists_and_left, exists_and_right, exists_eq_left, reduceCtorEq, false_and, exists_false, or_false, false_or, exists_const, ite_true, ite_false, ↓reduceIte, Bool.not_true, Bool.not_false, Bool.true_eq_false, Nat.zero_eq, Nat.succ_eq_add_one, Nat.sub_self, Nat.sub_zero, Nat.reduceEqDiff]
    refine ⟨by have := sizeLine_big; omega, fun a ha => ?_⟩
    have hqa : q ≠ a := mu_ne hm1 ha
    have hra : rw ≠ a := mu_ne hr1 ha
    have ha0 : μ0 a = none := hE.none ha
    have hnew : a ∉ hs := fun z => by
      obtain ⟨i, hi, rfl⟩ := List.mem_iff_getElem.mp z
      have := hat i (by omega)
      rw [List.getD_eq_getElem?_getD, List.getElem?_eq_getElem hi] at this
      exact mu_ne this ha rfl
    refine ⟨by rw [updM_ne hqa]; exact hm1, by have := sizeLine_big; rw [List.length_map]; omega, hN _ _ ⟨j + 1, hs ++ [a], e5, hjk, by simp, by simp [e3], Ex.over (hE.trans (Ex.new ha)) q0, updM_same, ?_, ?_, ?_, ?_⟩⟩
    · rw [updM_ne hrq, updM_ne hra]; exact hr1
    · exact List.nodup_append.mpr ⟨hnd, by simp, fun b hb c hc e => hnew (by rw [List.mem_singleton.mp hc] at e; rw [← e]; exact hb)⟩
    · intro b hb
      rcases List.mem_append.mp hb with z | z
      · exact hall b z
      · rw [List.mem_singleton.mp z]
        exact ⟨ha0, Ne.symm hra, Ne.symm hqa⟩
    · intro i hi
      by_cases e : i < j
      · have hg : (hs ++ [a]).getD i 0 = hs.getD i 0 := by
          rw [List.getD_eq_getElem?_getD, List.getD_eq_getElem?_getD, List.getElem?_append_left (by omega)]
        have h1 := hat i e
        have hmem : hs.getD i 0 ∈ hs := getD_memL (by omega)
        rw [hg, updM_ne (hall _ hmem).2.2, updM_ne (mu_ne h1 ha)]
        exact h1
      · have ei : i = j := by omega
        subst ei
        have hg : (hs ++ [a]).getD i 0 = a := by
          rw [List.getD_eq_getElem?_getD, List.getElem?_append_right (by omega), e3]; simp
        rw [hg, updM_ne (Ne.symm hqa), updM_same]
        rfl
end Sw

set_option Elab.async false
set_option linter.all false
set_option maxRecDepth 100000
set_option maxHeartbeats 2000000
namespace Sw
open PySem PySem.Spec L2 DL RM
theorem slD_r {a : Addr} {lo hi : Option Int} {μ : Mu} {R : DK} : slD (.ref a) lo hi μ R = ∃ ds, LsM μ a ds ∧ ∀ p, μ p = none → R (.ref p) (updM μ p (.lst (cutD ds lo hi))) := rfl
theorem cutD_from {α : Type} {xs : List α} {c : Int} (h0 : 0 ≤ c) (h1 : c ≤ xs.length) : cutD xs (some c) none = xs.drop c.toNat := by
  unfold cutD
  have e1 : HT.sIx xs.length 0 (some c) = c.toNat := by
    show (if c < 0 then (c + (xs.length : Int)).toNat else min c.toNat xs.length) = c.toNat
    rw [if_neg (by omega)]; omega
  have e2 : HT.sIx xs.length xs.length none = xs.length := by unfold HT.sIx; rfl
  rw [e1, e2]
  exact List.take_of_length_le (by simp)
theorem cutD_to {α : Type} {xs : List α} {c : Int} (h0 : 0 ≤ c) (h1 : c ≤ xs.length) : cutD xs none (some c) = xs.take c.toNat := by
  unfold cutD
  have e1 : HT.sIx xs.length xs.length (some c) = c.toNat := by
    show (if c < 0 then (c + (xs.length : Int)).toNat else min c.toNat xs.length) = c.toNat
    rw [if_neg (by omega)]; omega
  have e2 : HT.sIx xs.length 0 none = 0 := by unfold HT.sIx; rfl
  rw [e1, e2]; simp
theorem all_int : ∀ {ys : List D}, (∀ y ∈ ys, ∃ i, y = .int i) → ∃ l', ys = nI l'
  | [], _ => ⟨[], rfl⟩
  | a :: t, h => by
    obtain ⟨i, rfl⟩ := h a List.mem_cons_self
    obtain ⟨l', rfl⟩ := all_int (ys := t) fun y hy => h y (List.mem_cons_of_mem _ hy)
    exact ⟨i :: l', rfl⟩
def unI : D → Int
  | .int i => i
  | _ => 0
theorem un_nI : ∀ l : List Int, (nI l).map unI = l
  | [] => rfl
  | a :: t => by
    have ih := un_nI t
    unfold nI at ih ⊢
    rw [List.map_cons, List.map_cons, ih]; rfl
theorem perm_nI {ys : List D} {l : List Int} (h : ys.Perm (nI l)) : ∃ l', ys = nI l' ∧ l'.Perm l := by
  obtain ⟨l', rfl⟩ := all_int fun y hy => by
    obtain ⟨i, _, rfl⟩ := List.mem_map.mp (h.mem_iff.mp hy)
    exact ⟨i, rfl⟩
  have := h.map unI
  rw [un_nI, un_nI] at this
  exact ⟨l', rfl, this⟩
theorem Rk.of {l : List Int} {k : Nat} (hn : l.Nodup) (h : ∀ x, x ∈ l ↔ 0 ≤ x ∧ x < (k : Int)) : Rk l k := by
  refine ⟨?_, fun x hx => (h x).mp hx, hn⟩
  have := same_len hn (iota_rk k).nd fun x => by
    rw [h]
    constructor
    · intro z
      exact (iota_rk k).mem z.1 z.2
    · intro z
      exact (iota_rk k).bd x z
  rw [this, (iota_rk k).len]
def sp_law_ring_lists : DSp := fun ds μ RX R => ∃ m cA g n k q hs hl, ds = [.ref m, .int (k : Nat), .ref q] ∧ LM m cA g n μ ∧ Hld m g k q hs hl μ ∧ (3 ≤ k ∧ k ≤ 20 ∧ n < 900000) ∧
  ∀ (rs : List (List Int)) μ' n', n' ≤ n + 2000 → LM m cA g n' μ' → Kp [m, g] μ μ' → (∀ l ∈ rs, Rk l k) → rs.length = k → R (.tup (rs.map tI)) μ'
def t_law_ring_lists : DS :=
  (mSeq (mPar 3 4 (mCons (mCall sp_law_draw [] (mCons (mVar 0) (mCons (mC (.int 4)) mNil))) (mCons (mLst mNil) mNil)))
  (mSeq (mFor (mR1 (mVar 1)) (gNm 5)
  (mSeq (mSet 6 (mCall sp_law_mixed_up [] (mCons (mVar 0) (mCons (mLc (mR1 (mVar 1)) (gNm 9) (mTest (mOp (inD true) (mVar 9) (mOp ixD (mVar 2) (mVar 5)))) (mVar 9) [9]) mNil))))
  (mSeq (mSet 7 (mUn revD (mOp ixD (mVar 2) (mVar 5))))
  (mSeq (mIfS (mOr (mTest (mOp eqD (mVar 3) (mC (.int 0)))) (mAnd (mTest (mOp eqD (mVar 3) (mC (.int 3)))) (mTest (mOp eqD (mCall sp_law_draw [] (mCons (mVar 0) (mCons (mC (.int 5)) mNil))) (mC (.int 0))))))
  (mSet 7 (mCall sp_law_mixed_up [] (mCons (mVar 0) (mCons (mVar 7) mNil))))
  mNx)
  (mSeq (mSet 8 (mIf (mTest (mOp eqD (mVar 3) (mC (.int 1)))) (mCall sp_law_draw [] (mCons (mVar 0) (mCons (mOp addD (mB lenR (mCons (mVar 6) mNil)) (mC (.int 1))) mNil))) (mB lenR (mCons (mVar 6) mNil))))
  (mExp (mBML appendR (mVar 4) (mCons (mB tupR (mCons (mOp addD (mOp addD (mSl (mVar 6) (mPart (mVar 8)) mNoPart) (mVar 7)) (mSl (mVar 6) mNoPart (mPart (mVar 8)))) mNil)) mNil))))))))
  (mRet (mB tupR (mCons (mVar 4) mNil)))))
abbrev N_law_ring_lists : List Str := ["_law_m", "_law_many", "_law_held", "_law_way", "_law_found", "_law_who", "_law_rest", "_law_liked", "_law_cut", "_law_thing"]
abbrev P_law_ring_lists : List Str := ["_law_m", "_law_many", "_law_held"]
def tailT : DE := mBML appendR (mVar 4) (mCons (mB tupR (mCons (mOp addD (mOp addD (mSl (mVar 6) (mPart (mVar 8)) mNoPart) (mVar 7)) (mSl (mVar 6) mNoPart (mPart (mVar 8)))) mNil)) mNil)
theorem law_law_ring_lists : ∀ ds μ RX R, sp_law_ring_lists ds μ RX R → bodySp P_law_ring_lists.length N_law_ring_lists.length t_law_ring_lists ds μ RX R := by
  rintro _ μ0 RX R ⟨m, cA, g, n, k, q, hs, hl, rfl, L, H, ⟨k3, k20, hn⟩, h⟩
  refine ⟨rfl, ?_⟩
  simp only [t_law_ring_lists, mFor, bodySp, mSeq, mRet, mRetN, mExp, mOp, mUn, mVar, mC, mB, mCons, mNil, mSet, mPar, mPar3, mCall, mTest, mIfS, mIf, mAnd, mOr, mNot, mAndV, mOrV, mNotV, mChain, mNx, mPass, mAsg, gNm, gTp, gsCons, gsNil, mIt, mEnum, mR1, mR2, rk1, rk2, mTup, mLst, mYes, mAug, mSl, mPart, mNoPart, addD_i, addD_t, addD_r, addD_s, subD_i, mulD_i, mulD_r, divD_i, modD_i, powD_i, ltD_i, leD_i, gtD_i, geD_i, eqD_i, eqD_s, eqD_r, neD_i, neD_s, neD_r, isND, notND, negD_i, revD_t, revD_r, lenR_t, listR_t, tupR_t, mListRg, mTupRg, mRg1, mRg2, ipAdd, ipSub, List.map_cons, List.map_nil, List.length_cons, List.length_nil, List.replicate, List.cons_append, List.nil_append, List.append_nil, List.getElem?_cons_zero, List.getElem?_cons_succ, List.set_cons_zero, List.set_cons_succ, Option.some.injEq, exists_eq_left', List.cons.injEq, and_assoc, D.int.injEq, D.bl.injEq, D.str.injEq, D.tup.injEq, D.wtup.injEq, D.flst.injEq, D.ref.injEq, wipeD, Nat.reduceSub, Nat.reduceAdd, true_and, and_true, Bool.false_eq_true, if_false, if_true, exists_and_left, exists_and_right, exists_eq_left, reduceCtorEq, false_and, exists_false, or_false, false_or, exists_const, ite_true, ite_false, ↓reduceIte, Bool.not_true, Bool.not_false, Bool.true_eq_false, Nat.zero_eq, Nat.succ_eq_add_one, Nat.sub_self, Nat.sub_zero, Nat.reduceEqDiff]
  refine ⟨m, cA, g, n, 4, rfl, L, ⟨by omega, by omega, by omega⟩, fun way μ1 w0 w1 L1 K1 => ?_⟩
  simp only [bodySp, mSeq, mRet, mRetN, mExp, mOp, mUn, mVar, mC, mB, mCons, mNil, mSet, mPar, mPar3, mCall, mTest, mIfS, mIf, mAnd, mOr, mNot, mAndV, mOrV, mNotV, mChain, mNx, mPass, mAsg, gNm, gTp, gsCons, gsNil, mIt, mEnum, mR1, mR2, rk1, rk2, mTup, mLst, mYes, mAug, mSl, mPart, mNoPart, addD_i, addD_t, addD_r, addD_s, subD_i, mulD_i, mulD_r, divD_i, modD_i, powD_i, ltD_i, leD_i, gtD_i, geD_i, eqD_i, eqD_s, eqD_r, neD_i, neD_s, neD_r, isND, notND, negD_i, revD_t, revD_r, lenR_t, listR_t, tupR_t, mListRg, mTupRg, mRg1, mRg2, ipAdd, ipSub, List.map_cons, List.map_nil, List.length_cons, List.length_nil, List.replicate, List.cons_append, List.nil_append, List.append_nil, List.getElem?_cons_zero, List.getElem?_cons_succ, List.set_cons_zero, List.set_cons_succ, Option.some.injEq, exists_eq_left', List.cons.injEq, and_assoc, D.int.injEq, D.bl.injEq, D.str.injEq, D.tup.injEq, D.wtup.injEq, D.flst.injEq, D.ref.injEq, wipeD, Nat.reduceSub, Nat.reduceAdd, true_and, and_true, Bool.false_eq_true, if_false, if_true, exists_and_left, exists_and_right, exists_eq_left, reduceCtorEq, false_and, exists_false, or_false, false_or, exists_const, ite_true, ite_false, ↓reduceIte, Bool.not_true, Bool.not_false, Bool.true_eq_false, Nat.zero_eq, Nat.succ_eq_add_one, Nat.sub_self, Nat.sub_zero, Nat.reduceEqDiff]
  refine ⟨by omega, fun f hf => ⟨by omega, by omega, ?_⟩⟩
  have hK2 : Kp [m, g] μ0 (updM μ1 f (.lst [])) := Kp.trans K1 (Kp.new hf)
  obtain ⟨f1, f2, f3⟩ := L1.fresh hf
  have nf0 : ∀ a o, a ∉ [m, g] → μ0 a = some o → a ≠ f := fun a o ha e => mu_ne (K1 a o ha e) hf
  refine forD_rng k (fun t δ μ => ∃ n' rs o5 o6 o7 o8 o9, δ = [some (.ref m), some (.int k), some (.ref q), some (.int way), some (.ref f), o5, o6, o7, o8, o9] ∧ LM m cA g n' μ ∧ n' ≤ n + 1 + t * 50 ∧ Kp [m, g] μ0 μ ∧
    μ f = some (.lst (rs.map tI)) ∧ (∀ l ∈ rs, Rk l k) ∧ rs.length = t) (fun _ => trivial) ?_ ?_ _ _
    ⟨n + 1, [], _, _, _, _, _, rfl, L1.put f1 f2 f3, by omega, hK2, updM_same, by simp, rfl⟩
  · rintro _ μ2 ⟨n', rs, o5, o6, o7, o8, o9, rfl, L2, hn', K2, hm, hr, hlr⟩
    simp only [bodySp, mSeq, mRet, mRetN, mExp, mOp, mUn, mVar, mC, mB, mCons, mNil, mSet, mPar, mPar3, mCall, mTest, mIfS, mIf, mAnd, mOr, mNot, mAndV, mOrV, mNotV, mChain, mNx, mPass, mAsg, gNm, gTp, gsCons, gsNil, mIt, mEnum, mR1, mR2, rk1, rk2, mTup, mLst, mYes, mAug, mSl, mPart, mNoPart, addD_i, addD_t, addD_r, addD_s, subD_i, mulD_i, mulD_r, divD_i, modD_i, powD_i, ltD_i, leD_i, gtD_i, geD_i, eqD_i, eqD_s, eqD_r, neD_i, neD_s, neD_r, isND, notND, negD_i, revD_t, revD_r, lenR_t, listR_t, tupR_t, mListRg, mTupRg, mRg1, mRg2, ipAdd, ipSub, List.map_cons, List.map_nil, List.length_cons, List.length_nil, List.replicate, List.cons_append, List.nil_append, List.append_nil, List.getElem?_cons_zero, List.getElem?_cons_succ, List.set_cons_zero, List.set_cons_succ, Option.some.injEq, exists_eq_left', List.cons.injEq, and_assoc, D.int.injEq, D.bl.injEq, D.str.injEq, D.tup.injEq, D.wtup.injEq, D.flst.injEq, D.ref.injEq, wipeD, Nat.reduceSub, Nat.reduceAdd, true_and, and_true, Bool.false_eq_true, if_false, if_true, exists_and_left, exists_and_right, exists_eq_left, reduceCtorEq, false_and, exists_false, or_false, false_or, exists_const, ite_true, ite_false, ↓reduceIte, Bool.not_true, Bool.not_false, Bool.true_eq_false, Nat.zero_eq, Nat.succ_eq_add_one, Nat.sub_self, Nat.sub_zero, Nat.reduceEqDiff]
    exact ⟨_, .inl hm, h rs μ2 n' (by omega) L2 K2 hr hlr⟩
  · rintro t _ μ2 N ht hN ⟨n', rs, o5, o6, o7, o8, o9, rfl, L2, hn', K2, hm, hr, hlr⟩
    have hb : n' ≤ n + 1 + 1000 := by
      have : t * 50 ≤ 20 * 50 := Nat.mul_le_mul_right _ (by omega)
      omega
    have H2 := H.kp K2
    have hat := H2.at_ t ht
    have hok := H2.ok _ (getD_memL (l := hl) (i := t) (d := []) (by rw [H2.l2]; exact ht))
    have hlen : (hl.getD t []).length ≤ k := by
      have := sub_len (r := iota k) hok.1 fun x hx => (iota_rk k).mem (hok.2 x hx).1 (hok.2 x hx).2
      rw [(iota_rk k).len] at this; exact this
    have hsm : hs.getD t 0 ∈ hs := getD_memL (by rw [H2.l1]; exact ht)
    have hmg := H2.nh _ hsm
    simp only [mLc, bodySp, mSeq, mRet, mRetN, mExp, mOp, mUn, mVar, mC, mB, mCons, mNil, mSet, mPar, mPar3, mCall, mTest, mIfS, mIf, mAnd, mOr, mNot, mAndV, mOrV, mNotV, mChain, mNx, mPass, mAsg, gNm, gTp, gsCons, gsNil, mIt, mEnum, mR1, mR2, rk1, rk2, mTup, mLst, mYes, mAug, mSl, mPart, mNoPart, addD_i, addD_t, addD_r, addD_s, subD_i, mulD_i, mulD_r, divD_i, modD_i, powD_i, ltD_i, leD_i, gtD_i, geD_i, eqD_i, eqD_s, eqD_r, neD_i, neD_s, neD_r, isND, notND, negD_i, revD_t, revD_r, lenR_t, listR_t, tupR_t, mListRg, mTupRg, mRg1, mRg2, ipAdd, ipSub, List.map_cons, List.map_nil, List.length_cons, List.length_nil, List.replicate, List.cons_append, List.nil_append, List.append_nil, List.getElem?_cons_zero, List.getElem?_cons_succ, List.set_cons_zero, List.set_cons_succ, Option.some.injEq, exists_eq_left', List.cons.injEq, and_assoc, D.int.injEq, D.bl.injEq, D.str.injEq, D.tup.injEq, D.wtup.injEq, D.flst.injEq, D.ref.injEq, wipeD, Nat.reduceSub, Nat.reduceAdd, true_and, and_true, Bool.false_eq_true, if_false, if_true, exists_and_left, exists_and_right, exists_eq_left, reduceCtorEq, false_and, exists_false, or_false, false_or, exists_const, ite_true, ite_false, ↓reduceIte, Bool.not_true, Bool.not_false, Bool.true_eq_false, Nat.zero_eq, Nat.succ_eq_add_one, Nat.sub_self, Nat.sub_zero, Nat.reduceEqDiff]
    refine ⟨by omega, by omega, fun p hp => ?_⟩
    rw [rgD_ints]
    have hqp : q ≠ p := mu_ne H2.mq hp
    have hap : hs.getD t 0 ≠ p := mu_ne hat hp
    refine lcD_int (fun x => !decide (x ∈ hl.getD t [])) (fun x => .int x) (fun _ => trivial) (by simp; omega) (fun x hx acc N2 hN2 => ?_) ?_
    · simp only [bodySp, mSeq, mRet, mRetN, mExp, mOp, mUn, mVar, mC, mB, mCons, mNil, mSet, mPar, mPar3, mCall, mTest, mIfS, mIf, mAnd, mOr, mNot, mAndV, mOrV, mNotV, mChain, mNx, mPass, mAsg, gNm, gTp, gsCons, gsNil, mIt, mEnum, mR1, mR2, rk1, rk2, mTup, mLst, mYes, mAug, mSl, mPart, mNoPart, addD_i, addD_t, addD_r, addD_s, subD_i, mulD_i, mulD_r, divD_i, modD_i, powD_i, ltD_i, leD_i, gtD_i, geD_i, eqD_i, eqD_s, eqD_r, neD_i, neD_s, neD_r, isND, notND, negD_i, revD_t, revD_r, lenR_t, listR_t, tupR_t, mListRg, mTupRg, mRg1, mRg2, ipAdd, ipSub, List.map_cons, List.map_nil, List.length_cons, List.length_nil, List.replicate, List.cons_append, List.nil_append, List.append_nil, List.getElem?_cons_zero, List.getElem?_cons_succ, List.set_cons_zero, List.set_cons_succ, Option.some.injEq, exists_eq_left', List.cons.injEq, and_assoc, D.int.injEq, D.bl.injEq, D.str.injEq, D.tup.injEq, D.wtup.injEq, D.flst.injEq, D.ref.injEq, wipeD, Nat.reduceSub, Nat.reduceAdd, true_and, and_true, Bool.false_eq_true, if_false, if_true, exists_and_left, exists_and_right, exists_eq_left, reduceCtorEq, false_and, exists_false, or_false, false_or, exists_const, ite_true, ite_false, ↓reduceIte, Bool.not_true, Bool.not_false, Bool.true_eq_false, Nat.zero_eq, Nat.succ_eq_add_one, Nat.sub_self, Nat.sub_zero, Nat.reduceEqDiff]
      refine (ixD_l (.inl (by rw [updM_ne hqp]; exact H2.mq)) (d := .ref (hs.getD t 0)) (atI_nat (by omega) (by
        rw [List.getElem?_map, Int.toNat_natCast, List.getElem?_eq_getElem (show t < hs.length by rw [H2.l1]; exact ht), List.getD_eq_getElem?_getD, List.getElem?_eq_getElem (show t < hs.length by rw [H2.l1]; exact ht)]; rfl))).mpr ?_
      refine inD_i (by rw [updM_ne hap]; exact hat) ?_
      by_cases g0 : x ∈ hl.getD t []
      · rw [decide_eq_true g0] at hN2 ⊢
        exact ⟨false, rfl, hN2⟩
      · rw [decide_eq_false g0] at hN2 ⊢
        exact ⟨true, rfl, hN2⟩
    · generalize hrest0 : ((List.range ((k : Int) - 0).toNat).map fun i : Nat => (0 : Int) + i).filter (fun x => !decide (x ∈ hl.getD t [])) = rest0
      have mem0 : ∀ x, x ∈ rest0 ↔ (0 ≤ x ∧ x < (k : Int)) ∧ x ∉ hl.getD t [] := fun x => by
        rw [← hrest0, List.mem_filter]
        have : x ∈ ((List.range ((k : Int) - 0).toNat).map fun i : Nat => (0 : Int) + i) ↔ 0 ≤ x ∧ x < (k : Int) := by
          rw [List.mem_map]
          constructor
          · rintro ⟨i, hi, rfl⟩
            have := List.mem_range.mp hi
            omega
          · intro z
            exact ⟨x.toNat, List.mem_range.mpr (by omega), by omega⟩
        rw [this]; simp
      have nd0 : rest0.Nodup := by
        rw [← hrest0]
        exact List.Pairwise.filter _ (nodup_map_on List.nodup_range fun x _ y _ e => by omega)
      have len0 : rest0.length ≤ k := by
        have := sub_len (r := iota k) nd0 fun x hx => (iota_rk k).mem ((mem0 x).mp hx).1.1 ((mem0 x).mp hx).1.2
        rw [(iota_rk k).len] at this; exact this
      refine ⟨m, cA, g, n', p, _, rfl, L2.ex (Ex.new hp), .inl updM_same, by rw [List.length_map]; omega, fun r ys μ3 hr0 hys L3 K3 hm3 => ?_⟩
      rw [List.length_map] at L3
      obtain ⟨rest, rfl, hperm⟩ := perm_nI hys
      have K03 : Kp [m, g] μ2 μ3 := Kp.trans (Kp.new hp) K3
      have H3 := H2.kp K03
      have hm3f : μ3 f = some (.lst (rs.map tI)) := K03 f _ (not_mg f1 f3) hm
      have hrl : rest.length = rest0.length := hperm.length_eq
      have hpr : r ≠ p := fun z => by rw [z, updM_same] at hr0; cases hr0
      have hr2 : μ2 r = none := by rwa [updM_ne hpr] at hr0
      obtain ⟨rm, rc, rg⟩ := L2.fresh hr2
      have hrf : r ≠ f := Ne.symm (mu_ne hm hr2)
      refine H3.ix (by omega) (by omega) ?_
      simp only [Int.toNat_natCast, bodySp, mSeq, mRet, mRetN, mExp, mOp, mUn, mVar, mC, mB, mCons, mNil, mSet, mPar, mPar3, mCall, mTest, mIfS, mIf, mAnd, mOr, mNot, mAndV, mOrV, mNotV, mChain, mNx, mPass, mAsg, gNm, gTp, gsCons, gsNil, mIt, mEnum, mR1, mR2, rk1, rk2, mTup, mLst, mYes, mAug, mSl, mPart, mNoPart, addD_i, addD_t, addD_r, addD_s, subD_i, mulD_i, mulD_r, divD_i, modD_i, powD_i, ltD_i, leD_i, gtD_i, geD_i, eqD_i, eqD_s, eqD_r, neD_i, neD_s, neD_r, isND, notND, negD_i, revD_t, revD_r, lenR_t, listR_t, tupR_t, mListRg, mTupRg, mRg1, mRg2, ipAdd, ipSub, List.map_cons, List.map_nil, List.length_cons, List.length_nil, List.replicate, List.cons_append, List.nil_append, List.append_nil, List.getElem?_cons_zero, List.getElem?_cons_succ, List.set_cons_zero, List.set_cons_succ, Option.some.injEq, exists_eq_left', List.cons.injEq, and_assoc, D.int.injEq, D.bl.injEq, D.str.injEq, D.tup.injEq, D.wtup.injEq, D.flst.injEq, D.ref.injEq, wipeD, Nat.reduceSub, Nat.reduceAdd, true_and, and_true, Bool.false_eq_true, if_false, if_true, exists_and_left, exists_and_right, exists_eq_left, reduceCtorEq, false_and, exists_false, or_false, false_or, exists_const, ite_true, ite_false, ↓reduceIte, Bool.not_true, Bool.not_false, Bool.true_eq_false, Nat.zero_eq, Nat.succ_eq_add_one, Nat.sub_self, Nat.sub_zero, Nat.reduceEqDiff]
      refine ⟨_, .inl (H3.at_ t ht), fun u hu => ?_⟩
      have hru : r ≠ u := mu_ne hm3 hu
      have hfu : f ≠ u := mu_ne hm3f hu
      obtain ⟨um, uc, ug⟩ := L3.fresh hu
      have L4 := L3.put (o := .lst (nI (hl.getD t [])).reverse) um uc ug
      have K4 : Kp [m, g] μ0 (updM μ3 u (.lst (nI (hl.getD t [])).reverse)) := Kp.trans K2 (Kp.trans K03 (Kp.new hu))
      have e4 : (nI (hl.getD t [])).reverse = nI (hl.getD t []).reverse := (List.map_reverse ..).symm
      rw [e4] at L4 K4 ⊢
      have mu4 : (updM μ3 u (.lst (nI (hl.getD t []).reverse))) u = some (.lst (nI (hl.getD t []).reverse)) := updM_same
      have mr4 : (updM μ3 u (.lst (nI (hl.getD t []).reverse))) r = some (.lst (nI rest)) := by rw [updM_ne hru]; exact hm3
      have mf4 : (updM μ3 u (.lst (nI (hl.getD t []).reverse))) f = some (.lst (rs.map tI)) := by rw [updM_ne hfu]; exact hm3f
      generalize updM μ3 u (.lst (nI (hl.getD t []).reverse)) = μ4 at L4 K4 mu4 mr4 mf4
      -- the end of a turn
      have fin2 : ∀ (n5 : Nat) (u5 : Addr) (liked : List Int) (cut : Int) (μ5 : Mu), n5 ≤ n' + 50 → LM m cA g n5 μ5 → Kp [m, g] μ0 μ5 → μ5 u5 = some (.lst (nI liked)) → μ5 r = some (.lst (nI rest)) → μ5 f = some (.lst (rs.map tI)) → liked.Perm (hl.getD t []) →
          0 ≤ cut → cut ≤ rest.length → (∀ a o, a ∉ [m, g] → μ0 a = some o → μ5 a = some o) →
          tailT [some (.ref m), some (.int k), some (.ref q), some (.int way), some (.ref f), some (.int t), some (.ref r), some (.ref u5), some (.int cut), o9] μ5 (fun C fs x μ' => RX C fs μ') fun x μ1 =>
            N [some (.ref m), some (.int k), some (.ref q), some (.int way), some (.ref f), some (.int t), some (.ref r), some (.ref u5), some (.int cut), o9] μ1 := fun n5 u5 liked cut μ5 hn5 L5 K5 mu5 mr5 mf5 hp5 c0 c1 hk5 => by
        have ll : liked.length ≤ k := by rw [hp5.length_eq]; exact hlen
        have big := sizeLine_big
        simp only [tailT, mBML, slD_r, bodySp, mSeq, mRet, mRetN, mExp, mOp, mUn, mVar, mC, mB, mCons, mNil, mSet, mPar, mPar3, mCall, mTest, mIfS, mIf, mAnd, mOr, mNot, mAndV, mOrV, mNotV, mChain, mNx, mPass, mAsg, gNm, gTp, gsCons, gsNil, mIt, mEnum, mR1, mR2, rk1, rk2, mTup, mLst, mYes, mAug, mSl, mPart, mNoPart, addD_i, addD_t, addD_r, addD_s, subD_i, mulD_i, mulD_r, divD_i, modD_i, powD_i, ltD_i, leD_i, gtD_i, geD_i, eqD_i, eqD_s, eqD_r, neD_i, neD_s, neD_r, isND, notND, negD_i, revD_t, revD_r, lenR_t, listR_t, tupR_t, mListRg, mTupRg, mRg1, mRg2, ipAdd, ipSub, List.map_cons, List.map_nil, List.length_cons, List.length_nil, List.replicate, List.cons_append, List.nil_append, List.append_nil, List.getElem?_cons_zero, List.getElem?_cons_succ, List.set_cons_zero, List.set_cons_succ, Option.some.injEq, exists_eq_left', List.cons.injEq, and_assoc, D.int.injEq, D.bl.injEq, D.str.injEq, D.tup.injEq, D.wtup.injEq, D.flst.injEq, D.ref.injEq, wipeD, Nat.reduceSub, Nat.reduceAdd, true_and, and_true, Bool.false_eq_true, if_false, if_true, exists_and_left, exists_and_right, exists_eq_left, reduceCtorEq, false_and, exists_false, or_false, false_or, exists_const, ite_true, ite_false, ↓reduceIte, Bool.not_true, Bool.not_false, Bool.true_eq_false, Nat.zero_eq, Nat.succ_eq_add_one, Nat.sub_self, Nat.sub_zero, Nat.reduceEqDiff]
        refine ⟨⟨_, .inl mf5⟩, _, .inl mr5, fun a1 ha1 => ?_⟩
        rw [cutD_from c0 (by rw [nI_len]; exact c1)]
        have ra1 : r ≠ a1 := mu_ne mr5 ha1
        have ua1 : u5 ≠ a1 := mu_ne mu5 ha1
        have fa1 : f ≠ a1 := mu_ne mf5 ha1
        refine ⟨_, updM_same, _, by rw [updM_ne ua1]; exact mu5, by rw [List.length_drop, nI_len, nI_len]; omega, fun a2 ha2 => ?_⟩
        have ra2 : r ≠ a2 := mu_ne (by rw [updM_ne ra1]; exact mr5) ha2
        have fa2 : f ≠ a2 := mu_ne (by rw [updM_ne fa1]; exact mf5) ha2
        have e5 : Ex μ5 (updM (updM μ5 a1 (.lst ((nI rest).drop cut.toNat))) a2 (.lst ((nI rest).drop cut.toNat ++ nI liked))) := (Ex.new ha1).trans (Ex.new ha2)
        refine ⟨_, .inl (e5.at mr5), fun a3 ha3 => ?_⟩
        rw [cutD_to c0 (by rw [nI_len]; exact c1)]
        have a23 : a2 ≠ a3 := mu_ne updM_same ha3
        have e6 := e5.trans (Ex.new (o := .lst ((nI rest).take cut.toNat)) ha3)
        refine ⟨_, by rw [updM_ne a23]; exact updM_same, _, updM_same, by rw [List.length_append, List.length_drop, List.length_take, nI_len, nI_len]; omega, fun a4 ha4 => ?_⟩
        have e7 := e6.trans (Ex.new (o := .lst ((nI rest).drop cut.toNat ++ nI liked ++ (nI rest).take cut.toNat)) ha4)
        refine ⟨_, .inl updM_same, appendR_l (e7.at mf5) (by rw [List.length_map]; omega) ?_⟩
        have el : (nI rest).drop cut.toNat ++ nI liked ++ (nI rest).take cut.toNat = nI (rest.drop cut.toNat ++ liked ++ rest.take cut.toNat) := by simp
        rw [el] at e7 ⊢
        have hperm2 : (rest.drop cut.toNat ++ liked ++ rest.take cut.toNat).Perm (rest0 ++ hl.getD t []) := by
          have h1 : (rest.drop cut.toNat ++ liked ++ rest.take cut.toNat).Perm (rest.take cut.toNat ++ (rest.drop cut.toNat ++ liked)) := List.perm_append_comm
          rw [← List.append_assoc, List.take_append_drop] at h1
          exact h1.trans (hperm.append hp5)
        have hrk : Rk (rest.drop cut.toNat ++ liked ++ rest.take cut.toNat) k := by
          refine Rk.of (hperm2.nodup_iff.mpr (List.nodup_append.mpr ⟨nd0, hok.1, fun a ha b hb e => ((mem0 a).mp ha).2 (by rw [e]; exact hb)⟩)) fun x => ?_
          rw [hperm2.mem_iff, List.mem_append, mem0]
          constructor
          · rintro (z | z)
            · exact z.1
            · exact hok.2 x z
          · intro z
            by_cases c : x ∈ hl.getD t []
            · exact .inr c
            · exact .inl ⟨z, c⟩
        have mf7 := e7.at mf5
        refine hN _ _ ⟨n5, rs ++ [rest.drop cut.toNat ++ liked ++ rest.take cut.toNat], _, _, _, _, _, rfl, (L5.ex e7).put f1 f2 f3, by omega, ?_, ?_, ?_, by simp [hlr]⟩
        · intro a o ha e
          rw [updM_ne (nf0 a o ha e)]
          exact e7.at (K5 a o ha e)
        · rw [updM_same]; simp
        · intro l hl'
          rcases List.mem_append.mp hl' with z | z
          · exact hr l z
          · rw [List.mem_singleton.mp z]; exact hrk
      have fin1 : ∀ (n5 : Nat) (u5 : Addr) (liked : List Int) (μ5 : Mu), n5 ≤ n' + 45 → LM m cA g n5 μ5 → Kp [m, g] μ0 μ5 → μ5 u5 = some (.lst (nI liked)) → μ5 r = some (.lst (nI rest)) → μ5 f = some (.lst (rs.map tI)) → liked.Perm (hl.getD t []) → u5 ≠ m → u5 ≠ g →
          if decide (way = 1) = true then lenR [.ref r] μ5 fun x μ1 => addD x (.int 1) μ1 fun x μ1 => sp_law_draw [.ref m, x] μ1 (fun C fs μ' => RX C fs μ') fun d_1 μ1 =>
            tailT [some (.ref m), some (.int k), some (.ref q), some (.int way), some (.ref f), some (.int t), some (.ref r), some (.ref u5), some d_1, o9] μ1 (fun C fs x μ' => RX C fs μ') fun x μ2 =>
              N [some (.ref m), some (.int k), some (.ref q), some (.int way), some (.ref f), some (.int t), some (.ref r), some (.ref u5), some d_1, o9] μ2
          else lenR [.ref r] μ5 fun d_1 μ1 =>
            tailT [some (.ref m), some (.int k), some (.ref q), some (.int way), some (.ref f), some (.int t), some (.ref r), some (.ref u5), some d_1, o9] μ1 (fun C fs x μ' => RX C fs μ') fun x μ2 =>
              N [some (.ref m), some (.int k), some (.ref q), some (.int way), some (.ref f), some (.int t), some (.ref r), some (.ref u5), some d_1, o9] μ2 := fun n5 u5 liked μ5 hn5 L5 K5 mu5 mr5 mf5 hp5 um5 ug5 => by
        by_cases gw : way = 1
        · rw [if_pos (decide_eq_true gw), lenR_r (.inl mr5), nI_len, addD_i]
          refine ⟨m, cA, g, n5, _, rfl, L5, ⟨by omega, by omega, by omega⟩, fun cut μ6 c0 c1 L6 K6 => ?_⟩
          exact fin2 _ _ _ _ _ (by omega) L6 (Kp.trans K5 K6) (K6 _ _ (not_mg um5 ug5) mu5) (K6 _ _ (not_mg rm rg) mr5) (K6 _ _ (not_mg f1 f3) mf5) hp5 c0 (by omega) (Kp.trans K5 K6)
        · rw [if_neg (by simpa using gw), lenR_r (.inl mr5), nI_len]
          exact fin2 _ _ _ _ _ (by omega) L5 K5 mu5 mr5 mf5 hp5 (by omega) (by omega) K5
      have mix : ∀ (n5 : Nat) (μ5 : Mu), n5 ≤ n' + 21 → LM m cA g n5 μ5 → Kp [m, g] μ0 μ5 → μ5 u = some (.lst (nI (hl.getD t []).reverse)) → μ5 r = some (.lst (nI rest)) → μ5 f = some (.lst (rs.map tI)) → ∀ (K : DK),
          (∀ u5 liked μ6 n6, n6 ≤ n' + 45 → LM m cA g n6 μ6 → Kp [m, g] μ0 μ6 → μ6 u5 = some (.lst (nI liked)) → μ6 r = some (.lst (nI rest)) → μ6 f = some (.lst (rs.map tI)) → liked.Perm (hl.getD t []) → u5 ≠ m → u5 ≠ g → K (.ref u5) μ6) →
          sp_law_mixed_up [.ref m, .ref u] μ5 (fun C fs μ' => RX C fs μ') K := fun n5 μ5 hn5 L5 K5 mu5 mr5 mf5 K hK => by
        refine ⟨m, cA, g, n5, u, _, rfl, L5, .inl mu5, by rw [nI_len, List.length_reverse]; omega, fun v ys μ6 hv hys L6 K6 hm6 => ?_⟩
        obtain ⟨liked, rfl, hpl⟩ := perm_nI hys
        rw [nI_len, List.length_reverse] at L6
        obtain ⟨vm, vc, vg⟩ := L5.fresh hv
        exact hK v liked μ6 _ (by omega) L6 (Kp.trans K5 K6) hm6 (K6 _ _ (not_mg rm rg) mr5) (K6 _ _ (not_mg f1 f3) mf5) (hpl.trans (List.reverse_perm _)) vm vg
      have rev : (hl.getD t []).reverse.Perm (hl.getD t []) := List.reverse_perm _
      by_cases gw0 : way = 0
      · rw [if_pos (decide_eq_true gw0)]
        exact mix _ _ (by omega) L4 K4 mu4 mr4 mf4 _ fun u5 liked μ6 n6 a1 a2 a3 a4 a5 a6 a7 a8 a9 => fin1 n6 u5 liked μ6 a1 a2 a3 a4 a5 a6 a7 a8 a9
      · rw [if_neg (by simpa using gw0)]
        by_cases gw3 : way = 3
        · rw [if_pos (decide_eq_true gw3)]
          refine ⟨m, cA, g, _, 5, rfl, L4, ⟨by omega, by omega, by omega⟩, fun v μ5 v0 v1 L5 K5 => ?_⟩
          have mu5 := K5 _ _ (not_mg um ug) mu4
          have mr5 := K5 _ _ (not_mg rm rg) mr4
          have mf5 := K5 _ _ (not_mg f1 f3) mf4
          refine ⟨decide (v = 0), rfl, ?_⟩
          by_cases gv : v = 0
          · rw [if_pos (decide_eq_true gv)]
            exact mix _ _ (by omega) L5 (Kp.trans K4 K5) mu5 mr5 mf5 _ fun u5 liked μ6 n6 a1 a2 a3 a4 a5 a6 a7 a8 a9 => fin1 n6 u5 liked μ6 a1 a2 a3 a4 a5 a6 a7 a8 a9
          · rw [if_neg (by simpa using gv)]
            exact fin1 _ u _ μ5 (by omega) L5 (Kp.trans K4 K5) mu5 mr5 mf5 rev um ug
        · rw [if_neg (by simpa using gw3)]
          exact fin1 _ u _ μ4 (by omega) L4 K4 mu4 mr4 mf4 rev um ug
end Sw

set_option Elab.async false
set_option linter.all false
set_option maxRecDepth 100000
set_option maxHeartbeats 2000000
namespace Sw
open PySem PySem.Spec L2 DL RM
/-- a displacement of the thing i that brings it to its place in row -/
def Good (row : List Int) (i : Nat) (v : Int) : Prop := (-(row.length : Int) < v ∧ v < row.length) ∧ ((i : Int) + v) % row.length = (row.idxOf (i : Int) : Nat)
def Pre (row : List Int) (t : Nat) (c : List Int) : Prop := c.length = t ∧ ∀ i, i < t → Good row i (c.getD i 0)
theorem Pre.snoc {row : List Int} {t : Nat} {c : List Int} {v : Int} (h : Pre row t c) (g : Good row t v) : Pre row (t + 1) (c ++ [v]) := by
  refine ⟨by simp [h.1], fun i hi => ?_⟩
  by_cases e : i < t
  · have : (c ++ [v]).getD i 0 = c.getD i 0 := by
      rw [List.getD_eq_getElem?_getD, List.getD_eq_getElem?_getD, List.getElem?_append_left (by rw [h.1]; exact e)]
    rw [this]; exact h.2 i e
  · have ei : i = t := by omega
    subst ei
    have : (c ++ [v]).getD i 0 = v := by
      rw [List.getD_eq_getElem?_getD, List.getElem?_append_right (by rw [h.1]; exact Nat.le_refl _), h.1]; simp
    rw [this]; exact g
theorem Pre.vd {row c : List Int} {k : Nat} (hk : Rk row k) (h3 : 3 ≤ k) (h20 : k ≤ 20) (h : Pre row k c) (hs : c.sum = 0) : Vd c := by
  have hl := hk.len
  have hc := h.1
  refine ⟨by omega, by omega, fun x hx => ?_, hs, ?_⟩
  · obtain ⟨i, hi, e⟩ := List.mem_iff_getElem.mp hx
    have := (h.2 i (by omega)).1
    rw [List.getD_eq_getElem?_getD, List.getElem?_eq_getElem hi] at this
    simp [e] at this
    omega
  · rw [hc]
    refine nodup_map_on List.nodup_range fun x hx y hy e => ?_
    have hx := List.mem_range.mp hx
    have hy := List.mem_range.mp hy
    have p1 := (h.2 x hx).2
    have p2 := (h.2 y hy).2
    rw [hl] at p1 p2
    rw [p1, p2] at e
    have m1 := hk.mem (t := (x : Int)) (by omega) (by omega)
    have m2 := hk.mem (t := (y : Int)) (by omega) (by omega)
    have l1 := List.idxOf_lt_length_of_mem m1
    have l2 := List.idxOf_lt_length_of_mem m2
    have g1 : row[row.idxOf (x : Int)]'l1 = x := by simp
    have g2 : row[row.idxOf (y : Int)]'l2 = y := by simp
    have e' : row.idxOf (x : Int) = row.idxOf (y : Int) := by omega
    have : (x : Int) = y := by rw [← g1, ← g2]; simp [e']
    omega
theorem all_flat (l : List Int) : (nI l).all flat = true := by
  rw [List.all_eq_true]
  intro d hd
  obtain ⟨i, _, rfl⟩ := List.mem_map.mp hd
  rfl
theorem firstIx_int {row : List Int} {t : Int} (h : t ∈ row) : firstIx (.int t) (nI row) (row.idxOf t) := by
  have hl := List.idxOf_lt_length_of_mem h
  refine ⟨⟨.int t, ?_, by rw [beq_int]; simp⟩, fun j z hj hz => ?_⟩
  · rw [List.getElem?_map, List.getElem?_eq_getElem hl]; simp
  · rw [List.getElem?_map, List.getElem?_eq_getElem (show j < row.length by omega)] at hz
    cases hz
    rw [beq_int, decide_eq_false]
    intro e
    have := List.not_of_lt_findIdx (p := (· == t)) (xs := row) (i := j) hj
    simp [e] at this
theorem tI_inj : ∀ {l : List D} , (∀ d ∈ l, ∃ c : List Int, d = tI c) → ∃ cs : List (List Int), l = cs.map tI
  | [], _ => ⟨[], rfl⟩
  | a :: t, h => by
    obtain ⟨c, rfl⟩ := h a List.mem_cons_self
    obtain ⟨cs, rfl⟩ := tI_inj (l := t) fun d hd => h d (List.mem_cons_of_mem _ hd)
    exact ⟨c :: cs, rfl⟩
def sp_law_ring_choices : DSp := fun ds μ RX R => ∃ row k, ds = [tI row] ∧ (Rk row k ∧ 3 ≤ k ∧ k ≤ 8) ∧ ∀ q (cs : List (List Int)) μ', μ q = none → Ex μ μ' → μ' q = some (.lst (cs.map tI)) → (∀ c ∈ cs, Vd c ∧ c.length = k) → cs.length ≤ 256 → R (.ref q) μ'
def t_law_ring_choices : DS :=
  (mSeq (mPar 1 2 (mCons (mB lenR (mCons (mVar 0) mNil)) (mCons (mLst (mCons (mTup mNil) mNil)) mNil)))
  (mSeq (mFor (mR1 (mVar 1)) (gNm 3)
  (mSeq (mSet 4 (mOp subD (mTIx (mVar 0) (mCons (mVar 3) mNil)) (mVar 3)))
  (mSeq (mSet 5 (mIf (mTest (mOp gtD (mVar 4) (mC (.int 0)))) (mOp subD (mVar 4) (mVar 1)) (mOp addD (mVar 4) (mVar 1))))
  (mSeq (mSet 6 (mIf (mTest (mOp eqD (mVar 4) (mC (.int 0)))) (mLst (mCons (mC (.int 0)) mNil)) (mB sortedR (mCons (mLst (mCons (mVar 4) (mCons (mVar 5) mNil))) mNil))))
  (mSeq (mSet 7 (mLst mNil))
  (mSeq (mFor (mIt (mVar 2)) (gNm 8)
  (mSet 7 (mOp addD (mVar 7) (mLc (mIt (mVar 6)) (gNm 9) mYes (mOp addD (mVar 8) (mTup (mCons (mVar 9) mNil))) [9]))))
  (mSet 2 (mVar 7))))))))
  (mRet (mLc (mIt (mVar 2)) (gNm 10) (mTest (mOp eqD (mB sumR (mCons (mVar 10) mNil)) (mC (.int 0)))) (mVar 10) [10]))))
abbrev N_law_ring_choices : List Str := ["_law_row", "_law_many", "_law_found", "_law_thing", "_law_shift", "_law_far", "_law_some", "_law_longer", "_law_ahead", "_law_one", "_law_moves"]
abbrev P_law_ring_choices : List Str := ["_law_row"]
theorem law_law_ring_choices : ∀ ds μ RX R, sp_law_ring_choices ds μ RX R → bodySp P_law_ring_choices.length N_law_ring_choices.length t_law_ring_choices ds μ RX R := by
  rintro _ μ0 RX R ⟨row, k, rfl, ⟨hk, k3, k8⟩, h⟩
  have big := sizeLine_big
  have hl := hk.len
  refine ⟨rfl, ?_⟩
  simp only [t_law_ring_choices, mFor, bodySp, mSeq, mRet, mRetN, mExp, mOp, mUn, mVar, mC, mB, mCons, mNil, mSet, mPar, mPar3, mCall, mTest, mIfS, mIf, mAnd, mOr, mNot, mAndV, mOrV, mNotV, mChain, mNx, mPass, mAsg, gNm, gTp, gsCons, gsNil, mIt, mEnum, mR1, mR2, rk1, rk2, mTup, mLst, mYes, mAug, mSl, mPart, mNoPart, addD_i, addD_t, addD_r, addD_s, subD_i, mulD_i, mulD_r, divD_i, modD_i, powD_i, ltD_i, leD_i, gtD_i, geD_i, eqD_i, eqD_s, eqD_r, neD_i, neD_s, neD_r, isND, notND, negD_i, revD_t, revD_r, lenR_t, listR_t, tupR_t, mListRg, mTupRg, mRg1, mRg2, ipAdd, ipSub, List.map_cons, List.map_nil, List.length_cons, List.length_nil, List.replicate, List.cons_append, List.nil_append, List.append_nil, List.getElem?_cons_zero, List.getElem?_cons_succ, List.set_cons_zero, List.set_cons_succ, Option.some.injEq, exists_eq_left', List.cons.injEq, and_assoc, D.int.injEq, D.bl.injEq, D.str.injEq, D.tup.injEq, D.wtup.injEq, D.flst.injEq, D.ref.injEq, wipeD, Nat.reduceSub, Nat.reduceAdd, true_and, and_true, Bool.false_eq_true, if_false, if_true, exists_and_left, exists_and_right, exists_eq_left, reduceCtorEq, false_and, exists_false, or_false, false_or, exists_const, ite_true, ite_false, ↓reduceIte, Bool.not_true, Bool.not_false, Bool.true_eq_false, Nat.zero_eq, Nat.succ_eq_add_one, Nat.sub_self, Nat.sub_zero, Nat.reduceEqDiff]
  refine ⟨by omega, by omega, fun f hf => ?_⟩
  rw [nI_len, hl]
  refine ⟨by omega, by omega, ?_⟩
  refine forD_rng k (fun t δ μ => ∃ (fa : Addr) (fs : List (List Int)) (o3 o4 o5 o6 o7 o8 o9 o10 : Option D), δ = [some (tI row), some (.int k), some (.ref fa), o3, o4, o5, o6, o7, o8, o9, o10] ∧ Ex μ0 μ ∧ μ0 fa = none ∧ μ fa = some (.lst (fs.map tI)) ∧ (∀ c ∈ fs, Pre row t c) ∧ fs.length ≤ 2 ^ t) (fun _ => trivial) ?_ ?_ _ _
    ⟨f, [[]], _, _, _, _, _, _, _, _, rfl, Ex.new hf, hf, updM_same, fun c hc => by rw [List.mem_singleton.mp hc]; exact ⟨rfl, fun i hi => absurd hi (Nat.not_lt_zero _)⟩, by simp⟩
  · rintro _ μ1 ⟨fa, fs, o3, o4, o5, o6, o7, o8, o9, o10, rfl, hE, fa0, hm, hp, hfl⟩
    have h256 : fs.length ≤ 256 := Nat.le_trans hfl (Nat.pow_le_pow_right (by omega) k8 : 2 ^ k ≤ 2 ^ 8)
    simp only [mLc, bodySp, mSeq, mRet, mRetN, mExp, mOp, mUn, mVar, mC, mB, mCons, mNil, mSet, mPar, mPar3, mCall, mTest, mIfS, mIf, mAnd, mOr, mNot, mAndV, mOrV, mNotV, mChain, mNx, mPass, mAsg, gNm, gTp, gsCons, gsNil, mIt, mEnum, mR1, mR2, rk1, rk2, mTup, mLst, mYes, mAug, mSl, mPart, mNoPart, addD_i, addD_t, addD_r, addD_s, subD_i, mulD_i, mulD_r, divD_i, modD_i, powD_i, ltD_i, leD_i, gtD_i, geD_i, eqD_i, eqD_s, eqD_r, neD_i, neD_s, neD_r, isND, notND, negD_i, revD_t, revD_r, lenR_t, listR_t, tupR_t, mListRg, mTupRg, mRg1, mRg2, ipAdd, ipSub, List.map_cons, List.map_nil, List.length_cons, List.length_nil, List.replicate, List.cons_append, List.nil_append, List.append_nil, List.getElem?_cons_zero, List.getElem?_cons_succ, List.set_cons_zero, List.set_cons_succ, Option.some.injEq, exists_eq_left', List.cons.injEq, and_assoc, D.int.injEq, D.bl.injEq, D.str.injEq, D.tup.injEq, D.wtup.injEq, D.flst.injEq, D.ref.injEq, wipeD, Nat.reduceSub, Nat.reduceAdd, true_and, and_true, Bool.false_eq_true, if_false, if_true, exists_and_left, exists_and_right, exists_eq_left, reduceCtorEq, false_and, exists_false, or_false, false_or, exists_const, ite_true, ite_false, ↓reduceIte, Bool.not_true, Bool.not_false, Bool.true_eq_false, Nat.zero_eq, Nat.succ_eq_add_one, Nat.sub_self, Nat.sub_zero, Nat.reduceEqDiff]
    refine ⟨_, .inl hm, fun p hpn => ?_⟩
    have hfp : fa ≠ p := mu_ne hm hpn
    refine lcD_pure (fun d => match d with | .tup l => decide ((l.map unI).sum = 0) | _ => false) (fun d => d) (fun acc => .inl (by rw [updM_ne hfp]; exact hm)) (by rw [List.length_map]; omega) (fun d hd acc N hN => ?_) ?_
    · obtain ⟨c, hc, rfl⟩ := List.mem_map.mp hd
      simp only [bodySp, mSeq, mRet, mRetN, mExp, mOp, mUn, mVar, mC, mB, mCons, mNil, mSet, mPar, mPar3, mCall, mTest, mIfS, mIf, mAnd, mOr, mNot, mAndV, mOrV, mNotV, mChain, mNx, mPass, mAsg, gNm, gTp, gsCons, gsNil, mIt, mEnum, mR1, mR2, rk1, rk2, mTup, mLst, mYes, mAug, mSl, mPart, mNoPart, addD_i, addD_t, addD_r, addD_s, subD_i, mulD_i, mulD_r, divD_i, modD_i, powD_i, ltD_i, leD_i, gtD_i, geD_i, eqD_i, eqD_s, eqD_r, neD_i, neD_s, neD_r, isND, notND, negD_i, revD_t, revD_r, lenR_t, listR_t, tupR_t, mListRg, mTupRg, mRg1, mRg2, ipAdd, ipSub, List.map_cons, List.map_nil, List.length_cons, List.length_nil, List.replicate, List.cons_append, List.nil_append, List.append_nil, List.getElem?_cons_zero, List.getElem?_cons_succ, List.set_cons_zero, List.set_cons_succ, Option.some.injEq, exists_eq_left', List.cons.injEq, and_assoc, D.int.injEq, D.bl.injEq, D.str.injEq, D.tup.injEq, D.wtup.injEq, D.flst.injEq, D.ref.injEq, wipeD, Nat.reduceSub, Nat.reduceAdd, true_and, and_true, Bool.false_eq_true, if_false, if_true, exists_and_left, exists_and_right, exists_eq_left, reduceCtorEq, false_and, exists_false, or_false, false_or, exists_const, ite_true, ite_false, ↓reduceIte, Bool.not_true, Bool.not_false, Bool.true_eq_false, Nat.zero_eq, Nat.succ_eq_add_one, Nat.sub_self, Nat.sub_zero, Nat.reduceEqDiff]
      refine ⟨c, .inl rfl, ?_⟩
      have hN' : N (if decide (c.sum = 0) = true then some (tI c) else none) (updM μ1 p (.lst acc)) := by
        have e : ((nI c).map unI).sum = c.sum := by rw [un_nI]
        have hN2 : N (if decide (((nI c).map unI).sum = 0) = true then some (tI c) else none) (updM μ1 p (.lst acc)) := hN
        rwa [e] at hN2
      refine ⟨decide (c.sum = 0), rfl, ?_⟩
      by_cases g : c.sum = 0
      · rw [decide_eq_true g] at hN' ⊢
        exact hN'
      · rw [decide_eq_false g] at hN' ⊢
        exact hN'
    · rw [List.map_id']
      have hsub : ∀ d ∈ (fs.map tI).filter (fun d => match d with | .tup l => decide ((l.map unI).sum = 0) | _ => false), ∃ c, d = tI c ∧ c ∈ fs ∧ c.sum = 0 := fun d hd => by
        obtain ⟨h1, h2⟩ := List.mem_filter.mp hd
        obtain ⟨c, hc, rfl⟩ := List.mem_map.mp h1
        have : ((nI c).map unI).sum = 0 := by simpa using h2
        rw [un_nI] at this
        exact ⟨c, rfl, hc, this⟩
      obtain ⟨cs, hcs⟩ := tI_inj fun d hd => by obtain ⟨c, e, _⟩ := hsub d hd; exact ⟨c, e⟩
      have hlen := List.length_filter_le (fun d => match d with | .tup l => decide ((l.map unI).sum = 0) | _ => false) (fs.map tI)
      rw [hcs, List.length_map, List.length_map] at hlen
      rw [hcs]
      refine h p cs _ (hE.none hpn) (hE.trans (Ex.new hpn)) updM_same (fun c hc => ?_) (by omega)
      obtain ⟨c', e, hc', hs'⟩ := hsub (tI c) (by rw [hcs]; exact List.mem_map.mpr ⟨c, hc, rfl⟩)
      have ec : c = c' := by
        have e1 : nI c = nI c' := by injection e
        have := congrArg (List.map unI) e1
        rwa [un_nI, un_nI] at this
      subst ec
      have hpc := hp c hc'
      exact ⟨hpc.vd hk k3 (by omega) hs', hpc.1⟩
  · rintro t _ μ1 N ht hN ⟨fa, fs, o3, o4, o5, o6, o7, o8, o9, o10, rfl, hE, fa0, hm, hp, hfl⟩
    have h128 : fs.length ≤ 128 := Nat.le_trans hfl (Nat.pow_le_pow_right (by omega) (by omega) : 2 ^ t ≤ 2 ^ 7)
    have hmem := hk.mem (t := (t : Int)) (by omega) (by omega)
    have hix := List.idxOf_lt_length_of_mem hmem
    simp only [mTIx, bodySp, mSeq, mRet, mRetN, mExp, mOp, mUn, mVar, mC, mB, mCons, mNil, mSet, mPar, mPar3, mCall, mTest, mIfS, mIf, mAnd, mOr, mNot, mAndV, mOrV, mNotV, mChain, mNx, mPass, mAsg, gNm, gTp, gsCons, gsNil, mIt, mEnum, mR1, mR2, rk1, rk2, mTup, mLst, mYes, mAug, mSl, mPart, mNoPart, addD_i, addD_t, addD_r, addD_s, subD_i, mulD_i, mulD_r, divD_i, modD_i, powD_i, ltD_i, leD_i, gtD_i, geD_i, eqD_i, eqD_s, eqD_r, neD_i, neD_s, neD_r, isND, notND, negD_i, revD_t, revD_r, lenR_t, listR_t, tupR_t, mListRg, mTupRg, mRg1, mRg2, ipAdd, ipSub, List.map_cons, List.map_nil, List.length_cons, List.length_nil, List.replicate, List.cons_append, List.nil_append, List.append_nil, List.getElem?_cons_zero, List.getElem?_cons_succ, List.set_cons_zero, List.set_cons_succ, Option.some.injEq, exists_eq_left', List.cons.injEq, and_assoc, D.int.injEq, D.bl.injEq, D.str.injEq, D.tup.injEq, D.wtup.injEq, D.flst.injEq, D.ref.injEq, wipeD, Nat.reduceSub, Nat.reduceAdd, true_and, and_true, Bool.false_eq_true, if_false, if_true, exists_and_left, exists_and_right, exists_eq_left, reduceCtorEq, false_and, exists_false, or_false, false_or, exists_const, ite_true, ite_false, ↓reduceIte, Bool.not_true, Bool.not_false, Bool.true_eq_false, Nat.zero_eq, Nat.succ_eq_add_one, Nat.sub_self, Nat.sub_zero, Nat.reduceEqDiff]
    refine ⟨rfl, all_flat row, row.idxOf (t : Int), firstIx_int hmem, ?_⟩
    have hsb : -(k : Int) < ((row.idxOf (t : Int) : Nat) : Int) - t ∧ ((row.idxOf (t : Int) : Nat) : Int) - t < k := by omega
    have g1 : Good row t (((row.idxOf (t : Int) : Nat) : Int) - t) := ⟨by omega, by
      rw [show (t : Int) + (((row.idxOf (t : Int) : Nat) : Int) - t) = (row.idxOf (t : Int) : Nat) by omega, Int.emod_eq_of_lt (by omega) (by omega)]⟩
    have g2 : ∀ w : Int, (w = ((row.idxOf (t : Int) : Nat) : Int) - t + k ∨ w = ((row.idxOf (t : Int) : Nat) : Int) - t - k) → (-(row.length : Int) < w ∧ w < row.length) → Good row t w := fun w hw hb => ⟨hb, by
      rcases hw with rfl | rfl
      · rw [show (t : Int) + (((row.idxOf (t : Int) : Nat) : Int) - t + k) = (row.idxOf (t : Int) : Nat) + k by omega, hl, Int.add_emod_right, Int.emod_eq_of_lt (by omega) (by omega)]
      · rw [show (t : Int) + (((row.idxOf (t : Int) : Nat) : Int) - t - k) = (row.idxOf (t : Int) : Nat) - k by omega, hl, Int.sub_emod_right, Int.emod_eq_of_lt (by omega) (by omega)]⟩
    generalize ((row.idxOf (t : Int) : Nat) : Int) - t = sh at hsb g1 g2
    have rest : ∀ (Δ : DEnds) (far : Int) (sa la : Addr) (ss : List Int) (μ2 : Mu), Ex μ0 μ2 → μ2 fa = some (.lst (fs.map tI)) → μ2 sa = some (.lst (nI ss)) → (∀ v ∈ ss, Good row t v) → ss.length ≤ 2 → μ0 la = none → μ2 la = some (.lst []) →
        (∀ (la' : Addr) (fs' : List (List Int)) (o8 o9 : Option D) (μ3 : Mu), Ex μ0 μ3 → μ0 la' = none → μ3 la' = some (.lst (fs'.map tI)) → (∀ c ∈ fs', Pre row (t + 1) c) → fs'.length ≤ 2 ^ (t + 1) → Δ.nx [some (tI row), some (.int k), some (.ref fa), some (.int t), some (.int sh), some (.int far), some (.ref sa), some (.ref la'), o8, o9, o10] μ3) →
        mFor (mIt (mVar 2)) (gNm 8) (mSet 7 (mOp addD (mVar 7) (mLc (mIt (mVar 6)) (gNm 9) mYes (mOp addD (mVar 8) (mTup (mCons (mVar 9) mNil))) [9]))) Δ
          [some (tI row), some (.int k), some (.ref fa), some (.int t), some (.int sh), some (.int far), some (.ref sa), some (.ref la), o8, o9, o10] μ2 := fun Δ far sa la ss μ2 hE2 hfa hsa hgo hss la0 hla hΔ => by
      simp only [mFor, bodySp, mSeq, mRet, mRetN, mExp, mOp, mUn, mVar, mC, mB, mCons, mNil, mSet, mPar, mPar3, mCall, mTest, mIfS, mIf, mAnd, mOr, mNot, mAndV, mOrV, mNotV, mChain, mNx, mPass, mAsg, gNm, gTp, gsCons, gsNil, mIt, mEnum, mR1, mR2, rk1, rk2, mTup, mLst, mYes, mAug, mSl, mPart, mNoPart, addD_i, addD_t, addD_r, addD_s, subD_i, mulD_i, mulD_r, divD_i, modD_i, powD_i, ltD_i, leD_i, gtD_i, geD_i, eqD_i, eqD_s, eqD_r, neD_i, neD_s, neD_r, isND, notND, negD_i, revD_t, revD_r, lenR_t, listR_t, tupR_t, mListRg, mTupRg, mRg1, mRg2, ipAdd, ipSub, List.map_cons, List.map_nil, List.length_cons, List.length_nil, List.replicate, List.cons_append, List.nil_append, List.append_nil, List.getElem?_cons_zero, List.getElem?_cons_succ, List.set_cons_zero, List.set_cons_succ, Option.some.injEq, exists_eq_left', List.cons.injEq, and_assoc, D.int.injEq, D.bl.injEq, D.str.injEq, D.tup.injEq, D.wtup.injEq, D.flst.injEq, D.ref.injEq, wipeD, Nat.reduceSub, Nat.reduceAdd, true_and, and_true, Bool.false_eq_true, if_false, if_true, exists_and_left, exists_and_right, exists_eq_left, reduceCtorEq, false_and, exists_false, or_false, false_or, exists_const, ite_true, ite_false, ↓reduceIte, Bool.not_true, Bool.not_false, Bool.true_eq_false, Nat.zero_eq, Nat.succ_eq_add_one, Nat.sub_self, Nat.sub_zero, Nat.reduceEqDiff]
      refine ⟨_, .inl hfa, ?_⟩
      refine forD_ix _ (fun j δ μ => ∃ (la' : Addr) (fs' : List (List Int)) (o8 o9 : Option D), δ = [some (tI row), some (.int k), some (.ref fa), some (.int t), some (.int sh), some (.int far), some (.ref sa), some (.ref la'), o8, o9, o10] ∧ Ex μ0 μ ∧ Ex μ2 μ ∧ μ0 la' = none ∧ μ la' = some (.lst (fs'.map tI)) ∧ (∀ c ∈ fs', Pre row (t + 1) c) ∧ fs'.length ≤ j * 2)
        (fun j δ μ ⟨_, _, _, _, _, _, hE, _⟩ => .inl (hE.at hfa)) ?_ ?_ _ _ ⟨la, [], _, _, rfl, hE2, Ex.refl, la0, hla, by simp, by simp⟩
      · rintro _ μ3 ⟨la', fs', p8, p9, rfl, hE3, hE23, la'0, hla', hp', hfl'⟩
        refine hΔ la' fs' p8 p9 μ3 hE3 la'0 hla' hp' ?_
        rw [List.length_map] at hfl'
        have : 2 ^ (t + 1) = 2 ^ t * 2 := Nat.pow_succ 2 t
        omega
      · rintro j d _ μ3 N3 hd hN3 ⟨la', fs', p8, p9, rfl, hE3, hE23, la'0, hla', hp', hfl'⟩
        rw [List.getElem?_map] at hd
        cases hc : fs[j]? with
        | none => rw [hc] at hd; cases hd
        | some c =>
          rw [hc] at hd
          cases hd
          have hcm := List.mem_of_getElem? hc
          have hj : j < fs.length := by
            rcases Nat.lt_or_ge j fs.length with z | z
            · exact z
            · rw [List.getElem?_eq_none z] at hc; cases hc
          have hpc := hp c hcm
          simp only [mLc, bodySp, mSeq, mRet, mRetN, mExp, mOp, mUn, mVar, mC, mB, mCons, mNil, mSet, mPar, mPar3, mCall, mTest, mIfS, mIf, mAnd, mOr, mNot, mAndV, mOrV, mNotV, mChain, mNx, mPass, mAsg, gNm, gTp, gsCons, gsNil, mIt, mEnum, mR1, mR2, rk1, rk2, mTup, mLst, mYes, mAug, mSl, mPart, mNoPart, addD_i, addD_t, addD_r, addD_s, subD_i, mulD_i, mulD_r, divD_i, modD_i, powD_i, ltD_i, leD_i, gtD_i, geD_i, eqD_i, eqD_s, eqD_r, neD_i, neD_s, neD_r, isND, notND, negD_i, revD_t, revD_r, lenR_t, listR_t, tupR_t, mListRg, mTupRg, mRg1, mRg2, ipAdd, ipSub, List.map_cons, List.map_nil, List.length_cons, List.length_nil, List.replicate, List.cons_append, List.nil_append, List.append_nil, List.getElem?_cons_zero, List.getElem?_cons_succ, List.set_cons_zero, List.set_cons_succ, Option.some.injEq, exists_eq_left', List.cons.injEq, and_assoc, D.int.injEq, D.bl.injEq, D.str.injEq, D.tup.injEq, D.wtup.injEq, D.flst.injEq, D.ref.injEq, wipeD, Nat.reduceSub, Nat.reduceAdd, true_and, and_true, Bool.false_eq_true, if_false, if_true, exists_and_left, exists_and_right, exists_eq_left, reduceCtorEq, false_and, exists_false, or_false, false_or, exists_const, ite_true, ite_false, ↓reduceIte, Bool.not_true, Bool.not_false, Bool.true_eq_false, Nat.zero_eq, Nat.succ_eq_add_one, Nat.sub_self, Nat.sub_zero, Nat.reduceEqDiff]
          have hsa3 := hE23.at hsa
          refine ⟨_, .inl hsa3, fun p hpn => ?_⟩
          have hsp : sa ≠ p := mu_ne hsa3 hpn
          have hlp : la' ≠ p := mu_ne hla' hpn
          refine lcD_int (fun _ => true) (fun v => tI (c ++ [v])) (fun acc => .inl (by rw [updM_ne hsp]; exact hsa3)) (by omega) (fun v hv acc N2 hN2 => ?_) ?_
          · simp only [bodySp, mSeq, mRet, mRetN, mExp, mOp, mUn, mVar, mC, mB, mCons, mNil, mSet, mPar, mPar3, mCall, mTest, mIfS, mIf, mAnd, mOr, mNot, mAndV, mOrV, mNotV, mChain, mNx, mPass, mAsg, gNm, gTp, gsCons, gsNil, mIt, mEnum, mR1, mR2, rk1, rk2, mTup, mLst, mYes, mAug, mSl, mPart, mNoPart, addD_i, addD_t, addD_r, addD_s, subD_i, mulD_i, mulD_r, divD_i, modD_i, powD_i, ltD_i, leD_i, gtD_i, geD_i, eqD_i, eqD_s, eqD_r, neD_i, neD_s, neD_r, isND, notND, negD_i, revD_t, revD_r, lenR_t, listR_t, tupR_t, mListRg, mTupRg, mRg1, mRg2, ipAdd, ipSub, List.map_cons, List.map_nil, List.length_cons, List.length_nil, List.replicate, List.cons_append, List.nil_append, List.append_nil, List.getElem?_cons_zero, List.getElem?_cons_succ, List.set_cons_zero, List.set_cons_succ, Option.some.injEq, exists_eq_left', List.cons.injEq, and_assoc, D.int.injEq, D.bl.injEq, D.str.injEq, D.tup.injEq, D.wtup.injEq, D.flst.injEq, D.ref.injEq, wipeD, Nat.reduceSub, Nat.reduceAdd, true_and, and_true, Bool.false_eq_true, if_false, if_true, exists_and_left, exists_and_right, exists_eq_left, reduceCtorEq, false_and, exists_false, or_false, false_or, exists_const, ite_true, ite_false, ↓reduceIte, Bool.not_true, Bool.not_false, Bool.true_eq_false, Nat.zero_eq, Nat.succ_eq_add_one, Nat.sub_self, Nat.sub_zero, Nat.reduceEqDiff]
            refine ⟨by omega, by have := hpc.1; rw [List.length_map]; omega, ?_⟩
            have e : nI c ++ [D.int v] = nI (c ++ [v]) := by simp
            rw [e]
            rw [if_pos rfl] at hN2
            exact hN2
          · rw [List.filter_eq_self.mpr (by simp)]
            have el : (ss.map fun v => tI (c ++ [v])) = (ss.map fun v => c ++ [v]).map tI := by rw [List.map_map]; rfl
            rw [el]
            refine ⟨_, by rw [updM_ne hlp]; exact hla', _, updM_same, by rw [List.length_map, List.length_map, List.length_map]; omega, fun r hr => ?_⟩
            have hrp : r ≠ p := fun z => by rw [z, updM_same] at hr; cases hr
            have hr3 : μ3 r = none := by rwa [updM_ne hrp] at hr
            have eE : Ex μ3 (updM (updM μ3 p (.lst ((ss.map fun v => c ++ [v]).map tI))) r (.lst (fs'.map tI ++ (ss.map fun v => c ++ [v]).map tI))) := (Ex.new hpn).trans (Ex.new hr)
            refine hN3 _ _ ⟨r, fs' ++ ss.map fun v => c ++ [v], _, _, rfl, hE3.trans eE, hE23.trans eE, hE3.none hr3, ?_, ?_, ?_⟩
            · rw [updM_same, List.map_append]
            · intro x hx
              rcases List.mem_append.mp hx with z | z
              · exact hp' x z
              · obtain ⟨v, hv, rfl⟩ := List.mem_map.mp z
                exact hpc.snoc (hgo v hv)
            · rw [List.length_append, List.length_map]; omega
    have fin : ∀ (far : Int) (sa la' : Addr) (fs' : List (List Int)) (p8 p9 : Option D) (μ3 : Mu), Ex μ0 μ3 → μ0 la' = none → μ3 la' = some (.lst (fs'.map tI)) → (∀ c ∈ fs', Pre row (t + 1) c) → fs'.length ≤ 2 ^ (t + 1) →
        N [some (tI row), some (.int k), some (.ref la'), some (.int t), some (.int sh), some (.int far), some (.ref sa), some (.ref la'), p8, p9, o10] μ3 := fun far sa la' fs' p8 p9 μ3 a1 a2 a3 a4 a5 =>
      hN _ _ ⟨la', fs', _, _, _, _, _, _, _, _, rfl, a1, a2, a3, a4, a5⟩
    have zero : ∀ (Δ : DEnds) (far : Int), sh = 0 → (∀ (sa la' : Addr) (p8 p9 : Option D) (μ3 : Mu), N [some (tI row), some (.int k), some (.ref la'), some (.int t), some (.int sh), some (.int far), some (.ref sa), some (.ref la'), p8, p9, o10] μ3 → Δ.nx [some (tI row), some (.int k), some (.ref fa), some (.int t), some (.int sh), some (.int far), some (.ref sa), some (.ref la'), p8, p9, o10] μ3) →
        1 ≤ sizeLine ∧ ∀ p, μ1 p = none → 0 ≤ sizeLine ∧ ∀ p_1, updM μ1 p (.lst [.int 0]) p_1 = none → mFor (mIt (mVar 2)) (gNm 8) (mSet 7 (mOp addD (mVar 7) (mLc (mIt (mVar 6)) (gNm 9) mYes (mOp addD (mVar 8) (mTup (mCons (mVar 9) mNil))) [9]))) Δ
          [some (tI row), some (.int k), some (.ref fa), some (.int t), some (.int sh), some (.int far), some (.ref p), some (.ref p_1), o8, o9, o10] (updM (updM μ1 p (.lst [.int 0])) p_1 (.lst [])) := fun Δ far h0 hΔ => by
      refine ⟨by omega, fun p hpn => ⟨by omega, fun p1 hp1 => ?_⟩⟩
      have eE : Ex μ1 (updM (updM μ1 p (.lst [.int 0])) p1 (.lst [])) := (Ex.new hpn).trans (Ex.new hp1)
      have hpp : p ≠ p1 := mu_ne updM_same hp1
      refine rest Δ far p p1 [0] _ (hE.trans eE) (eE.at hm) (by rw [updM_ne hpp]; exact updM_same) (fun v hv => ?_) (by simp) (hE.none ((Ex.new hpn).none hp1)) updM_same fun la' fs' p8 p9 μ3 a1 a2 a3 a4 a5 => hΔ _ _ _ _ _ (fin _ _ _ _ _ _ _ a1 a2 a3 a4 a5)
      rw [List.mem_singleton.mp hv, ← h0]; exact g1
    have two : ∀ (Δ : DEnds) (far : Int), Good row t far → (∀ (sa la' : Addr) (p8 p9 : Option D) (μ3 : Mu), N [some (tI row), some (.int k), some (.ref la'), some (.int t), some (.int sh), some (.int far), some (.ref sa), some (.ref la'), p8, p9, o10] μ3 → Δ.nx [some (tI row), some (.int k), some (.ref fa), some (.int t), some (.int sh), some (.int far), some (.ref sa), some (.ref la'), p8, p9, o10] μ3) →
        2 ≤ sizeLine ∧ ∀ p, μ1 p = none → sortedR [.ref p] (updM μ1 p (.lst [.int sh, .int far])) fun d μ1 => 0 ≤ sizeLine ∧ ∀ p, μ1 p = none → mFor (mIt (mVar 2)) (gNm 8) (mSet 7 (mOp addD (mVar 7) (mLc (mIt (mVar 6)) (gNm 9) mYes (mOp addD (mVar 8) (mTup (mCons (mVar 9) mNil))) [9]))) Δ
          [some (tI row), some (.int k), some (.ref fa), some (.int t), some (.int sh), some (.int far), some d, some (.ref p), o8, o9, o10] (updM μ1 p (.lst [])) := fun Δ far gf hΔ => by
      refine ⟨by omega, fun p hpn => ⟨p, [sh, far], rfl, .inl updM_same, fun ns hperm _ q hq => ⟨by omega, fun p1 hp1 => ?_⟩⟩⟩
      have eE : Ex μ1 (updM (updM (updM μ1 p (.lst [.int sh, .int far])) q (.lst (nI ns))) p1 (.lst [])) := ((Ex.new hpn).trans (Ex.new hq)).trans (Ex.new hp1)
      have hqp : q ≠ p1 := mu_ne updM_same hp1
      refine rest Δ far q p1 ns _ (hE.trans eE) (eE.at hm) (by rw [updM_ne hqp]; exact updM_same) (fun v hv => ?_) (by rw [hperm.length_eq]; simp) (hE.none ((Ex.new hpn).none ((Ex.new hq).none hp1))) updM_same fun la' fs' p8 p9 μ3 a1 a2 a3 a4 a5 => hΔ _ _ _ _ _ (fin _ _ _ _ _ _ _ a1 a2 a3 a4 a5)
      rcases List.mem_cons.mp (hperm.mem_iff.mp hv) with rfl | z
      · exact g1
      · rw [List.mem_singleton.mp z]; exact gf
    by_cases gp : 0 < sh
    · rw [if_pos (decide_eq_true gp), if_neg (by simp; omega)]
      exact two _ _ (g2 _ (.inr rfl) (by omega)) fun sa la' p8 p9 μ3 hh => by simp only [bodySp, mSeq, mRet, mRetN, mExp, mOp, mUn, mVar, mC, mB, mCons, mNil, mSet, mPar, mPar3, mCall, mTest, mIfS, mIf, mAnd, mOr, mNot, mAndV, mOrV, mNotV, mChain, mNx, mPass, mAsg, gNm, gTp, gsCons, gsNil, mIt, mEnum, mR1, mR2, rk1, rk2, mTup, mLst, mYes, mAug, mSl, mPart, mNoPart, addD_i, addD_t, addD_r, addD_s, subD_i, mulD_i, mulD_r, divD_i, modD_i, powD_i, ltD_i, leD_i, gtD_i, geD_i, eqD_i, eqD_s, eqD_r, neD_i, neD_s, neD_r, isND, notND, negD_i, revD_t, revD_r, lenR_t, listR_t, tupR_t, mListRg, mTupRg, mRg1, mRg2, ipAdd, ipSub, List.map_cons, List.map_nil, List.length_cons, List.length_nil, List.replicate, List.cons_append, List.nil_append, List.append_nil, List.getElem?_cons_zero, List.getElem?_cons_succ, List.set_cons_zero, List.set_cons_succ, Option.some.injEq, exists_eq_left', List.cons.injEq, and_assoc, D.int.injEq, D.bl.injEq, D.str.injEq, D.tup.injEq, D.wtup.injEq, D.flst.injEq, D.ref.injEq, wipeD, Nat.reduceSub, Nat.reduceAdd, true_and, and_true, Bool.false_eq_true, if_false, if_true, exists_and_left, exists_and_right, exists_eq_left, reduceCtorEq, false_and, exists_false, or_false, false_or, exists_const, ite_true, ite_false, ↓reduceIte, Bool.not_true, Bool.not_false, Bool.true_eq_false, Nat.zero_eq, Nat.succ_eq_add_one, Nat.sub_self, Nat.sub_zero, Nat.reduceEqDiff]; exact hh
    · rw [if_neg (by simpa using gp)]
      by_cases g0 : sh = 0
      · rw [if_pos (decide_eq_true g0)]
        exact zero _ _ g0 fun sa la' p8 p9 μ3 hh => by simp only [bodySp, mSeq, mRet, mRetN, mExp, mOp, mUn, mVar, mC, mB, mCons, mNil, mSet, mPar, mPar3, mCall, mTest, mIfS, mIf, mAnd, mOr, mNot, mAndV, mOrV, mNotV, mChain, mNx, mPass, mAsg, gNm, gTp, gsCons, gsNil, mIt, mEnum, mR1, mR2, rk1, rk2, mTup, mLst, mYes, mAug, mSl, mPart, mNoPart, addD_i, addD_t, addD_r, addD_s, subD_i, mulD_i, mulD_r, divD_i, modD_i, powD_i, ltD_i, leD_i, gtD_i, geD_i, eqD_i, eqD_s, eqD_r, neD_i, neD_s, neD_r, isND, notND, negD_i, revD_t, revD_r, lenR_t, listR_t, tupR_t, mListRg, mTupRg, mRg1, mRg2, ipAdd, ipSub, List.map_cons, List.map_nil, List.length_cons, List.length_nil, List.replicate, List.cons_append, List.nil_append, List.append_nil, List.getElem?_cons_zero, List.getElem?_cons_succ, List.set_cons_zero, List.set_cons_succ, Option.some.injEq, exists_eq_left', List.cons.injEq, and_assoc, D.int.injEq, D.bl.injEq, D.str.injEq, D.tup.injEq, D.wtup.injEq, D.flst.injEq, D.ref.injEq, wipeD, Nat.reduceSub, Nat.reduceAdd, true_and, and_true, Bool.false_eq_true, if_false, if_true, exists_and_left, exists_and_right, exists_eq_left, reduceCtorEq, false_and, exists_false, or_false, false_or, exists_const, ite_true, ite_false, ↓reduceIte, Bool.not_true, Bool.not_false, Bool.true_eq_false, Nat.zero_eq, Nat.succ_eq_add_one, Nat.sub_self, Nat.sub_zero, Nat.reduceEqDiff]; exact hh
      · rw [if_neg (by simpa using g0)]
        exact two _ _ (g2 _ (.inl rfl) (by omega)) fun sa la' p8 p9 μ3 hh => by simp only [bodySp, mSeq, mRet, mRetN, mExp, mOp, mUn, mVar, mC, mB, mCons, mNil, mSet, mPar, mPar3, mCall, mTest, mIfS, mIf, mAnd, mOr, mNot, mAndV, mOrV, mNotV, mChain, mNx, mPass, mAsg, gNm, gTp, gsCons, gsNil, mIt, mEnum, mR1, mR2, rk1, rk2, mTup, mLst, mYes, mAug, mSl, mPart, mNoPart, addD_i, addD_t, addD_r, addD_s, subD_i, mulD_i, mulD_r, divD_i, modD_i, powD_i, ltD_i, leD_i, gtD_i, geD_i, eqD_i, eqD_s, eqD_r, neD_i, neD_s, neD_r, isND, notND, negD_i, revD_t, revD_r, lenR_t, listR_t, tupR_t, mListRg, mTupRg, mRg1, mRg2, ipAdd, ipSub, List.map_cons, List.map_nil, List.length_cons, List.length_nil, List.replicate, List.cons_append, List.nil_append, List.append_nil, List.getElem?_cons_zero, List.getElem?_cons_succ, List.set_cons_zero, List.set_cons_succ, Option.some.injEq, exists_eq_left', List.cons.injEq, and_assoc, D.int.injEq, D.bl.injEq, D.str.injEq, D.tup.injEq, D.wtup.injEq, D.flst.injEq, D.ref.injEq, wipeD, Nat.reduceSub, Nat.reduceAdd, true_and, and_true, Bool.false_eq_true, if_false, if_true, exists_and_left, exists_and_right, exists_eq_left, reduceCtorEq, false_and, exists_false, or_false, false_or, exists_const, ite_true, ite_false, ↓reduceIte, Bool.not_true, Bool.not_false, Bool.true_eq_false, Nat.zero_eq, Nat.succ_eq_add_one, Nat.sub_self, Nat.sub_zero, Nat.reduceEqDiff]; exact hh
end Sw

set_option Elab.async false
set_option linter.all false
set_option maxRecDepth 100000
set_option maxHeartbeats 2000000
namespace Sw
open PySem PySem.Spec L2 DL RM
def sp_law_ring_case : DSp := fun ds μ RX R => ∃ m cA g n k, ds = [.ref m, .int (k : Nat)] ∧ LM m cA g n μ ∧ (3 ≤ k ∧ k ≤ 8 ∧ n < 800000) ∧
  ∀ (rs : List (List Int)) (d : List Int) μ' n', n' ≤ n + 4000 → LM m cA g n' μ' → Kp [m, g] μ μ' → (∀ l ∈ rs, Rk l k) → rs.length = k → Vd d → d.length = k → R (.tup [.tup (rs.map tI), tI d]) μ'
def t_law_ring_case : DS :=
  (mSeq (mAsg (mCall sp_law_ring_walk [] (mCons (mVar 0) (mCons (mVar 1) mNil))) (gTp 2 (gsCons (gNm 2) (gsCons (gNm 3) gsNil))))
  (mSeq (mPar 4 5 (mCons (mCall sp_law_ring_lists [] (mCons (mVar 0) (mCons (mVar 1) (mCons (mVar 2) mNil)))) (mCons (mCall sp_law_draw [] (mCons (mVar 0) (mCons (mC (.int 4)) mNil))) mNil)))
  (mSeq (mIfS (mTest (mOp eqD (mVar 5) (mC (.int 2))))
  (mSet 3 (mOp ixD (mCall sp_law_ring_walk [] (mCons (mVar 0) (mCons (mVar 1) mNil))) (mC (.int 1))))
  mNx)
  (mSeq (mIfS (mTest (mOp eqD (mVar 5) (mC (.int 3))))
  (mSeq (mSet 6 (mB tupR (mCons (mCall sp_law_mixed_up [] (mCons (mVar 0) (mCons (mListRg (mRg1 (mVar 1))) mNil))) mNil)))
  (mSeq (mSet 7 (mCall sp_law_ring_choices [] (mCons (mVar 6) mNil)))
  (mSet 3 (mIf (mTest (mOp neD (mVar 7) (mLst mNil))) (mOp ixD (mVar 7) (mCall sp_law_draw [] (mCons (mVar 0) (mCons (mB lenR (mCons (mVar 7) mNil)) mNil)))) (mVar 3)))))
  mNx)
  (mRet (mTup (mCons (mVar 4) (mCons (mVar 3) mNil))))))))
abbrev N_law_ring_case : List Str := ["_law_m", "_law_many", "_law_held", "_law_moves", "_law_lists", "_law_way", "_law_row", "_law_some"]
abbrev P_law_ring_case : List Str := ["_law_m", "_law_many"]
theorem ix1 {a b : D} {μ : Mu} {R : DK} (h : R b μ) : ixD (.tup [a, b]) (.int 1) μ R := (ixD_t (atI_nat (by omega) rfl)).mpr h
theorem ix0 {a b : D} {μ : Mu} {R : DK} (h : R a μ) : ixD (.tup [a, b]) (.int 0) μ R := (ixD_t (atI_nat (by omega) rfl)).mpr h
theorem law_law_ring_case : ∀ ds μ RX R, sp_law_ring_case ds μ RX R → bodySp P_law_ring_case.length N_law_ring_case.length t_law_ring_case ds μ RX R := by
  rintro _ μ0 RX R ⟨m, cA, g, n, k, rfl, L, ⟨k3, k8, hn⟩, h⟩
  have big := sizeLine_big
  refine ⟨rfl, ?_⟩
  simp only [t_law_ring_case, bodySp, mSeq, mRet, mRetN, mExp, mOp, mUn, mVar, mC, mB, mCons, mNil, mSet, mPar, mPar3, mCall, mTest, mIfS, mIf, mAnd, mOr, mNot, mAndV, mOrV, mNotV, mChain, mNx, mPass, mAsg, gNm, gTp, gsCons, gsNil, mIt, mEnum, mR1, mR2, rk1, rk2, mTup, mLst, mYes, mAug, mSl, mPart, mNoPart, addD_i, addD_t, addD_r, addD_s, subD_i, mulD_i, mulD_r, divD_i, modD_i, powD_i, ltD_i, leD_i, gtD_i, geD_i, eqD_i, eqD_s, eqD_r, neD_i, neD_s, neD_r, isND, notND, negD_i, revD_t, revD_r, lenR_t, listR_t, tupR_t, mListRg, mTupRg, mRg1, mRg2, ipAdd, ipSub, List.map_cons, List.map_nil, List.length_cons, List.length_nil, List.replicate, List.cons_append, List.nil_append, List.append_nil, List.getElem?_cons_zero, List.getElem?_cons_succ, List.set_cons_zero, List.set_cons_succ, Option.some.injEq, exists_eq_left', List.cons.injEq, and_assoc, D.int.injEq, D.bl.injEq, D.str.injEq, D.tup.injEq, D.wtup.injEq, D.flst.injEq, D.ref.injEq, wipeD, Nat.reduceSub, Nat.reduceAdd, true_and, and_true, Bool.false_eq_true, if_false, if_true, exists_and_left, exists_and_right, exists_eq_left, reduceCtorEq, false_and, exists_false, or_false, false_or, exists_const, ite_true, ite_false, ↓reduceIte, Bool.not_true, Bool.not_false, Bool.true_eq_false, Nat.zero_eq, Nat.succ_eq_add_one, Nat.sub_self, Nat.sub_zero, Nat.reduceEqDiff]
  refine ⟨m, cA, g, n, k, rfl, L, ⟨k3, by omega, by omega⟩, fun q hs hl mv μ1 n1 hn1 L1 K1 H1 V1 e1 => ?_⟩
  simp only [bodySp, mSeq, mRet, mRetN, mExp, mOp, mUn, mVar, mC, mB, mCons, mNil, mSet, mPar, mPar3, mCall, mTest, mIfS, mIf, mAnd, mOr, mNot, mAndV, mOrV, mNotV, mChain, mNx, mPass, mAsg, gNm, gTp, gsCons, gsNil, mIt, mEnum, mR1, mR2, rk1, rk2, mTup, mLst, mYes, mAug, mSl, mPart, mNoPart, addD_i, addD_t, addD_r, addD_s, subD_i, mulD_i, mulD_r, divD_i, modD_i, powD_i, ltD_i, leD_i, gtD_i, geD_i, eqD_i, eqD_s, eqD_r, neD_i, neD_s, neD_r, isND, notND, negD_i, revD_t, revD_r, lenR_t, listR_t, tupR_t, mListRg, mTupRg, mRg1, mRg2, ipAdd, ipSub, List.map_cons, List.map_nil, List.length_cons, List.length_nil, List.replicate, List.cons_append, List.nil_append, List.append_nil, List.getElem?_cons_zero, List.getElem?_cons_succ, List.set_cons_zero, List.set_cons_succ, Option.some.injEq, exists_eq_left', List.cons.injEq, and_assoc, D.int.injEq, D.bl.injEq, D.str.injEq, D.tup.injEq, D.wtup.injEq, D.flst.injEq, D.ref.injEq, wipeD, Nat.reduceSub, Nat.reduceAdd, true_and, and_true, Bool.false_eq_true, if_false, if_true, exists_and_left, exists_and_right, exists_eq_left, reduceCtorEq, false_and, exists_false, or_false, false_or, exists_const, ite_true, ite_false, ↓reduceIte, Bool.not_true, Bool.not_false, Bool.true_eq_false, Nat.zero_eq, Nat.succ_eq_add_one, Nat.sub_self, Nat.sub_zero, Nat.reduceEqDiff]
  refine ⟨m, cA, g, n1, k, q, hs, hl, rfl, L1, H1, ⟨k3, by omega, by omega⟩, fun rs μ2 n2 hn2 L2 K2 hr hrl => ?_⟩
  simp only [bodySp, mSeq, mRet, mRetN, mExp, mOp, mUn, mVar, mC, mB, mCons, mNil, mSet, mPar, mPar3, mCall, mTest, mIfS, mIf, mAnd, mOr, mNot, mAndV, mOrV, mNotV, mChain, mNx, mPass, mAsg, gNm, gTp, gsCons, gsNil, mIt, mEnum, mR1, mR2, rk1, rk2, mTup, mLst, mYes, mAug, mSl, mPart, mNoPart, addD_i, addD_t, addD_r, addD_s, subD_i, mulD_i, mulD_r, divD_i, modD_i, powD_i, ltD_i, leD_i, gtD_i, geD_i, eqD_i, eqD_s, eqD_r, neD_i, neD_s, neD_r, isND, notND, negD_i, revD_t, revD_r, lenR_t, listR_t, tupR_t, mListRg, mTupRg, mRg1, mRg2, ipAdd, ipSub, List.map_cons, List.map_nil, List.length_cons, List.length_nil, List.replicate, List.cons_append, List.nil_append, List.append_nil, List.getElem?_cons_zero, List.getElem?_cons_succ, List.set_cons_zero, List.set_cons_succ, Option.some.injEq, exists_eq_left', List.cons.injEq, and_assoc, D.int.injEq, D.bl.injEq, D.str.injEq, D.tup.injEq, D.wtup.injEq, D.flst.injEq, D.ref.injEq, wipeD, Nat.reduceSub, Nat.reduceAdd, true_and, and_true, Bool.false_eq_true, if_false, if_true, exists_and_left, exists_and_right, exists_eq_left, reduceCtorEq, false_and, exists_false, or_false, false_or, exists_const, ite_true, ite_false, ↓reduceIte, Bool.not_true, Bool.not_false, Bool.true_eq_false, Nat.zero_eq, Nat.succ_eq_add_one, Nat.sub_self, Nat.sub_zero, Nat.reduceEqDiff]
  refine ⟨m, cA, g, n2, 4, rfl, L2, ⟨by omega, by omega, by omega⟩, fun way μ3 w0 w1 L3 K3 => ?_⟩
  simp only [bodySp, mSeq, mRet, mRetN, mExp, mOp, mUn, mVar, mC, mB, mCons, mNil, mSet, mPar, mPar3, mCall, mTest, mIfS, mIf, mAnd, mOr, mNot, mAndV, mOrV, mNotV, mChain, mNx, mPass, mAsg, gNm, gTp, gsCons, gsNil, mIt, mEnum, mR1, mR2, rk1, rk2, mTup, mLst, mYes, mAug, mSl, mPart, mNoPart, addD_i, addD_t, addD_r, addD_s, subD_i, mulD_i, mulD_r, divD_i, modD_i, powD_i, ltD_i, leD_i, gtD_i, geD_i, eqD_i, eqD_s, eqD_r, neD_i, neD_s, neD_r, isND, notND, negD_i, revD_t, revD_r, lenR_t, listR_t, tupR_t, mListRg, mTupRg, mRg1, mRg2, ipAdd, ipSub, List.map_cons, List.map_nil, List.length_cons, List.length_nil, List.replicate, List.cons_append, List.nil_append, List.append_nil, List.getElem?_cons_zero, List.getElem?_cons_succ, List.set_cons_zero, List.set_cons_succ, Option.some.injEq, exists_eq_left', List.cons.injEq, and_assoc, D.int.injEq, D.bl.injEq, D.str.injEq, D.tup.injEq, D.wtup.injEq, D.flst.injEq, D.ref.injEq, wipeD, Nat.reduceSub, Nat.reduceAdd, true_and, and_true, Bool.false_eq_true, if_false, if_true, exists_and_left, exists_and_right, exists_eq_left, reduceCtorEq, false_and, exists_false, or_false, false_or, exists_const, ite_true, ite_false, ↓reduceIte, Bool.not_true, Bool.not_false, Bool.true_eq_false, Nat.zero_eq, Nat.succ_eq_add_one, Nat.sub_self, Nat.sub_zero, Nat.reduceEqDiff]
  have K03 : Kp [m, g] μ0 μ3 := Kp.trans K1 (Kp.trans K2 K3)
  by_cases g2 : way = 2
  · rw [if_pos (decide_eq_true g2)]
    refine ⟨m, cA, g, _, k, rfl, L3, ⟨k3, by omega, by omega⟩, fun q' hs' hl' mv' μ4 n4 hn4 L4 K4 H4 V4 e4 => ix1 ?_⟩
    rw [if_neg (by simp; omega)]
    exact ⟨by omega, h rs mv' μ4 n4 (by omega) L4 (Kp.trans K03 K4) hr hrl V4 e4⟩
  · rw [if_neg (by simpa using g2)]
    by_cases g3 : way = 3
    · rw [if_pos (decide_eq_true g3)]
      refine ⟨RgOk.of_le (by omega) (by omega) (by omega) (by omega), fun p hp => ?_⟩
      rw [rgD_ints]
      refine ⟨m, cA, g, _, p, _, rfl, L3.ex (Ex.new hp), .inl updM_same, by simp; omega, fun r ys μ4 hr0 hys L4 K4 hm4 => ?_⟩
      obtain ⟨row, rfl, hperm⟩ := perm_nI hys
      have hrk : Rk row k := by
        have h1 : ((List.range ((k : Int) - 0).toNat).map fun i : Nat => (0 : Int) + i) = iota k := by unfold iota; simp
        rw [h1] at hperm
        exact ⟨by rw [hperm.length_eq, (iota_rk k).len], fun x hx => (iota_rk k).bd x (hperm.mem_iff.mp hx), hperm.nodup_iff.mpr (iota_rk k).nd⟩
      refine ⟨_, .inl hm4, ?_⟩
      refine ⟨row, k, rfl, ⟨hrk, k3, k8⟩, fun c cs μ5 hc E5 hm5 hcs hlen => ?_⟩
      have L5 := L4.ex E5
      obtain ⟨c1, c2, c3⟩ := L4.fresh hc
      have K05 : Kp [m, g] μ0 μ5 := Kp.trans K03 (Kp.trans (Kp.new hp) (Kp.trans K4 E5.kp))
      have hlm : (List.map (fun i : Nat => (0 : Int) + i) (List.range ((k : Int) - 0).toNat)).length = k := by simp
      rw [nI_len, hlm] at L5
      simp only [bodySp, mSeq, mRet, mRetN, mExp, mOp, mUn, mVar, mC, mB, mCons, mNil, mSet, mPar, mPar3, mCall, mTest, mIfS, mIf, mAnd, mOr, mNot, mAndV, mOrV, mNotV, mChain, mNx, mPass, mAsg, gNm, gTp, gsCons, gsNil, mIt, mEnum, mR1, mR2, rk1, rk2, mTup, mLst, mYes, mAug, mSl, mPart, mNoPart, addD_i, addD_t, addD_r, addD_s, subD_i, mulD_i, mulD_r, divD_i, modD_i, powD_i, ltD_i, leD_i, gtD_i, geD_i, eqD_i, eqD_s, eqD_r, neD_i, neD_s, neD_r, isND, notND, negD_i, revD_t, revD_r, lenR_t, listR_t, tupR_t, mListRg, mTupRg, mRg1, mRg2, ipAdd, ipSub, List.map_cons, List.map_nil, List.length_cons, List.length_nil, List.replicate, List.cons_append, List.nil_append, List.append_nil, List.getElem?_cons_zero, List.getElem?_cons_succ, List.set_cons_zero, List.set_cons_succ, Option.some.injEq, exists_eq_left', List.cons.injEq, and_assoc, D.int.injEq, D.bl.injEq, D.str.injEq, D.tup.injEq, D.wtup.injEq, D.flst.injEq, D.ref.injEq, wipeD, Nat.reduceSub, Nat.reduceAdd, true_and, and_true, Bool.false_eq_true, if_false, if_true, exists_and_left, exists_and_right, exists_eq_left, reduceCtorEq, false_and, exists_false, or_false, false_or, exists_const, ite_true, ite_false, ↓reduceIte, Bool.not_true, Bool.not_false, Bool.true_eq_false, Nat.zero_eq, Nat.succ_eq_add_one, Nat.sub_self, Nat.sub_zero, Nat.reduceEqDiff]
      refine ⟨by omega, fun e he => ⟨_, .inl (by rw [updM_ne (mu_ne hm5 he)]; exact hm5), [], .inl updM_same, plains_tI cs, rfl, by have := deps_tI cs; omega, by decide, ?_⟩⟩
      rw [beqs_nil]
      have L6 := L5.ex (Ex.new (o := .lst []) he)
      have K06 : Kp [m, g] μ0 (updM μ5 e (.lst [])) := Kp.trans K05 (Kp.new he)
      have hm6 : (updM μ5 e (.lst [])) c = some (.lst (cs.map tI)) := by rw [updM_ne (mu_ne hm5 he)]; exact hm5
      generalize updM μ5 e (.lst []) = μ6 at L6 K06 hm6
      by_cases gc : cs = []
      · subst gc
        simp only [List.map_nil, List.isEmpty_nil, bodySp, mSeq, mRet, mRetN, mExp, mOp, mUn, mVar, mC, mB, mCons, mNil, mSet, mPar, mPar3, mCall, mTest, mIfS, mIf, mAnd, mOr, mNot, mAndV, mOrV, mNotV, mChain, mNx, mPass, mAsg, gNm, gTp, gsCons, gsNil, mIt, mEnum, mR1, mR2, rk1, rk2, mTup, mLst, mYes, mAug, mSl, mPart, mNoPart, addD_i, addD_t, addD_r, addD_s, subD_i, mulD_i, mulD_r, divD_i, modD_i, powD_i, ltD_i, leD_i, gtD_i, geD_i, eqD_i, eqD_s, eqD_r, neD_i, neD_s, neD_r, isND, notND, negD_i, revD_t, revD_r, lenR_t, listR_t, tupR_t, mListRg, mTupRg, mRg1, mRg2, ipAdd, ipSub, List.map_cons, List.map_nil, List.length_cons, List.length_nil, List.replicate, List.cons_append, List.nil_append, List.append_nil, List.getElem?_cons_zero, List.getElem?_cons_succ, List.set_cons_zero, List.set_cons_succ, Option.some.injEq, exists_eq_left', List.cons.injEq, and_assoc, D.int.injEq, D.bl.injEq, D.str.injEq, D.tup.injEq, D.wtup.injEq, D.flst.injEq, D.ref.injEq, wipeD, Nat.reduceSub, Nat.reduceAdd, true_and, and_true, Bool.false_eq_true, if_false, if_true, exists_and_left, exists_and_right, exists_eq_left, reduceCtorEq, false_and, exists_false, or_false, false_or, exists_const, ite_true, ite_false, ↓reduceIte, Bool.not_true, Bool.not_false, Bool.true_eq_false, Nat.zero_eq, Nat.succ_eq_add_one, Nat.sub_self, Nat.sub_zero, Nat.reduceEqDiff]
        exact ⟨by omega, h rs mv μ6 _ (by omega) L6 K06 hr hrl V1 e1⟩
      · have hpos : 0 < cs.length := List.length_pos_iff.mpr gc
        rw [show (cs.map tI).isEmpty = false by cases cs with
          | nil => exact absurd rfl gc
          | cons a t => rfl]
        simp only [bodySp, mSeq, mRet, mRetN, mExp, mOp, mUn, mVar, mC, mB, mCons, mNil, mSet, mPar, mPar3, mCall, mTest, mIfS, mIf, mAnd, mOr, mNot, mAndV, mOrV, mNotV, mChain, mNx, mPass, mAsg, gNm, gTp, gsCons, gsNil, mIt, mEnum, mR1, mR2, rk1, rk2, mTup, mLst, mYes, mAug, mSl, mPart, mNoPart, addD_i, addD_t, addD_r, addD_s, subD_i, mulD_i, mulD_r, divD_i, modD_i, powD_i, ltD_i, leD_i, gtD_i, geD_i, eqD_i, eqD_s, eqD_r, neD_i, neD_s, neD_r, isND, notND, negD_i, revD_t, revD_r, lenR_t, listR_t, tupR_t, mListRg, mTupRg, mRg1, mRg2, ipAdd, ipSub, List.map_cons, List.map_nil, List.length_cons, List.length_nil, List.replicate, List.cons_append, List.nil_append, List.append_nil, List.getElem?_cons_zero, List.getElem?_cons_succ, List.set_cons_zero, List.set_cons_succ, Option.some.injEq, exists_eq_left', List.cons.injEq, and_assoc, D.int.injEq, D.bl.injEq, D.str.injEq, D.tup.injEq, D.wtup.injEq, D.flst.injEq, D.ref.injEq, wipeD, Nat.reduceSub, Nat.reduceAdd, true_and, and_true, Bool.false_eq_true, if_false, if_true, exists_and_left, exists_and_right, exists_eq_left, reduceCtorEq, false_and, exists_false, or_false, false_or, exists_const, ite_true, ite_false, ↓reduceIte, Bool.not_true, Bool.not_false, Bool.true_eq_false, Nat.zero_eq, Nat.succ_eq_add_one, Nat.sub_self, Nat.sub_zero, Nat.reduceEqDiff]
        rw [lenR_r (.inl hm6), List.length_map]
        refine ⟨m, cA, g, _, cs.length, rfl, L6, ⟨by omega, by omega, by omega⟩, fun v μ7 v0 v1 L7 K7 => ?_⟩
        have hm7 := K7 c _ (not_mg c1 c3) hm6
        have hv : v.toNat < cs.length := by omega
        refine (ixD_l (.inl hm7) (d := tI cs[v.toNat]) (atI_nat v0 (by simp [hv]))).mpr ?_
        have hcv := hcs _ (List.getElem_mem hv)
        exact ⟨by omega, h rs _ μ7 _ (by omega) L7 (Kp.trans K06 K7) hr hrl hcv.1 hcv.2⟩
    · rw [if_neg (by simpa using g3)]
      exact ⟨by omega, h rs mv μ3 _ (by omega) L3 K03 hr hrl V1 e1⟩
end Sw

set_option Elab.async false
set_option linter.all false
set_option maxRecDepth 100000
set_option maxHeartbeats 2000000
namespace Sw
open PySem PySem.Spec L2 DL RM
/-! ### the law's own reading of a ring -/
def sp_law_likes_more : DSp := fun ds μ RX R => ∃ (rs : List (List Int)) (w a b : Int), ds = [.tup (rs.map tI), .int w, .int a, .int b] ∧ ((∀ l ∈ rs, Rk l rs.length) ∧ (0 ≤ w ∧ w < rs.length) ∧ (0 ≤ a ∧ a < rs.length) ∧ (0 ≤ b ∧ b < rs.length)) ∧ R (.bl (decide (Tk rs w a < Tk rs w b))) μ
def t_law_likes_more : DS :=
  (mRet (mOp ltD (mTIx (mOp ixD (mVar 0) (mVar 1)) (mCons (mVar 2) mNil)) (mTIx (mOp ixD (mVar 0) (mVar 1)) (mCons (mVar 3) mNil))))
abbrev N_law_likes_more : List Str := ["_law_lists", "_law_who", "_law_thing", "_law_far"]
abbrev P_law_likes_more : List Str := ["_law_lists", "_law_who", "_law_thing", "_law_far"]
theorem flat_nI : ∀ l : List Int, (nI l).all flat = true
  | [] => rfl
  | a :: t => by
    have ih := flat_nI t
    unfold nI at ih ⊢
    rw [List.map_cons, List.all_cons, ih]; rfl
theorem law_law_likes_more : ∀ ds μ RX R, sp_law_likes_more ds μ RX R → bodySp P_law_likes_more.length N_law_likes_more.length t_law_likes_more ds μ RX R := by
  rintro _ μ RX R ⟨rs, w, a, b, rfl, ⟨hr, hw, ha, hb⟩, h⟩
  refine ⟨rfl, ?_⟩
  simp only [t_law_likes_more, mTIx, bodySp, mSeq, mRet, mRetN, mExp, mOp, mUn, mVar, mC, mB, mCons, mNil, mSet, mPar, mPar3, mCall, mTest, mIfS, mIf, mAnd, mOr, mNot, mAndV, mOrV, mNotV, mChain, mNx, mPass, mAsg, gNm, gTp, gsCons, gsNil, mIt, mEnum, mR1, mR2, rk1, rk2, mTup, mLst, mYes, mAug, mSl, mPart, mNoPart, addD_i, addD_t, addD_r, addD_s, subD_i, mulD_i, mulD_r, divD_i, modD_i, powD_i, ltD_i, leD_i, gtD_i, geD_i, eqD_i, eqD_s, eqD_r, neD_i, neD_s, neD_r, isND, notND, negD_i, revD_t, revD_r, lenR_t, listR_t, tupR_t, mListRg, mTupRg, mRg1, mRg2, ipAdd, ipSub, List.map_cons, List.map_nil, List.length_cons, List.length_nil, List.replicate, List.cons_append, List.nil_append, List.append_nil, List.getElem?_cons_zero, List.getElem?_cons_succ, List.set_cons_zero, List.set_cons_succ, Option.some.injEq, exists_eq_left', List.cons.injEq, and_assoc, D.int.injEq, D.bl.injEq, D.str.injEq, D.tup.injEq, D.wtup.injEq, D.flst.injEq, D.ref.injEq, wipeD, Nat.reduceSub, Nat.reduceAdd, true_and, and_true, Bool.false_eq_true, if_false, if_true, exists_and_left, exists_and_right, exists_eq_left, reduceCtorEq, false_and, exists_false, or_false, false_or, exists_const, ite_true, ite_false, ↓reduceIte, Bool.not_true, Bool.not_false, Bool.true_eq_false, Nat.zero_eq, Nat.succ_eq_add_one, Nat.sub_self, Nat.sub_zero, Nat.reduceEqDiff]
  have hwl : w.toNat < rs.length := by omega
  have hat : atI (rs.map tI) w = some (tI rs[w.toNat]) := atI_nat hw.1 (by simp [hwl])
  have rk := hr _ (List.getElem_mem hwl)
  have ew : w % (rs.length : Int) = w := Int.emod_eq_of_lt hw.1 hw.2
  have tk : ∀ c : Int, 0 ≤ c → c < rs.length → Tk rs w c = (rs[w.toNat].idxOf c : Nat) := fun c h0 h1 => by
    unfold Tk
    rw [ew, Int.emod_eq_of_lt h0 h1, List.getD_eq_getElem?_getD, List.getElem?_eq_getElem hwl]; rfl
  rw [ixD_t hat]
  refine ⟨_, rfl, rfl, flat_nI _, _, firstIx_int (rk.mem ha.1 ha.2), ?_⟩
  rw [ixD_t hat]
  refine ⟨_, rfl, rfl, flat_nI _, _, firstIx_int (rk.mem hb.1 hb.2), ?_⟩
  rw [tk a ha.1 ha.2, tk b hb.1 hb.2] at h
  exact h
def sp_law_ring_ended : DSp := sp_end_of_copy
def t_law_ring_ended : DS :=
  (mRet (mOp addD (mVar 1) (mOp ixD (mVar 0) (mOp modD (mVar 1) (mB lenR (mCons (mVar 0) mNil))))))
abbrev N_law_ring_ended : List Str := ["_law_moves", "_law_u"]
abbrev P_law_ring_ended : List Str := ["_law_moves", "_law_u"]
theorem law_law_ring_ended : ∀ ds μ RX R, sp_law_ring_ended ds μ RX R → bodySp P_law_ring_ended.length N_law_ring_ended.length t_law_ring_ended ds μ RX R := by
  rintro _ μ RX R ⟨d, c, rfl, ⟨h0, h1⟩, h⟩
  refine ⟨rfl, ?_⟩
  simp only [t_law_ring_ended, bodySp, mSeq, mRet, mRetN, mExp, mOp, mUn, mVar, mC, mB, mCons, mNil, mSet, mPar, mPar3, mCall, mTest, mIfS, mIf, mAnd, mOr, mNot, mAndV, mOrV, mNotV, mChain, mNx, mPass, mAsg, gNm, gTp, gsCons, gsNil, mIt, mEnum, mR1, mR2, rk1, rk2, mTup, mLst, mYes, mAug, mSl, mPart, mNoPart, addD_i, addD_t, addD_r, addD_s, subD_i, mulD_i, mulD_r, divD_i, modD_i, powD_i, ltD_i, leD_i, gtD_i, geD_i, eqD_i, eqD_s, eqD_r, neD_i, neD_s, neD_r, isND, notND, negD_i, revD_t, revD_r, lenR_t, listR_t, tupR_t, mListRg, mTupRg, mRg1, mRg2, ipAdd, ipSub, List.map_cons, List.map_nil, List.length_cons, List.length_nil, List.replicate, List.cons_append, List.nil_append, List.append_nil, List.getElem?_cons_zero, List.getElem?_cons_succ, List.set_cons_zero, List.set_cons_succ, Option.some.injEq, exists_eq_left', List.cons.injEq, and_assoc, D.int.injEq, D.bl.injEq, D.str.injEq, D.tup.injEq, D.wtup.injEq, D.flst.injEq, D.ref.injEq, wipeD, Nat.reduceSub, Nat.reduceAdd, true_and, and_true, Bool.false_eq_true, if_false, if_true, exists_and_left, exists_and_right, exists_eq_left, reduceCtorEq, false_and, exists_false, or_false, false_or, exists_const, ite_true, ite_false, ↓reduceIte, Bool.not_true, Bool.not_false, Bool.true_eq_false, Nat.zero_eq, Nat.succ_eq_add_one, Nat.sub_self, Nat.sub_zero, Nat.reduceEqDiff]
  have hp : (0 : Int) < d.length := by omega
  have b0 := Int.emod_nonneg c (Int.ne_of_gt hp)
  have b1 := Int.emod_lt_of_pos c hp
  rw [show ((nI d).length : Int) = d.length by simp]
  refine ⟨hp, ?_⟩
  rw [ixD_t (atI_ints b0 b1), addD_i]
  exact h
def wideL (d : List Int) (c : Int) : List Int := ((List.range (2 * d.length + 1)).map fun i : Nat => c + 1 + i).filter fun o => decide (E d o < E d c)
theorem wide_len (d : List Int) (c : Int) : (wideL d c).length ≤ 2 * d.length + 1 := by
  unfold wideL
  exact Nat.le_trans (List.length_filter_le _ _) (by simp)
theorem Vd.wide {d : List Int} (V : Vd d) {x z : Int} : z ∈ wideL d x ↔ Inv (E d) x z := by
  unfold wideL
  rw [List.mem_filter, List.mem_map, decide_eq_true_iff]
  constructor
  · rintro ⟨⟨i, _, rfl⟩, h⟩
    exact ⟨by omega, h⟩
  · rintro ⟨h1, h2⟩
    refine ⟨⟨(z - (x + 1)).toNat, List.mem_range.mpr ?_, by omega⟩, h2⟩
    have a := V.near x
    have b := V.near z
    unfold E at h2
    omega
def pwk (d : List Int) (k : Nat) : List (Int × Int) := (List.range k).flatMap fun x : Nat => (wideL d x).map fun z => ((x : Int), z)
theorem pwk_succ (d : List Int) (k : Nat) : pwk d (k + 1) = pwk d k ++ (wideL d k).map fun z => ((k : Int), z) := by
  unfold pwk; rw [List.range_succ, List.flatMap_append]; simp
theorem pwk_len (d : List Int) : ∀ k, (pwk d k).length ≤ k * (2 * d.length + 1)
  | 0 => by simp [pwk]
  | k + 1 => by
    rw [pwk_succ, List.length_append, List.length_map, Nat.add_mul]
    have := pwk_len d k
    have := wide_len d k
    omega
theorem Vd.pw {d : List Int} (V : Vd d) {x z : Int} : (x, z) ∈ pwk d d.length ↔ (0 ≤ x ∧ x < d.length) ∧ Inv (E d) x z := by
  unfold pwk
  simp only [List.mem_flatMap, List.mem_range, List.mem_map, Prod.mk.injEq]
  constructor
  · rintro ⟨i, hi, z', hz, e1, rfl⟩
    subst e1
    exact ⟨by omega, V.wide.mp hz⟩
  · rintro ⟨⟨h0, h1⟩, h⟩
    exact ⟨x.toNat, by omega, z, by rw [Int.toNat_of_nonneg h0]; exact V.wide.mpr h, by omega, rfl⟩
def sp_law_ring_pairs : DSp := fun ds μ RX R => ∃ d, ds = [tI d] ∧ (0 < d.length ∧ d.length ≤ 100) ∧ ∀ p μ', μ p = none → Ex μ μ' → μ' p = some (.lst (prs (pwk d d.length))) → R (.ref p) μ'
def t_law_ring_pairs : DS :=
  (mSeq (mPar 1 2 (mCons (mB lenR (mCons (mVar 0) mNil)) (mCons (mLst mNil) mNil)))
  (mSeq (mFor (mR1 (mVar 1)) (gNm 3)
  (mSeq (mSet 4 (mCall sp_law_ring_ended [] (mCons (mVar 0) (mCons (mVar 3) mNil))))
  (mSet 2 (mOp addD (mVar 2) (mLc (mR2 (mOp addD (mVar 3) (mC (.int 1))) (mOp addD (mOp addD (mVar 3) (mOp mulD (mC (.int 2)) (mVar 1))) (mC (.int 2)))) (gNm 5) (mTest (mOp ltD (mCall sp_law_ring_ended [] (mCons (mVar 0) (mCons (mVar 5) mNil))) (mVar 4))) (mTup (mCons (mVar 3) (mCons (mVar 5) mNil))) [5])))))
  (mRet (mVar 2))))
abbrev N_law_ring_pairs : List Str := ["_law_moves", "_law_many", "_law_found", "_law_x", "_law_end", "_law_z"]
abbrev P_law_ring_pairs : List Str := ["_law_moves"]
theorem Ex.newp {μ0 μ : Mu} {p f : Addr} {o : DO} (h : Ex μ0 μ) (hp : μ p = none) : Ex μ0 (updM μ p o) := h.trans (Ex.new hp)
theorem law_law_ring_pairs : ∀ ds μ RX R, sp_law_ring_pairs ds μ RX R → bodySp P_law_ring_pairs.length N_law_ring_pairs.length t_law_ring_pairs ds μ RX R := by
  rintro _ μ RX R ⟨d, rfl, ⟨h0, h1⟩, h⟩
  refine ⟨rfl, ?_⟩
  simp only [t_law_ring_pairs, mFor, bodySp, mSeq, mRet, mRetN, mExp, mOp, mUn, mVar, mC, mB, mCons, mNil, mSet, mPar, mPar3, mCall, mTest, mIfS, mIf, mAnd, mOr, mNot, mAndV, mOrV, mNotV, mChain, mNx, mPass, mAsg, gNm, gTp, gsCons, gsNil, mIt, mEnum, mR1, mR2, rk1, rk2, mTup, mLst, mYes, mAug, mSl, mPart, mNoPart, addD_i, addD_t, addD_r, addD_s, subD_i, mulD_i, mulD_r, divD_i, modD_i, powD_i, ltD_i, leD_i, gtD_i, geD_i, eqD_i, eqD_s, eqD_r, neD_i, neD_s, neD_r, isND, notND, negD_i, revD_t, revD_r, lenR_t, listR_t, tupR_t, mListRg, mTupRg, mRg1, mRg2, ipAdd, ipSub, List.map_cons, List.map_nil, List.length_cons, List.length_nil, List.replicate, List.cons_append, List.nil_append, List.append_nil, List.getElem?_cons_zero, List.getElem?_cons_succ, List.set_cons_zero, List.set_cons_succ, Option.some.injEq, exists_eq_left', List.cons.injEq, and_assoc, D.int.injEq, D.bl.injEq, D.str.injEq, D.tup.injEq, D.wtup.injEq, D.flst.injEq, D.ref.injEq, wipeD, Nat.reduceSub, Nat.reduceAdd, true_and, and_true, Bool.false_eq_true, if_false, if_true, exists_and_left, exists_and_right, exists_eq_left, reduceCtorEq, false_and, exists_false, or_false, false_or, exists_const, ite_true, ite_false, ↓reduceIte, Bool.not_true, Bool.not_false, Bool.true_eq_false, Nat.zero_eq, Nat.succ_eq_add_one, Nat.sub_self, Nat.sub_zero, Nat.reduceEqDiff]
  refine ⟨by have := sizeLine_big; omega, fun p hp => ?_⟩
  rw [nI_len]
  refine ⟨by omega, by omega, ?_⟩
  refine forD_rng d.length (fun k δ μ' => ∃ q o3 o4 o5, δ = [some (tI d), some (.int d.length), some (.ref q), o3, o4, o5] ∧ μ q = none ∧ Ex μ μ' ∧ μ' q = some (.lst (prs (pwk d k)))) (fun _ => trivial) ?_ ?_ _ _ ⟨p, _, _, _, rfl, hp, Ex.new hp, updM_same⟩
  · rintro _ μ' ⟨q, o3, o4, o5, rfl, hq, hE, hm⟩
    simp only [bodySp, mSeq, mRet, mRetN, mExp, mOp, mUn, mVar, mC, mB, mCons, mNil, mSet, mPar, mPar3, mCall, mTest, mIfS, mIf, mAnd, mOr, mNot, mAndV, mOrV, mNotV, mChain, mNx, mPass, mAsg, gNm, gTp, gsCons, gsNil, mIt, mEnum, mR1, mR2, rk1, rk2, mTup, mLst, mYes, mAug, mSl, mPart, mNoPart, addD_i, addD_t, addD_r, addD_s, subD_i, mulD_i, mulD_r, divD_i, modD_i, powD_i, ltD_i, leD_i, gtD_i, geD_i, eqD_i, eqD_s, eqD_r, neD_i, neD_s, neD_r, isND, notND, negD_i, revD_t, revD_r, lenR_t, listR_t, tupR_t, mListRg, mTupRg, mRg1, mRg2, ipAdd, ipSub, List.map_cons, List.map_nil, List.length_cons, List.length_nil, List.replicate, List.cons_append, List.nil_append, List.append_nil, List.getElem?_cons_zero, List.getElem?_cons_succ, List.set_cons_zero, List.set_cons_succ, Option.some.injEq, exists_eq_left', List.cons.injEq, and_assoc, D.int.injEq, D.bl.injEq, D.str.injEq, D.tup.injEq, D.wtup.injEq, D.flst.injEq, D.ref.injEq, wipeD, Nat.reduceSub, Nat.reduceAdd, true_and, and_true, Bool.false_eq_true, if_false, if_true, exists_and_left, exists_and_right, exists_eq_left, reduceCtorEq, false_and, exists_false, or_false, false_or, exists_const, ite_true, ite_false, ↓reduceIte, Bool.not_true, Bool.not_false, Bool.true_eq_false, Nat.zero_eq, Nat.succ_eq_add_one, Nat.sub_self, Nat.sub_zero, Nat.reduceEqDiff]
    exact h q μ' hq hE hm
  · rintro k _ μ' N hk hN ⟨q, o3, o4, o5, rfl, hq, hE, hm⟩
    simp only [mLc, bodySp, mSeq, mRet, mRetN, mExp, mOp, mUn, mVar, mC, mB, mCons, mNil, mSet, mPar, mPar3, mCall, mTest, mIfS, mIf, mAnd, mOr, mNot, mAndV, mOrV, mNotV, mChain, mNx, mPass, mAsg, gNm, gTp, gsCons, gsNil, mIt, mEnum, mR1, mR2, rk1, rk2, mTup, mLst, mYes, mAug, mSl, mPart, mNoPart, addD_i, addD_t, addD_r, addD_s, subD_i, mulD_i, mulD_r, divD_i, modD_i, powD_i, ltD_i, leD_i, gtD_i, geD_i, eqD_i, eqD_s, eqD_r, neD_i, neD_s, neD_r, isND, notND, negD_i, revD_t, revD_r, lenR_t, listR_t, tupR_t, mListRg, mTupRg, mRg1, mRg2, ipAdd, ipSub, List.map_cons, List.map_nil, List.length_cons, List.length_nil, List.replicate, List.cons_append, List.nil_append, List.append_nil, List.getElem?_cons_zero, List.getElem?_cons_succ, List.set_cons_zero, List.set_cons_succ, Option.some.injEq, exists_eq_left', List.cons.injEq, and_assoc, D.int.injEq, D.bl.injEq, D.str.injEq, D.tup.injEq, D.wtup.injEq, D.flst.injEq, D.ref.injEq, wipeD, Nat.reduceSub, Nat.reduceAdd, true_and, and_true, Bool.false_eq_true, if_false, if_true, exists_and_left, exists_and_right, exists_eq_left, reduceCtorEq, false_and, exists_false, or_false, false_or, exists_const, ite_true, ite_false, ↓reduceIte, Bool.not_true, Bool.not_false, Bool.true_eq_false, Nat.zero_eq, Nat.succ_eq_add_one, Nat.sub_self, Nat.sub_zero, Nat.reduceEqDiff]
    refine ⟨d, k, rfl, ⟨h0, by omega⟩, ?_⟩
    simp only [bodySp, mSeq, mRet, mRetN, mExp, mOp, mUn, mVar, mC, mB, mCons, mNil, mSet, mPar, mPar3, mCall, mTest, mIfS, mIf, mAnd, mOr, mNot, mAndV, mOrV, mNotV, mChain, mNx, mPass, mAsg, gNm, gTp, gsCons, gsNil, mIt, mEnum, mR1, mR2, rk1, rk2, mTup, mLst, mYes, mAug, mSl, mPart, mNoPart, addD_i, addD_t, addD_r, addD_s, subD_i, mulD_i, mulD_r, divD_i, modD_i, powD_i, ltD_i, leD_i, gtD_i, geD_i, eqD_i, eqD_s, eqD_r, neD_i, neD_s, neD_r, isND, notND, negD_i, revD_t, revD_r, lenR_t, listR_t, tupR_t, mListRg, mTupRg, mRg1, mRg2, ipAdd, ipSub, List.map_cons, List.map_nil, List.length_cons, List.length_nil, List.replicate, List.cons_append, List.nil_append, List.append_nil, List.getElem?_cons_zero, List.getElem?_cons_succ, List.set_cons_zero, List.set_cons_succ, Option.some.injEq, exists_eq_left', List.cons.injEq, and_assoc, D.int.injEq, D.bl.injEq, D.str.injEq, D.tup.injEq, D.wtup.injEq, D.flst.injEq, D.ref.injEq, wipeD, Nat.reduceSub, Nat.reduceAdd, true_and, and_true, Bool.false_eq_true, if_false, if_true, exists_and_left, exists_and_right, exists_eq_left, reduceCtorEq, false_and, exists_false, or_false, false_or, exists_const, ite_true, ite_false, ↓reduceIte, Bool.not_true, Bool.not_false, Bool.true_eq_false, Nat.zero_eq, Nat.succ_eq_add_one, Nat.sub_self, Nat.sub_zero, Nat.reduceEqDiff]
    refine ⟨cmul_l (by omega), by omega, by omega, by omega, by omega, fun r hr => ?_⟩
    rw [rgD_ints, show ((k : Int) + 2 * (d.length : Int) + 2 - ((k : Int) + 1)).toNat = 2 * d.length + 1 by omega]
    refine lcD_int (fun o => decide (E d o < E d k)) (fun o => .tup [.int k, .int o]) (fun _ => trivial) (by simp; omega) (fun x hx acc N2 hN2 => ?_) ?_
    · simp only [bodySp, mSeq, mRet, mRetN, mExp, mOp, mUn, mVar, mC, mB, mCons, mNil, mSet, mPar, mPar3, mCall, mTest, mIfS, mIf, mAnd, mOr, mNot, mAndV, mOrV, mNotV, mChain, mNx, mPass, mAsg, gNm, gTp, gsCons, gsNil, mIt, mEnum, mR1, mR2, rk1, rk2, mTup, mLst, mYes, mAug, mSl, mPart, mNoPart, addD_i, addD_t, addD_r, addD_s, subD_i, mulD_i, mulD_r, divD_i, modD_i, powD_i, ltD_i, leD_i, gtD_i, geD_i, eqD_i, eqD_s, eqD_r, neD_i, neD_s, neD_r, isND, notND, negD_i, revD_t, revD_r, lenR_t, listR_t, tupR_t, mListRg, mTupRg, mRg1, mRg2, ipAdd, ipSub, List.map_cons, List.map_nil, List.length_cons, List.length_nil, List.replicate, List.cons_append, List.nil_append, List.append_nil, List.getElem?_cons_zero, List.getElem?_cons_succ, List.set_cons_zero, List.set_cons_succ, Option.some.injEq, exists_eq_left', List.cons.injEq, and_assoc, D.int.injEq, D.bl.injEq, D.str.injEq, D.tup.injEq, D.wtup.injEq, D.flst.injEq, D.ref.injEq, wipeD, Nat.reduceSub, Nat.reduceAdd, true_and, and_true, Bool.false_eq_true, if_false, if_true, exists_and_left, exists_and_right, exists_eq_left, reduceCtorEq, false_and, exists_false, or_false, false_or, exists_const, ite_true, ite_false, ↓reduceIte, Bool.not_true, Bool.not_false, Bool.true_eq_false, Nat.zero_eq, Nat.succ_eq_add_one, Nat.sub_self, Nat.sub_zero, Nat.reduceEqDiff]
      refine ⟨d, x, rfl, ⟨h0, by omega⟩, ?_⟩
      simp only [bodySp, mSeq, mRet, mRetN, mExp, mOp, mUn, mVar, mC, mB, mCons, mNil, mSet, mPar, mPar3, mCall, mTest, mIfS, mIf, mAnd, mOr, mNot, mAndV, mOrV, mNotV, mChain, mNx, mPass, mAsg, gNm, gTp, gsCons, gsNil, mIt, mEnum, mR1, mR2, rk1, rk2, mTup, mLst, mYes, mAug, mSl, mPart, mNoPart, addD_i, addD_t, addD_r, addD_s, subD_i, mulD_i, mulD_r, divD_i, modD_i, powD_i, ltD_i, leD_i, gtD_i, geD_i, eqD_i, eqD_s, eqD_r, neD_i, neD_s, neD_r, isND, notND, negD_i, revD_t, revD_r, lenR_t, listR_t, tupR_t, mListRg, mTupRg, mRg1, mRg2, ipAdd, ipSub, List.map_cons, List.map_nil, List.length_cons, List.length_nil, List.replicate, List.cons_append, List.nil_append, List.append_nil, List.getElem?_cons_zero, List.getElem?_cons_succ, List.set_cons_zero, List.set_cons_succ, Option.some.injEq, exists_eq_left', List.cons.injEq, and_assoc, D.int.injEq, D.bl.injEq, D.str.injEq, D.tup.injEq, D.wtup.injEq, D.flst.injEq, D.ref.injEq, wipeD, Nat.reduceSub, Nat.reduceAdd, true_and, and_true, Bool.false_eq_true, if_false, if_true, exists_and_left, exists_and_right, exists_eq_left, reduceCtorEq, false_and, exists_false, or_false, false_or, exists_const, ite_true, ite_false, ↓reduceIte, Bool.not_true, Bool.not_false, Bool.true_eq_false, Nat.zero_eq, Nat.succ_eq_add_one, Nat.sub_self, Nat.sub_zero, Nat.reduceEqDiff]
      by_cases g : E d x < E d k
      · simpa [g, sizeLine_eq] using hN2
      · simpa [g] using hN2
    · have hqr := mu_ne hm hr
      refine ⟨_, by rw [updM_ne hqr]; exact hm, _, updM_same, ?_, fun s hs => ?_⟩
      · have := pwk_len d k
        have := sizeLine_big
        have h2 : k * (2 * d.length + 1) ≤ 100 * 201 := Nat.mul_le_mul (by omega) (by omega)
        have := wide_len d k
        unfold wideL at this
        simp only [prs, List.length_map]
        omega
      · refine hN _ _ ⟨s, _, _, _, rfl, (hE.trans (Ex.new hr)).none hs, (hE.trans (Ex.new hr)).trans (Ex.new hs), ?_⟩
        rw [updM_same, pwk_succ]
        unfold wideL
        simp [prs, Function.comp_def, pairD]
end Sw

set_option Elab.async false
set_option linter.all false
set_option maxRecDepth 100000
set_option maxHeartbeats 2000000
namespace Sw
open PySem PySem.Spec L2 DL RM
def trk (d : List Int) (k : Nat) : List (List Int) := ((pwk d d.length).take k).flatMap fun p => (wideL d p.2).map fun z => [p.1, p.2, z]
theorem trk_succ {d : List Int} {k : Nat} {p : Int × Int} (h : (pwk d d.length)[k]? = some p) : trk d (k + 1) = trk d k ++ (wideL d p.2).map fun z => [p.1, p.2, z] := by
  unfold trk; rw [List.take_add_one, h, List.flatMap_append]; simp
theorem trk_len (d : List Int) : ∀ k, (trk d k).length ≤ k * (2 * d.length + 1)
  | 0 => by simp [trk]
  | k + 1 => by
    rw [Nat.add_mul]
    have ih := trk_len d k
    cases h : (pwk d d.length)[k]? with
    | none =>
      have : trk d (k + 1) = trk d k := by unfold trk; rw [List.take_add_one, h]; simp
      rw [this]; omega
    | some p =>
      rw [trk_succ h, List.length_append, List.length_map]
      have := wide_len d p.2
      omega
theorem pwk_bd {d : List Int} {p : Int × Int} (h : p ∈ pwk d d.length) : 0 ≤ p.1 ∧ p.1 < d.length ∧ 0 < p.2 ∧ p.2 ≤ p.1 + 2 * d.length + 1 := by
  unfold pwk at h
  simp only [List.mem_flatMap, List.mem_range, List.mem_map] at h
  obtain ⟨i, hi, z, hz, rfl⟩ := h
  unfold wideL at hz
  obtain ⟨j, hj, rfl⟩ := List.mem_map.mp (List.mem_filter.mp hz).1
  have := List.mem_range.mp hj
  simp only
  omega
def trL (d : List Int) : List (List Int) := trk d (pwk d d.length).length
theorem Vd.tr {d : List Int} (V : Vd d) {l : List Int} : l ∈ trL d ↔ ∃ x y z, l = [x, y, z] ∧ (0 ≤ x ∧ x < d.length) ∧ Inv (E d) x y ∧ Inv (E d) y z := by
  unfold trL trk
  rw [List.take_length]
  simp only [List.mem_flatMap, List.mem_map]
  constructor
  · rintro ⟨⟨x, y⟩, h, z, hz, rfl⟩
    have := V.pw.mp h
    exact ⟨x, y, z, rfl, this.1, this.2, V.wide.mp hz⟩
  · rintro ⟨x, y, z, rfl, hx, h1, h2⟩
    exact ⟨(x, y), V.pw.mpr ⟨hx, h1⟩, z, V.wide.mpr h2, rfl⟩
def sp_law_ring_triples : DSp := fun ds μ RX R => ∃ d, ds = [tI d] ∧ (0 < d.length ∧ d.length ≤ 20) ∧ ∀ p μ', μ p = none → Ex μ μ' → μ' p = some (.lst ((trL d).map tI)) → R (.ref p) μ'
def t_law_ring_triples : DS :=
  (mSeq (mPar 1 2 (mCons (mB lenR (mCons (mVar 0) mNil)) (mCons (mLst mNil) mNil)))
  (mSeq (mFor (mIt (mCall sp_law_ring_pairs [] (mCons (mVar 0) mNil))) (gTp 2 (gsCons (gNm 3) (gsCons (gNm 4) gsNil)))
  (mSeq (mSet 5 (mCall sp_law_ring_ended [] (mCons (mVar 0) (mCons (mVar 4) mNil))))
  (mSet 2 (mOp addD (mVar 2) (mLc (mR2 (mOp addD (mVar 4) (mC (.int 1))) (mOp addD (mOp addD (mVar 4) (mOp mulD (mC (.int 2)) (mVar 1))) (mC (.int 2)))) (gNm 6) (mTest (mOp ltD (mCall sp_law_ring_ended [] (mCons (mVar 0) (mCons (mVar 6) mNil))) (mVar 5))) (mTup (mCons (mVar 3) (mCons (mVar 4) (mCons (mVar 6) mNil)))) [6])))))
  (mRet (mVar 2))))
abbrev N_law_ring_triples : List Str := ["_law_moves", "_law_many", "_law_found", "_law_x", "_law_y", "_law_end", "_law_z"]
abbrev P_law_ring_triples : List Str := ["_law_moves"]
theorem law_law_ring_triples : ∀ ds μ RX R, sp_law_ring_triples ds μ RX R → bodySp P_law_ring_triples.length N_law_ring_triples.length t_law_ring_triples ds μ RX R := by
  rintro _ μ RX R ⟨d, rfl, ⟨h0, h1⟩, h⟩
  refine ⟨rfl, ?_⟩
  simp only [t_law_ring_triples, mFor, bodySp, mSeq, mRet, mRetN, mExp, mOp, mUn, mVar, mC, mB, mCons, mNil, mSet, mPar, mPar3, mCall, mTest, mIfS, mIf, mAnd, mOr, mNot, mAndV, mOrV, mNotV, mChain, mNx, mPass, mAsg, gNm, gTp, gsCons, gsNil, mIt, mEnum, mR1, mR2, rk1, rk2, mTup, mLst, mYes, mAug, mSl, mPart, mNoPart, addD_i, addD_t, addD_r, addD_s, subD_i, mulD_i, mulD_r, divD_i, modD_i, powD_i, ltD_i, leD_i, gtD_i, geD_i, eqD_i, eqD_s, eqD_r, neD_i, neD_s, neD_r, isND, notND, negD_i, revD_t, revD_r, lenR_t, listR_t, tupR_t, mListRg, mTupRg, mRg1, mRg2, ipAdd, ipSub, List.map_cons, List.map_nil, List.length_cons, List.length_nil, List.replicate, List.cons_append, List.nil_append, List.append_nil, List.getElem?_cons_zero, List.getElem?_cons_succ, List.set_cons_zero, List.set_cons_succ, Option.some.injEq, exists_eq_left', List.cons.injEq, and_assoc, D.int.injEq, D.bl.injEq, D.str.injEq, D.tup.injEq, D.wtup.injEq, D.flst.injEq, D.ref.injEq, wipeD, Nat.reduceSub, Nat.reduceAdd, true_and, and_true, Bool.false_eq_true, if_false, if_true, exists_and_left, exists_and_right, exists_eq_left, reduceCtorEq, false_and, exists_false, or_false, false_or, exists_const, ite_true, ite_false, ↓reduceIte, Bool.not_true, Bool.not_false, Bool.true_eq_false, Nat.zero_eq, Nat.succ_eq_add_one, Nat.sub_self, Nat.sub_zero, Nat.reduceEqDiff]
  refine ⟨by have := sizeLine_big; omega, fun p hp => ⟨d, rfl, ⟨h0, by omega⟩, fun c μ1 hc hE1 hm1 => .inr ⟨c, rfl, _, .inl hm1, ?_⟩⟩⟩
  rw [nI_len]
  have hE1' : Ex μ μ1 := (Ex.new hp).trans hE1
  have hp1 : μ1 p = some (.lst []) := hE1.at updM_same
  refine forD_ix _ (fun k δ μ' => ∃ q o3 o4 o5 o6, δ = [some (tI d), some (.int d.length), some (.ref q), o3, o4, o5, o6] ∧ μ q = none ∧ Ex μ1 μ' ∧ μ' q = some (.lst ((trk d k).map tI))) (fun k δ μ' ⟨_, _, _, _, _, _, _, hE, _⟩ => .inl (hE.at hm1)) ?_ ?_ _ _ ⟨p, _, _, _, _, rfl, hp, Ex.refl, by rw [hp1]; simp [trk]⟩
  · rintro _ μ' ⟨q, o3, o4, o5, o6, rfl, hq, hE, hm⟩
    simp only [bodySp, mSeq, mRet, mRetN, mExp, mOp, mUn, mVar, mC, mB, mCons, mNil, mSet, mPar, mPar3, mCall, mTest, mIfS, mIf, mAnd, mOr, mNot, mAndV, mOrV, mNotV, mChain, mNx, mPass, mAsg, gNm, gTp, gsCons, gsNil, mIt, mEnum, mR1, mR2, rk1, rk2, mTup, mLst, mYes, mAug, mSl, mPart, mNoPart, addD_i, addD_t, addD_r, addD_s, subD_i, mulD_i, mulD_r, divD_i, modD_i, powD_i, ltD_i, leD_i, gtD_i, geD_i, eqD_i, eqD_s, eqD_r, neD_i, neD_s, neD_r, isND, notND, negD_i, revD_t, revD_r, lenR_t, listR_t, tupR_t, mListRg, mTupRg, mRg1, mRg2, ipAdd, ipSub, List.map_cons, List.map_nil, List.length_cons, List.length_nil, List.replicate, List.cons_append, List.nil_append, List.append_nil, List.getElem?_cons_zero, List.getElem?_cons_succ, List.set_cons_zero, List.set_cons_succ, Option.some.injEq, exists_eq_left', List.cons.injEq, and_assoc, D.int.injEq, D.bl.injEq, D.str.injEq, D.tup.injEq, D.wtup.injEq, D.flst.injEq, D.ref.injEq, wipeD, Nat.reduceSub, Nat.reduceAdd, true_and, and_true, Bool.false_eq_true, if_false, if_true, exists_and_left, exists_and_right, exists_eq_left, reduceCtorEq, false_and, exists_false, or_false, false_or, exists_const, ite_true, ite_false, ↓reduceIte, Bool.not_true, Bool.not_false, Bool.true_eq_false, Nat.zero_eq, Nat.succ_eq_add_one, Nat.sub_self, Nat.sub_zero, Nat.reduceEqDiff]
    refine h q μ' hq (hE1'.trans hE) ?_
    rw [hm]; unfold trL prs; rw [List.length_map]
  · rintro k x _ μ' N hx hN ⟨q, o3, o4, o5, o6, rfl, hq, hE, hm⟩
    unfold prs at hx
    rw [List.getElem?_map] at hx
    cases hpk : (pwk d d.length)[k]? with
    | none => rw [hpk] at hx; cases hx
    | some pr =>
      have hmem := List.mem_of_getElem? hpk
      have hbd := pwk_bd hmem
      rw [hpk] at hx
      obtain ⟨px, py⟩ := pr
      cases hx
      simp only [mLc, bodySp, mSeq, mRet, mRetN, mExp, mOp, mUn, mVar, mC, mB, mCons, mNil, mSet, mPar, mPar3, mCall, mTest, mIfS, mIf, mAnd, mOr, mNot, mAndV, mOrV, mNotV, mChain, mNx, mPass, mAsg, gNm, gTp, gsCons, gsNil, mIt, mEnum, mR1, mR2, rk1, rk2, mTup, mLst, mYes, mAug, mSl, mPart, mNoPart, addD_i, addD_t, addD_r, addD_s, subD_i, mulD_i, mulD_r, divD_i, modD_i, powD_i, ltD_i, leD_i, gtD_i, geD_i, eqD_i, eqD_s, eqD_r, neD_i, neD_s, neD_r, isND, notND, negD_i, revD_t, revD_r, lenR_t, listR_t, tupR_t, mListRg, mTupRg, mRg1, mRg2, ipAdd, ipSub, List.map_cons, List.map_nil, List.length_cons, List.length_nil, List.replicate, List.cons_append, List.nil_append, List.append_nil, List.getElem?_cons_zero, List.getElem?_cons_succ, List.set_cons_zero, List.set_cons_succ, Option.some.injEq, exists_eq_left', List.cons.injEq, and_assoc, D.int.injEq, D.bl.injEq, D.str.injEq, D.tup.injEq, D.wtup.injEq, D.flst.injEq, D.ref.injEq, wipeD, Nat.reduceSub, Nat.reduceAdd, true_and, and_true, Bool.false_eq_true, if_false, if_true, exists_and_left, exists_and_right, exists_eq_left, reduceCtorEq, false_and, exists_false, or_false, false_or, exists_const, ite_true, ite_false, ↓reduceIte, Bool.not_true, Bool.not_false, Bool.true_eq_false, Nat.zero_eq, Nat.succ_eq_add_one, Nat.sub_self, Nat.sub_zero, Nat.reduceEqDiff, pairD] at hbd ⊢
      refine ⟨d, py, rfl, ⟨h0, by omega⟩, ?_⟩
      simp only [bodySp, mSeq, mRet, mRetN, mExp, mOp, mUn, mVar, mC, mB, mCons, mNil, mSet, mPar, mPar3, mCall, mTest, mIfS, mIf, mAnd, mOr, mNot, mAndV, mOrV, mNotV, mChain, mNx, mPass, mAsg, gNm, gTp, gsCons, gsNil, mIt, mEnum, mR1, mR2, rk1, rk2, mTup, mLst, mYes, mAug, mSl, mPart, mNoPart, addD_i, addD_t, addD_r, addD_s, subD_i, mulD_i, mulD_r, divD_i, modD_i, powD_i, ltD_i, leD_i, gtD_i, geD_i, eqD_i, eqD_s, eqD_r, neD_i, neD_s, neD_r, isND, notND, negD_i, revD_t, revD_r, lenR_t, listR_t, tupR_t, mListRg, mTupRg, mRg1, mRg2, ipAdd, ipSub, List.map_cons, List.map_nil, List.length_cons, List.length_nil, List.replicate, List.cons_append, List.nil_append, List.append_nil, List.getElem?_cons_zero, List.getElem?_cons_succ, List.set_cons_zero, List.set_cons_succ, Option.some.injEq, exists_eq_left', List.cons.injEq, and_assoc, D.int.injEq, D.bl.injEq, D.str.injEq, D.tup.injEq, D.wtup.injEq, D.flst.injEq, D.ref.injEq, wipeD, Nat.reduceSub, Nat.reduceAdd, true_and, and_true, Bool.false_eq_true, if_false, if_true, exists_and_left, exists_and_right, exists_eq_left, reduceCtorEq, false_and, exists_false, or_false, false_or, exists_const, ite_true, ite_false, ↓reduceIte, Bool.not_true, Bool.not_false, Bool.true_eq_false, Nat.zero_eq, Nat.succ_eq_add_one, Nat.sub_self, Nat.sub_zero, Nat.reduceEqDiff]
      refine ⟨cmul_l (by omega), by omega, by omega, by omega, by omega, fun r hr => ?_⟩
      rw [rgD_ints, show (py + 2 * (d.length : Int) + 2 - (py + 1)).toNat = 2 * d.length + 1 by omega]
      refine lcD_int (fun o => decide (E d o < E d py)) (fun o => .tup [.int px, .int py, .int o]) (fun _ => trivial) (by simp; omega) (fun x hx acc N2 hN2 => ?_) ?_
      · simp only [bodySp, mSeq, mRet, mRetN, mExp, mOp, mUn, mVar, mC, mB, mCons, mNil, mSet, mPar, mPar3, mCall, mTest, mIfS, mIf, mAnd, mOr, mNot, mAndV, mOrV, mNotV, mChain, mNx, mPass, mAsg, gNm, gTp, gsCons, gsNil, mIt, mEnum, mR1, mR2, rk1, rk2, mTup, mLst, mYes, mAug, mSl, mPart, mNoPart, addD_i, addD_t, addD_r, addD_s, subD_i, mulD_i, mulD_r, divD_i, modD_i, powD_i, ltD_i, leD_i, gtD_i, geD_i, eqD_i, eqD_s, eqD_r, neD_i, neD_s, neD_r, isND, notND, negD_i, revD_t, revD_r, lenR_t, listR_t, tupR_t, mListRg, mTupRg, mRg1, mRg2, ipAdd, ipSub, List.map_cons, List.map_nil, List.length_cons, List.length_nil, List.replicate, List.cons_append, List.nil_append, List.append_nil, List.getElem?_cons_zero, List.getElem?_cons_succ, List.set_cons_zero, List.set_cons_succ, Option.some.injEq, exists_eq_left', List.cons.injEq, and_assoc, D.int.injEq, D.bl.injEq, D.str.injEq, D.tup.injEq, D.wtup.injEq, D.flst.injEq, D.ref.injEq, wipeD, Nat.reduceSub, Nat.reduceAdd, true_and, and_true, Bool.false_eq_true, if_false, if_true, exists_and_left, exists_and_right, exists_eq_left, reduceCtorEq, false_and, exists_false, or_false, false_or, exists_const, ite_true, ite_false, ↓reduceIte, Bool.not_true, Bool.not_false, Bool.true_eq_false, Nat.zero_eq, Nat.succ_eq_add_one, Nat.sub_self, Nat.sub_zero, Nat.reduceEqDiff]
        refine ⟨d, x, rfl, ⟨h0, by omega⟩, ?_⟩
        simp only [bodySp, mSeq, mRet, mRetN, mExp, mOp, mUn, mVar, mC, mB, mCons, mNil, mSet, mPar, mPar3, mCall, mTest, mIfS, mIf, mAnd, mOr, mNot, mAndV, mOrV, mNotV, mChain, mNx, mPass, mAsg, gNm, gTp, gsCons, gsNil, mIt, mEnum, mR1, mR2, rk1, rk2, mTup, mLst, mYes, mAug, mSl, mPart, mNoPart, addD_i, addD_t, addD_r, addD_s, subD_i, mulD_i, mulD_r, divD_i, modD_i, powD_i, ltD_i, leD_i, gtD_i, geD_i, eqD_i, eqD_s, eqD_r, neD_i, neD_s, neD_r, isND, notND, negD_i, revD_t, revD_r, lenR_t, listR_t, tupR_t, mListRg, mTupRg, mRg1, mRg2, ipAdd, ipSub, List.map_cons, List.map_nil, List.length_cons, List.length_nil, List.replicate, List.cons_append, List.nil_append, List.append_nil, List.getElem?_cons_zero, List.getElem?_cons_succ, List.set_cons_zero, List.set_cons_succ, Option.some.injEq, exists_eq_left', List.cons.injEq, and_assoc, D.int.injEq, D.bl.injEq, D.str.injEq, D.tup.injEq, D.wtup.injEq, D.flst.injEq, D.ref.injEq, wipeD, Nat.reduceSub, Nat.reduceAdd, true_and, and_true, Bool.false_eq_true, if_false, if_true, exists_and_left, exists_and_right, exists_eq_left, reduceCtorEq, false_and, exists_false, or_false, false_or, exists_const, ite_true, ite_false, ↓reduceIte, Bool.not_true, Bool.not_false, Bool.true_eq_false, Nat.zero_eq, Nat.succ_eq_add_one, Nat.sub_self, Nat.sub_zero, Nat.reduceEqDiff]
        by_cases g : E d x < E d py
        · simpa [g, sizeLine_eq] using hN2
        · simpa [g] using hN2
      · have hqr := mu_ne hm hr
        refine ⟨_, by rw [updM_ne hqr]; exact hm, _, updM_same, ?_, fun s hs => ?_⟩
        · have h3 := trk_len d k
          have := sizeLine_big
          have hk : k < (pwk d d.length).length := by
            rcases Nat.lt_or_ge k (pwk d d.length).length with z | z
            · exact z
            · rw [List.getElem?_eq_none z] at hpk; cases hpk
          have h4 := pwk_len d d.length
          have h5 : d.length * (2 * d.length + 1) ≤ 20 * 41 := Nat.mul_le_mul (by omega) (by omega)
          have h2 : k * (2 * d.length + 1) ≤ 820 * 41 := Nat.mul_le_mul (by omega) (by omega)
          have := wide_len d py
          unfold wideL at this
          simp only [List.length_map]
          omega
        · refine hN _ _ ⟨s, _, _, _, _, rfl, ?_, (hE.trans (Ex.new hr)).trans (Ex.new hs), ?_⟩
          · exact ((hE1'.trans hE).trans (Ex.new hr)).none hs
          · rw [updM_same, trk_succ hpk]
            unfold wideL
            simp [Function.comp_def]
def sp_law_ring_place : DSp := fun ds μ RX R => ∃ d x z, ds = [tI d, .int x, .int z] ∧ (0 < d.length ∧ d.length ≤ 20) ∧ (-1000 < x ∧ x < 1000 ∧ -1000 < z ∧ z < 1000) ∧ ∀ μ', Ex μ μ' → R (.int (plc (E d) x z % d.length)) μ'
def t_law_ring_place : DS :=
  (mRet (mOp modD (mOp addD (mVar 1) (mB lenR (mCons (mLc (mR2 (mOp addD (mVar 1) (mC (.int 1))) (mVar 2)) (gNm 3) (mTest (mOp ltD (mCall sp_law_ring_ended [] (mCons (mVar 0) (mCons (mVar 3) mNil))) (mVar 3))) (mVar 3) [3]) mNil))) (mB lenR (mCons (mVar 0) mNil))))
abbrev N_law_ring_place : List Str := ["_law_moves", "_law_x", "_law_z", "_law_y"]
abbrev P_law_ring_place : List Str := ["_law_moves", "_law_x", "_law_z"]
theorem law_law_ring_place : ∀ ds μ RX R, sp_law_ring_place ds μ RX R → bodySp P_law_ring_place.length N_law_ring_place.length t_law_ring_place ds μ RX R := by
  rintro _ μ RX R ⟨d, x, z, rfl, ⟨h0, h1⟩, hb, h⟩
  refine ⟨rfl, ?_⟩
  simp only [t_law_ring_place, mLc, bodySp, mSeq, mRet, mRetN, mExp, mOp, mUn, mVar, mC, mB, mCons, mNil, mSet, mPar, mPar3, mCall, mTest, mIfS, mIf, mAnd, mOr, mNot, mAndV, mOrV, mNotV, mChain, mNx, mPass, mAsg, gNm, gTp, gsCons, gsNil, mIt, mEnum, mR1, mR2, rk1, rk2, mTup, mLst, mYes, mAug, mSl, mPart, mNoPart, addD_i, addD_t, addD_r, addD_s, subD_i, mulD_i, mulD_r, divD_i, modD_i, powD_i, ltD_i, leD_i, gtD_i, geD_i, eqD_i, eqD_s, eqD_r, neD_i, neD_s, neD_r, isND, notND, negD_i, revD_t, revD_r, lenR_t, listR_t, tupR_t, mListRg, mTupRg, mRg1, mRg2, ipAdd, ipSub, List.map_cons, List.map_nil, List.length_cons, List.length_nil, List.replicate, List.cons_append, List.nil_append, List.append_nil, List.getElem?_cons_zero, List.getElem?_cons_succ, List.set_cons_zero, List.set_cons_succ, Option.some.injEq, exists_eq_left', List.cons.injEq, and_assoc, D.int.injEq, D.bl.injEq, D.str.injEq, D.tup.injEq, D.wtup.injEq, D.flst.injEq, D.ref.injEq, wipeD, Nat.reduceSub, Nat.reduceAdd, true_and, and_true, Bool.false_eq_true, if_false, if_true, exists_and_left, exists_and_right, exists_eq_left, reduceCtorEq, false_and, exists_false, or_false, false_or, exists_const, ite_true, ite_false, ↓reduceIte, Bool.not_true, Bool.not_false, Bool.true_eq_false, Nat.zero_eq, Nat.succ_eq_add_one, Nat.sub_self, Nat.sub_zero, Nat.reduceEqDiff]
  refine ⟨by omega, by omega, by omega, by omega, fun p hp => ?_⟩
  rw [rgD_ints]
  refine lcD_int (fun o => decide (E d o < o)) (fun o => .int o) (fun _ => trivial) (by simp; omega) (fun y hy acc N hN => ?_) ?_
  · simp only [bodySp, mSeq, mRet, mRetN, mExp, mOp, mUn, mVar, mC, mB, mCons, mNil, mSet, mPar, mPar3, mCall, mTest, mIfS, mIf, mAnd, mOr, mNot, mAndV, mOrV, mNotV, mChain, mNx, mPass, mAsg, gNm, gTp, gsCons, gsNil, mIt, mEnum, mR1, mR2, rk1, rk2, mTup, mLst, mYes, mAug, mSl, mPart, mNoPart, addD_i, addD_t, addD_r, addD_s, subD_i, mulD_i, mulD_r, divD_i, modD_i, powD_i, ltD_i, leD_i, gtD_i, geD_i, eqD_i, eqD_s, eqD_r, neD_i, neD_s, neD_r, isND, notND, negD_i, revD_t, revD_r, lenR_t, listR_t, tupR_t, mListRg, mTupRg, mRg1, mRg2, ipAdd, ipSub, List.map_cons, List.map_nil, List.length_cons, List.length_nil, List.replicate, List.cons_append, List.nil_append, List.append_nil, List.getElem?_cons_zero, List.getElem?_cons_succ, List.set_cons_zero, List.set_cons_succ, Option.some.injEq, exists_eq_left', List.cons.injEq, and_assoc, D.int.injEq, D.bl.injEq, D.str.injEq, D.tup.injEq, D.wtup.injEq, D.flst.injEq, D.ref.injEq, wipeD, Nat.reduceSub, Nat.reduceAdd, true_and, and_true, Bool.false_eq_true, if_false, if_true, exists_and_left, exists_and_right, exists_eq_left, reduceCtorEq, false_and, exists_false, or_false, false_or, exists_const, ite_true, ite_false, ↓reduceIte, Bool.not_true, Bool.not_false, Bool.true_eq_false, Nat.zero_eq, Nat.succ_eq_add_one, Nat.sub_self, Nat.sub_zero, Nat.reduceEqDiff]
    refine ⟨d, y, rfl, ⟨h0, by omega⟩, ?_⟩
    simp only [bodySp, mSeq, mRet, mRetN, mExp, mOp, mUn, mVar, mC, mB, mCons, mNil, mSet, mPar, mPar3, mCall, mTest, mIfS, mIf, mAnd, mOr, mNot, mAndV, mOrV, mNotV, mChain, mNx, mPass, mAsg, gNm, gTp, gsCons, gsNil, mIt, mEnum, mR1, mR2, rk1, rk2, mTup, mLst, mYes, mAug, mSl, mPart, mNoPart, addD_i, addD_t, addD_r, addD_s, subD_i, mulD_i, mulD_r, divD_i, modD_i, powD_i, ltD_i, leD_i, gtD_i, geD_i, eqD_i, eqD_s, eqD_r, neD_i, neD_s, neD_r, isND, notND, negD_i, revD_t, revD_r, lenR_t, listR_t, tupR_t, mListRg, mTupRg, mRg1, mRg2, ipAdd, ipSub, List.map_cons, List.map_nil, List.length_cons, List.length_nil, List.replicate, List.cons_append, List.nil_append, List.append_nil, List.getElem?_cons_zero, List.getElem?_cons_succ, List.set_cons_zero, List.set_cons_succ, Option.some.injEq, exists_eq_left', List.cons.injEq, and_assoc, D.int.injEq, D.bl.injEq, D.str.injEq, D.tup.injEq, D.wtup.injEq, D.flst.injEq, D.ref.injEq, wipeD, Nat.reduceSub, Nat.reduceAdd, true_and, and_true, Bool.false_eq_true, if_false, if_true, exists_and_left, exists_and_right, exists_eq_left, reduceCtorEq, false_and, exists_false, or_false, false_or, exists_const, ite_true, ite_false, ↓reduceIte, Bool.not_true, Bool.not_false, Bool.true_eq_false, Nat.zero_eq, Nat.succ_eq_add_one, Nat.sub_self, Nat.sub_zero, Nat.reduceEqDiff]
    by_cases g : E d y < y
    · simpa [g] using hN
    · simpa [g] using hN
  · rw [lenR_r (.inl updM_same)]
    simp only [bodySp, mSeq, mRet, mRetN, mExp, mOp, mUn, mVar, mC, mB, mCons, mNil, mSet, mPar, mPar3, mCall, mTest, mIfS, mIf, mAnd, mOr, mNot, mAndV, mOrV, mNotV, mChain, mNx, mPass, mAsg, gNm, gTp, gsCons, gsNil, mIt, mEnum, mR1, mR2, rk1, rk2, mTup, mLst, mYes, mAug, mSl, mPart, mNoPart, addD_i, addD_t, addD_r, addD_s, subD_i, mulD_i, mulD_r, divD_i, modD_i, powD_i, ltD_i, leD_i, gtD_i, geD_i, eqD_i, eqD_s, eqD_r, neD_i, neD_s, neD_r, isND, notND, negD_i, revD_t, revD_r, lenR_t, listR_t, tupR_t, mListRg, mTupRg, mRg1, mRg2, ipAdd, ipSub, List.map_cons, List.map_nil, List.length_cons, List.length_nil, List.replicate, List.cons_append, List.nil_append, List.append_nil, List.getElem?_cons_zero, List.getElem?_cons_succ, List.set_cons_zero, List.set_cons_succ, Option.some.injEq, exists_eq_left', List.cons.injEq, and_assoc, D.int.injEq, D.bl.injEq, D.str.injEq, D.tup.injEq, D.wtup.injEq, D.flst.injEq, D.ref.injEq, wipeD, Nat.reduceSub, Nat.reduceAdd, true_and, and_true, Bool.false_eq_true, if_false, if_true, exists_and_left, exists_and_right, exists_eq_left, reduceCtorEq, false_and, exists_false, or_false, false_or, exists_const, ite_true, ite_false, ↓reduceIte, Bool.not_true, Bool.not_false, Bool.true_eq_false, Nat.zero_eq, Nat.succ_eq_add_one, Nat.sub_self, Nat.sub_zero, Nat.reduceEqDiff]
    rw [nI_len]
    have h3 := cnt_len (fun y => decide (E d y < y)) (x + 1) (z - (x + 1)).toNat
    refine ⟨by omega, ?_⟩
    rw [List.length_map, h3]
    exact h _ (Ex.new hp)
end Sw

set_option Elab.async false
set_option linter.all false
set_option maxRecDepth 100000
set_option maxHeartbeats 2000000
namespace Sw
open PySem PySem.Spec L2 DL RM
def refW (rs : List (List Int)) (d : List Int) (x z : Int) : List (List Int) :=
  let pl := plc (E d) x z % d.length
  let ot := (pl + 1) % d.length
  (if Tk rs pl z < Tk rs pl x then [] else [[pl, x, z, pl]]) ++ (if Tk rs ot x < Tk rs ot z then [] else [[pl, x, z, ot]])
theorem refW_sub {rs : List (List Int)} {d l : List Int} {x z : Int} (h : l ∈ refsL rs d x z) : l ∈ refW rs d x z := by
  unfold refsL at h
  unfold refW
  rcases List.mem_append.mp h with q | q
  · refine List.mem_append_left _ ?_
    by_cases a : Tk rs (plc (E d) x z % d.length) x < Tk rs (plc (E d) x z % d.length) z
    · rw [if_pos a] at q
      rw [if_neg (by omega)]; exact q
    · rw [if_neg a] at q; simp at q
  · refine List.mem_append_right _ ?_
    by_cases a : Tk rs ((plc (E d) x z % d.length + 1) % d.length) z < Tk rs ((plc (E d) x z % d.length + 1) % d.length) x
    · rw [if_pos a] at q
      rw [if_neg (by omega)]; exact q
    · rw [if_neg a] at q; simp at q
def rfk (rs : List (List Int)) (d : List Int) (k : Nat) : List (List Int) := ((pwk d d.length).take k).flatMap fun p => refW rs d p.1 p.2
theorem rfk_succ {rs : List (List Int)} {d : List Int} {k : Nat} {p : Int × Int} (h : (pwk d d.length)[k]? = some p) : rfk rs d (k + 1) = rfk rs d k ++ refW rs d p.1 p.2 := by
  unfold rfk; rw [List.take_add_one, h, List.flatMap_append]; simp
theorem refW_len {rs : List (List Int)} {d : List Int} {x z : Int} : (refW rs d x z).length ≤ 2 := by
  unfold refW
  simp only [List.length_append]
  split <;> split <;> simp
theorem rfk_len (rs : List (List Int)) (d : List Int) : ∀ k, (rfk rs d k).length ≤ k * 2
  | 0 => by simp [rfk]
  | k + 1 => by
    have ih := rfk_len rs d k
    cases h : (pwk d d.length)[k]? with
    | none =>
      have : rfk rs d (k + 1) = rfk rs d k := by unfold rfk; rw [List.take_add_one, h]; simp
      rw [this]; omega
    | some p =>
      rw [rfk_succ h, List.length_append]
      have := refW_len (rs := rs) (d := d) (x := p.1) (z := p.2)
      omega
def rfL (rs : List (List Int)) (d : List Int) : List (List Int) := rfk rs d (pwk d d.length).length
theorem Vd.rf {rs : List (List Int)} {d : List Int} (V : Vd d) {l : List Int} {x z : Int} (h : l ∈ refsL rs d x z) (hi : (x, z) ∈ invs d) : l ∈ rfL rs d := by
  unfold rfL rfk
  rw [List.take_length, List.mem_flatMap]
  have := mem_invs.mp hi
  exact ⟨(x, z), V.pw.mpr ⟨this.1, V.later.mp this.2⟩, refW_sub h⟩
theorem Tk_r (rs : List (List Int)) (a b : Int) : Tk rs a (b % rs.length) = Tk rs a b := by
  unfold Tk; rw [Int.emod_emod_of_dvd _ (Int.dvd_refl _)]
def sp_law_ring_refusals : DSp := fun ds μ RX R => ∃ (rs : List (List Int)) (d : List Int), ds = [.tup (rs.map tI), tI d] ∧ ((∀ l ∈ rs, Rk l rs.length) ∧ rs.length = d.length) ∧ (0 < d.length ∧ d.length ≤ 20) ∧
  ∀ p μ', μ p = none → Ex μ μ' → μ' p = some (.lst ((rfL rs d).map tI)) → R (.ref p) μ'
def t_law_ring_refusals : DS :=
  (mSeq (mPar 2 3 (mCons (mB lenR (mCons (mVar 1) mNil)) (mCons (mLst mNil) mNil)))
  (mSeq (mFor (mIt (mCall sp_law_ring_pairs [] (mCons (mVar 1) mNil))) (gTp 2 (gsCons (gNm 4) (gsCons (gNm 5) gsNil)))
  (mSeq (mSet 6 (mCall sp_law_ring_place [] (mCons (mVar 1) (mCons (mVar 4) (mCons (mVar 5) mNil)))))
  (mSeq (mSet 7 (mOp modD (mOp addD (mVar 6) (mC (.int 1))) (mVar 2)))
  (mSeq (mIfS (mNot (mTest (mCall sp_law_likes_more [] (mCons (mVar 0) (mCons (mVar 6) (mCons (mOp modD (mVar 5) (mVar 2)) (mCons (mOp modD (mVar 4) (mVar 2)) mNil)))))))
  (mExp (mBML appendR (mVar 3) (mCons (mTup (mCons (mVar 6) (mCons (mVar 4) (mCons (mVar 5) (mCons (mVar 6) mNil))))) mNil)))
  mNx)
  (mIfS (mNot (mTest (mCall sp_law_likes_more [] (mCons (mVar 0) (mCons (mVar 7) (mCons (mOp modD (mVar 4) (mVar 2)) (mCons (mOp modD (mVar 5) (mVar 2)) mNil)))))))
  (mExp (mBML appendR (mVar 3) (mCons (mTup (mCons (mVar 6) (mCons (mVar 4) (mCons (mVar 5) (mCons (mVar 7) mNil))))) mNil)))
  mNx)))))
  (mRet (mVar 3))))
abbrev N_law_ring_refusals : List Str := ["_law_lists", "_law_moves", "_law_many", "_law_found", "_law_x", "_law_z", "_law_at", "_law_near"]
abbrev P_law_ring_refusals : List Str := ["_law_lists", "_law_moves"]
theorem law_law_ring_refusals : ∀ ds μ RX R, sp_law_ring_refusals ds μ RX R → bodySp P_law_ring_refusals.length N_law_ring_refusals.length t_law_ring_refusals ds μ RX R := by
  rintro _ μ RX R ⟨rs, d, rfl, ⟨hr, hl⟩, ⟨h0, h1⟩, h⟩
  refine ⟨rfl, ?_⟩
  simp only [t_law_ring_refusals, mFor, bodySp, mSeq, mRet, mRetN, mExp, mOp, mUn, mVar, mC, mB, mCons, mNil, mSet, mPar, mPar3, mCall, mTest, mIfS, mIf, mAnd, mOr, mNot, mAndV, mOrV, mNotV, mChain, mNx, mPass, mAsg, gNm, gTp, gsCons, gsNil, mIt, mEnum, mR1, mR2, rk1, rk2, mTup, mLst, mYes, mAug, mSl, mPart, mNoPart, addD_i, addD_t, addD_r, addD_s, subD_i, mulD_i, mulD_r, divD_i, modD_i, powD_i, ltD_i, leD_i, gtD_i, geD_i, eqD_i, eqD_s, eqD_r, neD_i, neD_s, neD_r, isND, notND, negD_i, revD_t, revD_r, lenR_t, listR_t, tupR_t, mListRg, mTupRg, mRg1, mRg2, ipAdd, ipSub, List.map_cons, List.map_nil, List.length_cons, List.length_nil, List.replicate, List.cons_append, List.nil_append, List.append_nil, List.getElem?_cons_zero, List.getElem?_cons_succ, List.set_cons_zero, List.set_cons_succ, Option.some.injEq, exists_eq_left', List.cons.injEq, and_assoc, D.int.injEq, D.bl.injEq, D.str.injEq, D.tup.injEq, D.wtup.injEq, D.flst.injEq, D.ref.injEq, wipeD, Nat.reduceSub, Nat.reduceAdd, true_and, and_true, Bool.false_eq_true, if_false, if_true, exists_and_left, exists_and_right, exists_eq_left, reduceCtorEq, false_and, exists_false, or_false, false_or, exists_const, ite_true, ite_false, ↓reduceIte, Bool.not_true, Bool.not_false, Bool.true_eq_false, Nat.zero_eq, Nat.succ_eq_add_one, Nat.sub_self, Nat.sub_zero, Nat.reduceEqDiff]
  refine ⟨by have := sizeLine_big; omega, fun p hp => ⟨d, rfl, ⟨h0, by omega⟩, fun c μ1 hc hE1 hm1 => .inr ⟨c, rfl, _, .inl hm1, ?_⟩⟩⟩
  rw [nI_len]
  have hpc : p ≠ c := mu_ne updM_same hc
  have hE1' : Ex μ μ1 := (Ex.new hp).trans hE1
  have hp1 : μ1 p = some (.lst []) := hE1.at updM_same
  refine forD_ix _ (fun k δ μ' => ∃ o4 o5 o6 o7, δ = [some (.tup (rs.map tI)), some (tI d), some (.int d.length), some (.ref p), o4, o5, o6, o7] ∧ Ex μ μ' ∧ μ' c = some (.lst (prs (pwk d d.length))) ∧ μ' p = some (.lst ((rfk rs d k).map tI))) (fun k δ μ' ⟨_, _, _, _, _, _, hc, _⟩ => .inl hc) ?_ ?_ _ _ ⟨_, _, _, _, rfl, hE1', hm1, by rw [hp1]; simp [rfk]⟩
  · rintro _ μ' ⟨o4, o5, o6, o7, rfl, hE, hmc, hm⟩
    simp only [bodySp, mSeq, mRet, mRetN, mExp, mOp, mUn, mVar, mC, mB, mCons, mNil, mSet, mPar, mPar3, mCall, mTest, mIfS, mIf, mAnd, mOr, mNot, mAndV, mOrV, mNotV, mChain, mNx, mPass, mAsg, gNm, gTp, gsCons, gsNil, mIt, mEnum, mR1, mR2, rk1, rk2, mTup, mLst, mYes, mAug, mSl, mPart, mNoPart, addD_i, addD_t, addD_r, addD_s, subD_i, mulD_i, mulD_r, divD_i, modD_i, powD_i, ltD_i, leD_i, gtD_i, geD_i, eqD_i, eqD_s, eqD_r, neD_i, neD_s, neD_r, isND, notND, negD_i, revD_t, revD_r, lenR_t, listR_t, tupR_t, mListRg, mTupRg, mRg1, mRg2, ipAdd, ipSub, List.map_cons, List.map_nil, List.length_cons, List.length_nil, List.replicate, List.cons_append, List.nil_append, List.append_nil, List.getElem?_cons_zero, List.getElem?_cons_succ, List.set_cons_zero, List.set_cons_succ, Option.some.injEq, exists_eq_left', List.cons.injEq, and_assoc, D.int.injEq, D.bl.injEq, D.str.injEq, D.tup.injEq, D.wtup.injEq, D.flst.injEq, D.ref.injEq, wipeD, Nat.reduceSub, Nat.reduceAdd, true_and, and_true, Bool.false_eq_true, if_false, if_true, exists_and_left, exists_and_right, exists_eq_left, reduceCtorEq, false_and, exists_false, or_false, false_or, exists_const, ite_true, ite_false, ↓reduceIte, Bool.not_true, Bool.not_false, Bool.true_eq_false, Nat.zero_eq, Nat.succ_eq_add_one, Nat.sub_self, Nat.sub_zero, Nat.reduceEqDiff]
    refine h p μ' hp hE ?_
    rw [hm]; unfold rfL prs; rw [List.length_map]
  · rintro k x _ μ' N hx hN ⟨o4, o5, o6, o7, rfl, hE, hmc, hm⟩
    unfold prs at hx
    rw [List.getElem?_map] at hx
    cases hpk : (pwk d d.length)[k]? with
    | none => rw [hpk] at hx; cases hx
    | some pr =>
      have hmem := List.mem_of_getElem? hpk
      have hbd := pwk_bd hmem
      rw [hpk] at hx
      have hkl : k < (pwk d d.length).length := by
        rcases Nat.lt_or_ge k (pwk d d.length).length with z | z
        · exact z
        · rw [List.getElem?_eq_none z] at hpk; cases hpk
      have h4 := pwk_len d d.length
      have h5 : d.length * (2 * d.length + 1) ≤ 20 * 41 := Nat.mul_le_mul (by omega) (by omega)
      have h6 := rfk_len rs d k
      have hbig := sizeLine_big
      obtain ⟨px, pz⟩ := pr
      cases hx
      have hdp : (0 : Int) < d.length := by omega
      simp only [bodySp, mSeq, mRet, mRetN, mExp, mOp, mUn, mVar, mC, mB, mCons, mNil, mSet, mPar, mPar3, mCall, mTest, mIfS, mIf, mAnd, mOr, mNot, mAndV, mOrV, mNotV, mChain, mNx, mPass, mAsg, gNm, gTp, gsCons, gsNil, mIt, mEnum, mR1, mR2, rk1, rk2, mTup, mLst, mYes, mAug, mSl, mPart, mNoPart, addD_i, addD_t, addD_r, addD_s, subD_i, mulD_i, mulD_r, divD_i, modD_i, powD_i, ltD_i, leD_i, gtD_i, geD_i, eqD_i, eqD_s, eqD_r, neD_i, neD_s, neD_r, isND, notND, negD_i, revD_t, revD_r, lenR_t, listR_t, tupR_t, mListRg, mTupRg, mRg1, mRg2, ipAdd, ipSub, List.map_cons, List.map_nil, List.length_cons, List.length_nil, List.replicate, List.cons_append, List.nil_append, List.append_nil, List.getElem?_cons_zero, List.getElem?_cons_succ, List.set_cons_zero, List.set_cons_succ, Option.some.injEq, exists_eq_left', List.cons.injEq, and_assoc, D.int.injEq, D.bl.injEq, D.str.injEq, D.tup.injEq, D.wtup.injEq, D.flst.injEq, D.ref.injEq, wipeD, Nat.reduceSub, Nat.reduceAdd, true_and, and_true, Bool.false_eq_true, if_false, if_true, exists_and_left, exists_and_right, exists_eq_left, reduceCtorEq, false_and, exists_false, or_false, false_or, exists_const, ite_true, ite_false, ↓reduceIte, Bool.not_true, Bool.not_false, Bool.true_eq_false, Nat.zero_eq, Nat.succ_eq_add_one, Nat.sub_self, Nat.sub_zero, Nat.reduceEqDiff, pairD] at hbd ⊢
      refine ⟨d, px, pz, rfl, ⟨h0, h1⟩, ⟨by omega, by omega, by omega, by omega⟩, fun μ2 hE2 => ?_⟩
      simp only [bodySp, mSeq, mRet, mRetN, mExp, mOp, mUn, mVar, mC, mB, mCons, mNil, mSet, mPar, mPar3, mCall, mTest, mIfS, mIf, mAnd, mOr, mNot, mAndV, mOrV, mNotV, mChain, mNx, mPass, mAsg, gNm, gTp, gsCons, gsNil, mIt, mEnum, mR1, mR2, rk1, rk2, mTup, mLst, mYes, mAug, mSl, mPart, mNoPart, addD_i, addD_t, addD_r, addD_s, subD_i, mulD_i, mulD_r, divD_i, modD_i, powD_i, ltD_i, leD_i, gtD_i, geD_i, eqD_i, eqD_s, eqD_r, neD_i, neD_s, neD_r, isND, notND, negD_i, revD_t, revD_r, lenR_t, listR_t, tupR_t, mListRg, mTupRg, mRg1, mRg2, ipAdd, ipSub, List.map_cons, List.map_nil, List.length_cons, List.length_nil, List.replicate, List.cons_append, List.nil_append, List.append_nil, List.getElem?_cons_zero, List.getElem?_cons_succ, List.set_cons_zero, List.set_cons_succ, Option.some.injEq, exists_eq_left', List.cons.injEq, and_assoc, D.int.injEq, D.bl.injEq, D.str.injEq, D.tup.injEq, D.wtup.injEq, D.flst.injEq, D.ref.injEq, wipeD, Nat.reduceSub, Nat.reduceAdd, true_and, and_true, Bool.false_eq_true, if_false, if_true, exists_and_left, exists_and_right, exists_eq_left, reduceCtorEq, false_and, exists_false, or_false, false_or, exists_const, ite_true, ite_false, ↓reduceIte, Bool.not_true, Bool.not_false, Bool.true_eq_false, Nat.zero_eq, Nat.succ_eq_add_one, Nat.sub_self, Nat.sub_zero, Nat.reduceEqDiff]
      have mc2 := hE2.at hmc
      have mp2 := hE2.at hm
      have hE02 := hE.trans hE2
      have hpl0 := Int.emod_nonneg (plc (E d) px pz) (Int.ne_of_gt hdp)
      have hpl1 := Int.emod_lt_of_pos (plc (E d) px pz) hdp
      have hrf : refW rs d px pz = (if Tk rs (plc (E d) px pz % d.length) pz < Tk rs (plc (E d) px pz % d.length) px then [] else [[plc (E d) px pz % d.length, px, pz, plc (E d) px pz % d.length]]) ++
        (if Tk rs ((plc (E d) px pz % d.length + 1) % d.length) px < Tk rs ((plc (E d) px pz % d.length + 1) % d.length) pz then [] else [[plc (E d) px pz % d.length, px, pz, (plc (E d) px pz % d.length + 1) % d.length]]) := rfl
      generalize plc (E d) px pz % (d.length : Int) = pl at hpl0 hpl1 hrf
      have hot0 := Int.emod_nonneg (pl + 1) (Int.ne_of_gt hdp)
      have hot1 := Int.emod_lt_of_pos (pl + 1) hdp
      have hx0 := Int.emod_nonneg px (Int.ne_of_gt hdp)
      have hx1 := Int.emod_lt_of_pos px hdp
      have hz0 := Int.emod_nonneg pz (Int.ne_of_gt hdp)
      have hz1 := Int.emod_lt_of_pos pz hdp
      have hlI : (rs.length : Int) = d.length := by omega
      refine ⟨hdp, hdp, hdp, rs, pl, pz % d.length, px % d.length, rfl, ⟨hr, ⟨hpl0, by omega⟩, ⟨hz0, by omega⟩, ⟨hx0, by omega⟩⟩, ?_⟩
      have e1 : ∀ a b, Tk rs a (b % d.length) = Tk rs a b := fun a b => by rw [← hlI]; exact Tk_r rs a b
      rw [e1, e1]
      simp only [bodySp, mSeq, mRet, mRetN, mExp, mOp, mUn, mVar, mC, mB, mCons, mNil, mSet, mPar, mPar3, mCall, mTest, mIfS, mIf, mAnd, mOr, mNot, mAndV, mOrV, mNotV, mChain, mNx, mPass, mAsg, gNm, gTp, gsCons, gsNil, mIt, mEnum, mR1, mR2, rk1, rk2, mTup, mLst, mYes, mAug, mSl, mPart, mNoPart, addD_i, addD_t, addD_r, addD_s, subD_i, mulD_i, mulD_r, divD_i, modD_i, powD_i, ltD_i, leD_i, gtD_i, geD_i, eqD_i, eqD_s, eqD_r, neD_i, neD_s, neD_r, isND, notND, negD_i, revD_t, revD_r, lenR_t, listR_t, tupR_t, mListRg, mTupRg, mRg1, mRg2, ipAdd, ipSub, List.map_cons, List.map_nil, List.length_cons, List.length_nil, List.replicate, List.cons_append, List.nil_append, List.append_nil, List.getElem?_cons_zero, List.getElem?_cons_succ, List.set_cons_zero, List.set_cons_succ, Option.some.injEq, exists_eq_left', List.cons.injEq, and_assoc, D.int.injEq, D.bl.injEq, D.str.injEq, D.tup.injEq, D.wtup.injEq, D.flst.injEq, D.ref.injEq, wipeD, Nat.reduceSub, Nat.reduceAdd, true_and, and_true, Bool.false_eq_true, if_false, if_true, exists_and_left, exists_and_right, exists_eq_left, reduceCtorEq, false_and, exists_false, or_false, false_or, exists_const, ite_true, ite_false, ↓reduceIte, Bool.not_true, Bool.not_false, Bool.true_eq_false, Nat.zero_eq, Nat.succ_eq_add_one, Nat.sub_self, Nat.sub_zero, Nat.reduceEqDiff]
      -- the second question
      have second : ∀ μ3 l1, Ex μ μ3 → μ3 c = some (.lst (prs (pwk d d.length))) → μ3 p = some (.lst ((rfk rs d k ++ l1).map tI)) → l1.length ≤ 1 →
          l1 = (if Tk rs pl pz < Tk rs pl px then [] else [[pl, px, pz, pl]]) →
          (mIfS (mNot (mTest (mCall sp_law_likes_more [] (mCons (mVar 0) (mCons (mVar 7) (mCons (mOp modD (mVar 4) (mVar 2)) (mCons (mOp modD (mVar 5) (mVar 2)) mNil)))))))
            (mExp (mBML appendR (mVar 3) (mCons (mTup (mCons (mVar 6) (mCons (mVar 4) (mCons (mVar 5) (mCons (mVar 7) mNil))))) mNil))) mNx)
            { nx := N, rt := R, ex := fun C fs x μ' => RX C fs μ', ct := N, bk := mRet (mVar 3) { nx := fun x μ' => R .non μ', rt := R, ex := fun C fs x μ' => RX C fs μ' } }
            [some (.tup (rs.map tI)), some (tI d), some (.int d.length), some (.ref p), some (.int px), some (.int pz), some (.int pl), some (.int ((pl + 1) % d.length))] μ3 := fun μ3 l1 hE3 mc3 mp3 hl1 el1 => by
        simp only [mBML, bodySp, mSeq, mRet, mRetN, mExp, mOp, mUn, mVar, mC, mB, mCons, mNil, mSet, mPar, mPar3, mCall, mTest, mIfS, mIf, mAnd, mOr, mNot, mAndV, mOrV, mNotV, mChain, mNx, mPass, mAsg, gNm, gTp, gsCons, gsNil, mIt, mEnum, mR1, mR2, rk1, rk2, mTup, mLst, mYes, mAug, mSl, mPart, mNoPart, addD_i, addD_t, addD_r, addD_s, subD_i, mulD_i, mulD_r, divD_i, modD_i, powD_i, ltD_i, leD_i, gtD_i, geD_i, eqD_i, eqD_s, eqD_r, neD_i, neD_s, neD_r, isND, notND, negD_i, revD_t, revD_r, lenR_t, listR_t, tupR_t, mListRg, mTupRg, mRg1, mRg2, ipAdd, ipSub, List.map_cons, List.map_nil, List.length_cons, List.length_nil, List.replicate, List.cons_append, List.nil_append, List.append_nil, List.getElem?_cons_zero, List.getElem?_cons_succ, List.set_cons_zero, List.set_cons_succ, Option.some.injEq, exists_eq_left', List.cons.injEq, and_assoc, D.int.injEq, D.bl.injEq, D.str.injEq, D.tup.injEq, D.wtup.injEq, D.flst.injEq, D.ref.injEq, wipeD, Nat.reduceSub, Nat.reduceAdd, true_and, and_true, Bool.false_eq_true, if_false, if_true, exists_and_left, exists_and_right, exists_eq_left, reduceCtorEq, false_and, exists_false, or_false, false_or, exists_const, ite_true, ite_false, ↓reduceIte, Bool.not_true, Bool.not_false, Bool.true_eq_false, Nat.zero_eq, Nat.succ_eq_add_one, Nat.sub_self, Nat.sub_zero, Nat.reduceEqDiff]
        refine ⟨hdp, hdp, rs, (pl + 1) % d.length, px % d.length, pz % d.length, rfl, ⟨hr, ⟨hot0, by omega⟩, ⟨hx0, by omega⟩, ⟨hz0, by omega⟩⟩, ?_⟩
        rw [e1, e1]
        simp only [bodySp, mSeq, mRet, mRetN, mExp, mOp, mUn, mVar, mC, mB, mCons, mNil, mSet, mPar, mPar3, mCall, mTest, mIfS, mIf, mAnd, mOr, mNot, mAndV, mOrV, mNotV, mChain, mNx, mPass, mAsg, gNm, gTp, gsCons, gsNil, mIt, mEnum, mR1, mR2, rk1, rk2, mTup, mLst, mYes, mAug, mSl, mPart, mNoPart, addD_i, addD_t, addD_r, addD_s, subD_i, mulD_i, mulD_r, divD_i, modD_i, powD_i, ltD_i, leD_i, gtD_i, geD_i, eqD_i, eqD_s, eqD_r, neD_i, neD_s, neD_r, isND, notND, negD_i, revD_t, revD_r, lenR_t, listR_t, tupR_t, mListRg, mTupRg, mRg1, mRg2, ipAdd, ipSub, List.map_cons, List.map_nil, List.length_cons, List.length_nil, List.replicate, List.cons_append, List.nil_append, List.append_nil, List.getElem?_cons_zero, List.getElem?_cons_succ, List.set_cons_zero, List.set_cons_succ, Option.some.injEq, exists_eq_left', List.cons.injEq, and_assoc, D.int.injEq, D.bl.injEq, D.str.injEq, D.tup.injEq, D.wtup.injEq, D.flst.injEq, D.ref.injEq, wipeD, Nat.reduceSub, Nat.reduceAdd, true_and, and_true, Bool.false_eq_true, if_false, if_true, exists_and_left, exists_and_right, exists_eq_left, reduceCtorEq, false_and, exists_false, or_false, false_or, exists_const, ite_true, ite_false, ↓reduceIte, Bool.not_true, Bool.not_false, Bool.true_eq_false, Nat.zero_eq, Nat.succ_eq_add_one, Nat.sub_self, Nat.sub_zero, Nat.reduceEqDiff]
        by_cases g : Tk rs ((pl + 1) % d.length) px < Tk rs ((pl + 1) % d.length) pz
        · rw [decide_eq_true g]
          simp only [bodySp, mSeq, mRet, mRetN, mExp, mOp, mUn, mVar, mC, mB, mCons, mNil, mSet, mPar, mPar3, mCall, mTest, mIfS, mIf, mAnd, mOr, mNot, mAndV, mOrV, mNotV, mChain, mNx, mPass, mAsg, gNm, gTp, gsCons, gsNil, mIt, mEnum, mR1, mR2, rk1, rk2, mTup, mLst, mYes, mAug, mSl, mPart, mNoPart, addD_i, addD_t, addD_r, addD_s, subD_i, mulD_i, mulD_r, divD_i, modD_i, powD_i, ltD_i, leD_i, gtD_i, geD_i, eqD_i, eqD_s, eqD_r, neD_i, neD_s, neD_r, isND, notND, negD_i, revD_t, revD_r, lenR_t, listR_t, tupR_t, mListRg, mTupRg, mRg1, mRg2, ipAdd, ipSub, List.map_cons, List.map_nil, List.length_cons, List.length_nil, List.replicate, List.cons_append, List.nil_append, List.append_nil, List.getElem?_cons_zero, List.getElem?_cons_succ, List.set_cons_zero, List.set_cons_succ, Option.some.injEq, exists_eq_left', List.cons.injEq, and_assoc, D.int.injEq, D.bl.injEq, D.str.injEq, D.tup.injEq, D.wtup.injEq, D.flst.injEq, D.ref.injEq, wipeD, Nat.reduceSub, Nat.reduceAdd, true_and, and_true, Bool.false_eq_true, if_false, if_true, exists_and_left, exists_and_right, exists_eq_left, reduceCtorEq, false_and, exists_false, or_false, false_or, exists_const, ite_true, ite_false, ↓reduceIte, Bool.not_true, Bool.not_false, Bool.true_eq_false, Nat.zero_eq, Nat.succ_eq_add_one, Nat.sub_self, Nat.sub_zero, Nat.reduceEqDiff]
          refine hN _ _ ⟨_, _, _, _, rfl, hE3, mc3, ?_⟩
          rw [mp3, rfk_succ hpk, hrf, if_pos g, ← el1]; simp
        · rw [decide_eq_false g]
          simp only [bodySp, mSeq, mRet, mRetN, mExp, mOp, mUn, mVar, mC, mB, mCons, mNil, mSet, mPar, mPar3, mCall, mTest, mIfS, mIf, mAnd, mOr, mNot, mAndV, mOrV, mNotV, mChain, mNx, mPass, mAsg, gNm, gTp, gsCons, gsNil, mIt, mEnum, mR1, mR2, rk1, rk2, mTup, mLst, mYes, mAug, mSl, mPart, mNoPart, addD_i, addD_t, addD_r, addD_s, subD_i, mulD_i, mulD_r, divD_i, modD_i, powD_i, ltD_i, leD_i, gtD_i, geD_i, eqD_i, eqD_s, eqD_r, neD_i, neD_s, neD_r, isND, notND, negD_i, revD_t, revD_r, lenR_t, listR_t, tupR_t, mListRg, mTupRg, mRg1, mRg2, ipAdd, ipSub, List.map_cons, List.map_nil, List.length_cons, List.length_nil, List.replicate, List.cons_append, List.nil_append, List.append_nil, List.getElem?_cons_zero, List.getElem?_cons_succ, List.set_cons_zero, List.set_cons_succ, Option.some.injEq, exists_eq_left', List.cons.injEq, and_assoc, D.int.injEq, D.bl.injEq, D.str.injEq, D.tup.injEq, D.wtup.injEq, D.flst.injEq, D.ref.injEq, wipeD, Nat.reduceSub, Nat.reduceAdd, true_and, and_true, Bool.false_eq_true, if_false, if_true, exists_and_left, exists_and_right, exists_eq_left, reduceCtorEq, false_and, exists_false, or_false, false_or, exists_const, ite_true, ite_false, ↓reduceIte, Bool.not_true, Bool.not_false, Bool.true_eq_false, Nat.zero_eq, Nat.succ_eq_add_one, Nat.sub_self, Nat.sub_zero, Nat.reduceEqDiff]
          refine ⟨⟨_, .inl mp3⟩, by omega, appendR_l mp3 (by rw [List.length_map, List.length_append]; omega) ?_⟩
          refine hN _ _ ⟨_, _, _, _, rfl, Ex.over hE3 hp, by rw [updM_ne (Ne.symm hpc)]; exact mc3, ?_⟩
          rw [updM_same, rfk_succ hpk, hrf, if_neg g, ← el1]; simp
      by_cases g : Tk rs pl pz < Tk rs pl px
      · rw [decide_eq_true g]
        simp only [Bool.not_true, Bool.false_eq_true, if_false]
        have z := second μ2 [] hE02 mc2 (by rw [mp2]; simp) (by simp) (by rw [if_pos g])
        simp only [mBML, bodySp, mSeq, mRet, mRetN, mExp, mOp, mUn, mVar, mC, mB, mCons, mNil, mSet, mPar, mPar3, mCall, mTest, mIfS, mIf, mAnd, mOr, mNot, mAndV, mOrV, mNotV, mChain, mNx, mPass, mAsg, gNm, gTp, gsCons, gsNil, mIt, mEnum, mR1, mR2, rk1, rk2, mTup, mLst, mYes, mAug, mSl, mPart, mNoPart, addD_i, addD_t, addD_r, addD_s, subD_i, mulD_i, mulD_r, divD_i, modD_i, powD_i, ltD_i, leD_i, gtD_i, geD_i, eqD_i, eqD_s, eqD_r, neD_i, neD_s, neD_r, isND, notND, negD_i, revD_t, revD_r, lenR_t, listR_t, tupR_t, mListRg, mTupRg, mRg1, mRg2, ipAdd, ipSub, List.map_cons, List.map_nil, List.length_cons, List.length_nil, List.replicate, List.cons_append, List.nil_append, List.append_nil, List.getElem?_cons_zero, List.getElem?_cons_succ, List.set_cons_zero, List.set_cons_succ, Option.some.injEq, exists_eq_left', List.cons.injEq, and_assoc, D.int.injEq, D.bl.injEq, D.str.injEq, D.tup.injEq, D.wtup.injEq, D.flst.injEq, D.ref.injEq, wipeD, Nat.reduceSub, Nat.reduceAdd, true_and, and_true, Bool.false_eq_true, if_false, if_true, exists_and_left, exists_and_right, exists_eq_left, reduceCtorEq, false_and, exists_false, or_false, false_or, exists_const, ite_true, ite_false, ↓reduceIte, Bool.not_true, Bool.not_false, Bool.true_eq_false, Nat.zero_eq, Nat.succ_eq_add_one, Nat.sub_self, Nat.sub_zero, Nat.reduceEqDiff] at z ⊢
        exact z
      · rw [decide_eq_false g]
        simp only [mBML, bodySp, mSeq, mRet, mRetN, mExp, mOp, mUn, mVar, mC, mB, mCons, mNil, mSet, mPar, mPar3, mCall, mTest, mIfS, mIf, mAnd, mOr, mNot, mAndV, mOrV, mNotV, mChain, mNx, mPass, mAsg, gNm, gTp, gsCons, gsNil, mIt, mEnum, mR1, mR2, rk1, rk2, mTup, mLst, mYes, mAug, mSl, mPart, mNoPart, addD_i, addD_t, addD_r, addD_s, subD_i, mulD_i, mulD_r, divD_i, modD_i, powD_i, ltD_i, leD_i, gtD_i, geD_i, eqD_i, eqD_s, eqD_r, neD_i, neD_s, neD_r, isND, notND, negD_i, revD_t, revD_r, lenR_t, listR_t, tupR_t, mListRg, mTupRg, mRg1, mRg2, ipAdd, ipSub, List.map_cons, List.map_nil, List.length_cons, List.length_nil, List.replicate, List.cons_append, List.nil_append, List.append_nil, List.getElem?_cons_zero, List.getElem?_cons_succ, List.set_cons_zero, List.set_cons_succ, Option.some.injEq, exists_eq_left', List.cons.injEq, and_assoc, D.int.injEq, D.bl.injEq, D.str.injEq, D.tup.injEq, D.wtup.injEq, D.flst.injEq, D.ref.injEq, wipeD, Nat.reduceSub, Nat.reduceAdd, true_and, and_true, Bool.false_eq_true, if_false, if_true, exists_and_left, exists_and_right, exists_eq_left, reduceCtorEq, false_and, exists_false, or_false, false_or, exists_const, ite_true, ite_false, ↓reduceIte, Bool.not_true, Bool.not_false, Bool.true_eq_false, Nat.zero_eq, Nat.succ_eq_add_one, Nat.sub_self, Nat.sub_zero, Nat.reduceEqDiff]
        refine ⟨⟨_, .inl mp2⟩, by omega, appendR_l mp2 (by rw [List.length_map]; omega) ?_⟩
        have z := second (updM μ2 p (.lst ((rfk rs d k).map tI ++ [tI [pl, px, pz, pl]]))) [[pl, px, pz, pl]] (Ex.over hE02 hp) (by rw [updM_ne (Ne.symm hpc)]; exact mc2) (by rw [updM_same]; simp) (by simp) (by rw [if_neg g])
        simp only [mBML, bodySp, mSeq, mRet, mRetN, mExp, mOp, mUn, mVar, mC, mB, mCons, mNil, mSet, mPar, mPar3, mCall, mTest, mIfS, mIf, mAnd, mOr, mNot, mAndV, mOrV, mNotV, mChain, mNx, mPass, mAsg, gNm, gTp, gsCons, gsNil, mIt, mEnum, mR1, mR2, rk1, rk2, mTup, mLst, mYes, mAug, mSl, mPart, mNoPart, addD_i, addD_t, addD_r, addD_s, subD_i, mulD_i, mulD_r, divD_i, modD_i, powD_i, ltD_i, leD_i, gtD_i, geD_i, eqD_i, eqD_s, eqD_r, neD_i, neD_s, neD_r, isND, notND, negD_i, revD_t, revD_r, lenR_t, listR_t, tupR_t, mListRg, mTupRg, mRg1, mRg2, ipAdd, ipSub, List.map_cons, List.map_nil, List.length_cons, List.length_nil, List.replicate, List.cons_append, List.nil_append, List.append_nil, List.getElem?_cons_zero, List.getElem?_cons_succ, List.set_cons_zero, List.set_cons_succ, Option.some.injEq, exists_eq_left', List.cons.injEq, and_assoc, D.int.injEq, D.bl.injEq, D.str.injEq, D.tup.injEq, D.wtup.injEq, D.flst.injEq, D.ref.injEq, wipeD, Nat.reduceSub, Nat.reduceAdd, true_and, and_true, Bool.false_eq_true, if_false, if_true, exists_and_left, exists_and_right, exists_eq_left, reduceCtorEq, false_and, exists_false, or_false, false_or, exists_const, ite_true, ite_false, ↓reduceIte, Bool.not_true, Bool.not_false, Bool.true_eq_false, Nat.zero_eq, Nat.succ_eq_add_one, Nat.sub_self, Nat.sub_zero, Nat.reduceEqDiff] at z
        exact z
end Sw

set_option Elab.async false
set_option linter.all false
set_option maxRecDepth 100000
set_option maxHeartbeats 2000000
namespace Sw
open PySem PySem.Spec L2 DL RM
/-- both prefer what the other holds -/
def mayB (rs : List (List Int)) (row : List Int) (s : Nat) : Bool :=
  decide (Tk rs s (row.getD (oth rs.length s) 0) < Tk rs s (row.getD s 0)) && decide (Tk rs (oth rs.length s : Nat) (row.getD s 0) < Tk rs (oth rs.length s : Nat) (row.getD (oth rs.length s) 0))
def sp_law_ring_may : DSp := fun ds μ RX R => ∃ (rs : List (List Int)) (row : List Int) (s : Nat), ds = [.tup (rs.map tI), tI row, .int s] ∧ ((∀ l ∈ rs, Rk l rs.length) ∧ Rk row rs.length ∧ s < rs.length) ∧ R (.bl (mayB rs row s)) μ
def t_law_ring_may : DS :=
  (mSeq (mSet 3 (mOp modD (mOp addD (mVar 2) (mC (.int 1))) (mB lenR (mCons (mVar 1) mNil))))
  (mRet (mAndV (mCall sp_law_likes_more [] (mCons (mVar 0) (mCons (mVar 2) (mCons (mOp ixD (mVar 1) (mVar 3)) (mCons (mOp ixD (mVar 1) (mVar 2)) mNil))))) (mCall sp_law_likes_more [] (mCons (mVar 0) (mCons (mVar 3) (mCons (mOp ixD (mVar 1) (mVar 2)) (mCons (mOp ixD (mVar 1) (mVar 3)) mNil))))))))
abbrev N_law_ring_may : List Str := ["_law_lists", "_law_row", "_law_at", "_law_near"]
abbrev P_law_ring_may : List Str := ["_law_lists", "_law_row", "_law_at"]
theorem law_law_ring_may : ∀ ds μ RX R, sp_law_ring_may ds μ RX R → bodySp P_law_ring_may.length N_law_ring_may.length t_law_ring_may ds μ RX R := by
  rintro _ μ RX R ⟨rs, row, s, rfl, ⟨hr, hrow, hs⟩, h⟩
  refine ⟨rfl, ?_⟩
  simp only [t_law_ring_may, bodySp, mSeq, mRet, mRetN, mExp, mOp, mUn, mVar, mC, mB, mCons, mNil, mSet, mPar, mPar3, mCall, mTest, mIfS, mIf, mAnd, mOr, mNot, mAndV, mOrV, mNotV, mChain, mNx, mPass, mAsg, gNm, gTp, gsCons, gsNil, mIt, mEnum, mR1, mR2, rk1, rk2, mTup, mLst, mYes, mAug, mSl, mPart, mNoPart, addD_i, addD_t, addD_r, addD_s, subD_i, mulD_i, mulD_r, divD_i, modD_i, powD_i, ltD_i, leD_i, gtD_i, geD_i, eqD_i, eqD_s, eqD_r, neD_i, neD_s, neD_r, isND, notND, negD_i, revD_t, revD_r, lenR_t, listR_t, tupR_t, mListRg, mTupRg, mRg1, mRg2, ipAdd, ipSub, List.map_cons, List.map_nil, List.length_cons, List.length_nil, List.replicate, List.cons_append, List.nil_append, List.append_nil, List.getElem?_cons_zero, List.getElem?_cons_succ, List.set_cons_zero, List.set_cons_succ, Option.some.injEq, exists_eq_left', List.cons.injEq, and_assoc, D.int.injEq, D.bl.injEq, D.str.injEq, D.tup.injEq, D.wtup.injEq, D.flst.injEq, D.ref.injEq, wipeD, Nat.reduceSub, Nat.reduceAdd, true_and, and_true, Bool.false_eq_true, if_false, if_true, exists_and_left, exists_and_right, exists_eq_left, reduceCtorEq, false_and, exists_false, or_false, false_or, exists_const, ite_true, ite_false, ↓reduceIte, Bool.not_true, Bool.not_false, Bool.true_eq_false, Nat.zero_eq, Nat.succ_eq_add_one, Nat.sub_self, Nat.sub_zero, Nat.reduceEqDiff]
  have hl := hrow.len
  have ho := oth_lt (n := rs.length) (s := s) (by omega)
  have a1 := hrow.at hs
  have a2 := hrow.at ho
  rw [nI_len, hl]
  refine ⟨by omega, ?_⟩
  rw [← oth_int, ixD_t (atI_ints (by omega) (by omega)), ixD_t (atI_ints (by omega) (by omega))]
  simp only [Int.toNat_natCast, bodySp, mSeq, mRet, mRetN, mExp, mOp, mUn, mVar, mC, mB, mCons, mNil, mSet, mPar, mPar3, mCall, mTest, mIfS, mIf, mAnd, mOr, mNot, mAndV, mOrV, mNotV, mChain, mNx, mPass, mAsg, gNm, gTp, gsCons, gsNil, mIt, mEnum, mR1, mR2, rk1, rk2, mTup, mLst, mYes, mAug, mSl, mPart, mNoPart, addD_i, addD_t, addD_r, addD_s, subD_i, mulD_i, mulD_r, divD_i, modD_i, powD_i, ltD_i, leD_i, gtD_i, geD_i, eqD_i, eqD_s, eqD_r, neD_i, neD_s, neD_r, isND, notND, negD_i, revD_t, revD_r, lenR_t, listR_t, tupR_t, mListRg, mTupRg, mRg1, mRg2, ipAdd, ipSub, List.map_cons, List.map_nil, List.length_cons, List.length_nil, List.replicate, List.cons_append, List.nil_append, List.append_nil, List.getElem?_cons_zero, List.getElem?_cons_succ, List.set_cons_zero, List.set_cons_succ, Option.some.injEq, exists_eq_left', List.cons.injEq, and_assoc, D.int.injEq, D.bl.injEq, D.str.injEq, D.tup.injEq, D.wtup.injEq, D.flst.injEq, D.ref.injEq, wipeD, Nat.reduceSub, Nat.reduceAdd, true_and, and_true, Bool.false_eq_true, if_false, if_true, exists_and_left, exists_and_right, exists_eq_left, reduceCtorEq, false_and, exists_false, or_false, false_or, exists_const, ite_true, ite_false, ↓reduceIte, Bool.not_true, Bool.not_false, Bool.true_eq_false, Nat.zero_eq, Nat.succ_eq_add_one, Nat.sub_self, Nat.sub_zero, Nat.reduceEqDiff]
  refine ⟨rs, s, _, _, rfl, ⟨hr, ⟨by omega, by omega⟩, a2, a1⟩, ?_⟩
  unfold mayB at h
  by_cases g : Tk rs s (row.getD (oth rs.length s) 0) < Tk rs s (row.getD s 0)
  · rw [decide_eq_true g] at h ⊢
    refine ⟨true, rfl, ?_⟩
    rw [if_pos rfl, ixD_t (atI_ints (by omega) (by omega)), ixD_t (atI_ints (by omega) (by omega))]
    simp only [Int.toNat_natCast, bodySp, mSeq, mRet, mRetN, mExp, mOp, mUn, mVar, mC, mB, mCons, mNil, mSet, mPar, mPar3, mCall, mTest, mIfS, mIf, mAnd, mOr, mNot, mAndV, mOrV, mNotV, mChain, mNx, mPass, mAsg, gNm, gTp, gsCons, gsNil, mIt, mEnum, mR1, mR2, rk1, rk2, mTup, mLst, mYes, mAug, mSl, mPart, mNoPart, addD_i, addD_t, addD_r, addD_s, subD_i, mulD_i, mulD_r, divD_i, modD_i, powD_i, ltD_i, leD_i, gtD_i, geD_i, eqD_i, eqD_s, eqD_r, neD_i, neD_s, neD_r, isND, notND, negD_i, revD_t, revD_r, lenR_t, listR_t, tupR_t, mListRg, mTupRg, mRg1, mRg2, ipAdd, ipSub, List.map_cons, List.map_nil, List.length_cons, List.length_nil, List.replicate, List.cons_append, List.nil_append, List.append_nil, List.getElem?_cons_zero, List.getElem?_cons_succ, List.set_cons_zero, List.set_cons_succ, Option.some.injEq, exists_eq_left', List.cons.injEq, and_assoc, D.int.injEq, D.bl.injEq, D.str.injEq, D.tup.injEq, D.wtup.injEq, D.flst.injEq, D.ref.injEq, wipeD, Nat.reduceSub, Nat.reduceAdd, true_and, and_true, Bool.false_eq_true, if_false, if_true, exists_and_left, exists_and_right, exists_eq_left, reduceCtorEq, false_and, exists_false, or_false, false_or, exists_const, ite_true, ite_false, ↓reduceIte, Bool.not_true, Bool.not_false, Bool.true_eq_false, Nat.zero_eq, Nat.succ_eq_add_one, Nat.sub_self, Nat.sub_zero, Nat.reduceEqDiff]
    refine ⟨rs, (oth rs.length s : Nat), _, _, rfl, ⟨hr, ⟨by omega, by omega⟩, a1, a2⟩, ?_⟩
    rw [Bool.true_and] at h
    exact h
  · rw [decide_eq_false g] at h ⊢
    refine ⟨false, rfl, ?_⟩
    rw [if_neg (by simp)]
    rw [Bool.false_and] at h
    exact h
def sp_law_ring_after : DSp := fun ds μ RX R => ∃ (n : Nat) (row mv : List Int) (s : Nat), ds = [tI row, tI mv, .int s] ∧ (2 ≤ n ∧ n ≤ 1000 ∧ Rk row n ∧ mv.length = n ∧ s < n) ∧ ∀ μ', Ex μ μ' → R (.tup [tI (art n s row), tI (mv1 n s row mv)]) μ'
def t_law_ring_after : DS :=
  (mSeq (mPar3 3 4 5 (mCons (mOp modD (mOp addD (mVar 2) (mC (.int 1))) (mB lenR (mCons (mVar 0) mNil))) (mCons (mB listR (mCons (mVar 0) mNil)) (mCons (mB listR (mCons (mVar 1) mNil)) mNil))))
  (mSeq (mAsg (mTup (mCons (mOp ixD (mVar 0) (mVar 3)) (mCons (mOp ixD (mVar 0) (mVar 2)) mNil))) (gTp 2 (gsCons (gSb (mVar 4) (mVar 2)) (gsCons (gSb (mVar 4) (mVar 3)) gsNil))))
  (mSeq (mAsg (mOp addD (mOp ixD (mVar 5) (mOp ixD (mVar 0) (mVar 2))) (mC (.int 1))) (gSb (mVar 5) (mOp ixD (mVar 0) (mVar 2))))
  (mSeq (mAsg (mOp subD (mOp ixD (mVar 5) (mOp ixD (mVar 0) (mVar 3))) (mC (.int 1))) (gSb (mVar 5) (mOp ixD (mVar 0) (mVar 3))))
  (mRet (mTup (mCons (mB tupR (mCons (mVar 4) mNil)) (mCons (mB tupR (mCons (mVar 5) mNil)) mNil))))))))
abbrev N_law_ring_after : List Str := ["_law_row", "_law_moves", "_law_at", "_law_near", "_law_later", "_law_shifts"]
abbrev P_law_ring_after : List Str := ["_law_row", "_law_moves", "_law_at"]
theorem law_law_ring_after : ∀ ds μ RX R, sp_law_ring_after ds μ RX R → bodySp P_law_ring_after.length N_law_ring_after.length t_law_ring_after ds μ RX R := by
  rintro _ μ RX R ⟨n, row, mv, s, rfl, ⟨h2, hn, hrow, hml, hs⟩, h⟩
  refine ⟨rfl, ?_⟩
  simp only [t_law_ring_after, bodySp, mSeq, mRet, mRetN, mExp, mOp, mUn, mVar, mC, mB, mCons, mNil, mSet, mPar, mPar3, mCall, mTest, mIfS, mIf, mAnd, mOr, mNot, mAndV, mOrV, mNotV, mChain, mNx, mPass, mAsg, gNm, gTp, gsCons, gsNil, mIt, mEnum, mR1, mR2, rk1, rk2, mTup, mLst, mYes, mAug, mSl, mPart, mNoPart, addD_i, addD_t, addD_r, addD_s, subD_i, mulD_i, mulD_r, divD_i, modD_i, powD_i, ltD_i, leD_i, gtD_i, geD_i, eqD_i, eqD_s, eqD_r, neD_i, neD_s, neD_r, isND, notND, negD_i, revD_t, revD_r, lenR_t, listR_t, tupR_t, mListRg, mTupRg, mRg1, mRg2, ipAdd, ipSub, List.map_cons, List.map_nil, List.length_cons, List.length_nil, List.replicate, List.cons_append, List.nil_append, List.append_nil, List.getElem?_cons_zero, List.getElem?_cons_succ, List.set_cons_zero, List.set_cons_succ, Option.some.injEq, exists_eq_left', List.cons.injEq, and_assoc, D.int.injEq, D.bl.injEq, D.str.injEq, D.tup.injEq, D.wtup.injEq, D.flst.injEq, D.ref.injEq, wipeD, Nat.reduceSub, Nat.reduceAdd, true_and, and_true, Bool.false_eq_true, if_false, if_true, exists_and_left, exists_and_right, exists_eq_left, reduceCtorEq, false_and, exists_false, or_false, false_or, exists_const, ite_true, ite_false, ↓reduceIte, Bool.not_true, Bool.not_false, Bool.true_eq_false, Nat.zero_eq, Nat.succ_eq_add_one, Nat.sub_self, Nat.sub_zero, Nat.reduceEqDiff]
  have hl := hrow.len
  have ho := oth_lt (n := n) (s := s) (by omega)
  have a1 := hrow.at hs
  have a2 := hrow.at ho
  have hbig := sizeLine_big
  have hne := oth_ne h2 hs
  have hab : (row.getD s 0).toNat ≠ (row.getD (oth n s) 0).toNat := fun e => hne (hrow.inj ho hs e.symm)
  rw [nI_len, hl]
  refine ⟨by omega, fun p hp q hq => ?_⟩
  have hpq : p ≠ q := mu_ne updM_same hq
  have hE : Ex μ (updM (updM μ p (.lst (nI row))) q (.lst (nI mv))) := (Ex.new hp).trans (Ex.new hq)
  have q0 : μ q = none := (Ex.new hp).none hq
  rw [← oth_int, ixD_t (atI_ints (by omega) (by omega)), ixD_t (atI_ints (by omega) (by omega))]
  simp only [Int.toNat_natCast, gSb, bodySp, mSeq, mRet, mRetN, mExp, mOp, mUn, mVar, mC, mB, mCons, mNil, mSet, mPar, mPar3, mCall, mTest, mIfS, mIf, mAnd, mOr, mNot, mAndV, mOrV, mNotV, mChain, mNx, mPass, mAsg, gNm, gTp, gsCons, gsNil, mIt, mEnum, mR1, mR2, rk1, rk2, mTup, mLst, mYes, mAug, mSl, mPart, mNoPart, addD_i, addD_t, addD_r, addD_s, subD_i, mulD_i, mulD_r, divD_i, modD_i, powD_i, ltD_i, leD_i, gtD_i, geD_i, eqD_i, eqD_s, eqD_r, neD_i, neD_s, neD_r, isND, notND, negD_i, revD_t, revD_r, lenR_t, listR_t, tupR_t, mListRg, mTupRg, mRg1, mRg2, ipAdd, ipSub, List.map_cons, List.map_nil, List.length_cons, List.length_nil, List.replicate, List.cons_append, List.nil_append, List.append_nil, List.getElem?_cons_zero, List.getElem?_cons_succ, List.set_cons_zero, List.set_cons_succ, Option.some.injEq, exists_eq_left', List.cons.injEq, and_assoc, D.int.injEq, D.bl.injEq, D.str.injEq, D.tup.injEq, D.wtup.injEq, D.flst.injEq, D.ref.injEq, wipeD, Nat.reduceSub, Nat.reduceAdd, true_and, and_true, Bool.false_eq_true, if_false, if_true, exists_and_left, exists_and_right, exists_eq_left, reduceCtorEq, false_and, exists_false, or_false, false_or, exists_const, ite_true, ite_false, ↓reduceIte, Bool.not_true, Bool.not_false, Bool.true_eq_false, Nat.zero_eq, Nat.succ_eq_add_one, Nat.sub_self, Nat.sub_zero, Nat.reduceEqDiff]
  refine ⟨by omega, ?_⟩
  have mp : (updM (updM μ p (.lst (nI row))) q (.lst (nI mv))) p = some (.lst (nI row)) := by rw [updM_ne hpq, updM_same]
  have mq : (updM (updM μ p (.lst (nI row))) q (.lst (nI mv))) q = some (.lst (nI mv)) := updM_same
  generalize updM (updM μ p (.lst (nI row))) q (.lst (nI mv)) = μ1 at hE mp mq
  refine setD_i mp (by omega) (by omega) (setD_i updM_same (by omega) (by rw [List.length_set]; omega) ?_)
  rw [updM_updM]
  have mq1 : (updM μ1 p (.lst (nI (art n s row)))) q = some (.lst (nI mv)) := by rw [updM_ne (Ne.symm hpq)]; exact mq
  have mp1 : (updM μ1 p (.lst (nI (art n s row)))) p = some (.lst (nI (art n s row))) := updM_same
  have hE1 : Ex μ (updM μ1 p (.lst (nI (art n s row)))) := Ex.over hE hp
  show ixD (tI row) (.int s) (updM μ1 p (.lst (nI (art n s row)))) _
  generalize updM μ1 p (.lst (nI (art n s row))) = μ2 at mq1 mp1 hE1
  rw [ixD_t (atI_ints (by omega) (by omega))]
  simp only [Int.toNat_natCast]
  refine ix_i mq1 (by omega) (by omega) ?_
  simp only [bodySp, mSeq, mRet, mRetN, mExp, mOp, mUn, mVar, mC, mB, mCons, mNil, mSet, mPar, mPar3, mCall, mTest, mIfS, mIf, mAnd, mOr, mNot, mAndV, mOrV, mNotV, mChain, mNx, mPass, mAsg, gNm, gTp, gsCons, gsNil, mIt, mEnum, mR1, mR2, rk1, rk2, mTup, mLst, mYes, mAug, mSl, mPart, mNoPart, addD_i, addD_t, addD_r, addD_s, subD_i, mulD_i, mulD_r, divD_i, modD_i, powD_i, ltD_i, leD_i, gtD_i, geD_i, eqD_i, eqD_s, eqD_r, neD_i, neD_s, neD_r, isND, notND, negD_i, revD_t, revD_r, lenR_t, listR_t, tupR_t, mListRg, mTupRg, mRg1, mRg2, ipAdd, ipSub, List.map_cons, List.map_nil, List.length_cons, List.length_nil, List.replicate, List.cons_append, List.nil_append, List.append_nil, List.getElem?_cons_zero, List.getElem?_cons_succ, List.set_cons_zero, List.set_cons_succ, Option.some.injEq, exists_eq_left', List.cons.injEq, and_assoc, D.int.injEq, D.bl.injEq, D.str.injEq, D.tup.injEq, D.wtup.injEq, D.flst.injEq, D.ref.injEq, wipeD, Nat.reduceSub, Nat.reduceAdd, true_and, and_true, Bool.false_eq_true, if_false, if_true, exists_and_left, exists_and_right, exists_eq_left, reduceCtorEq, false_and, exists_false, or_false, false_or, exists_const, ite_true, ite_false, ↓reduceIte, Bool.not_true, Bool.not_false, Bool.true_eq_false, Nat.zero_eq, Nat.succ_eq_add_one, Nat.sub_self, Nat.sub_zero, Nat.reduceEqDiff]
  rw [ixD_t (atI_ints (by omega) (by omega))]
  simp only [Int.toNat_natCast]
  refine setD_i mq1 (by omega) (by omega) ?_
  rw [ixD_t (atI_ints (by omega) (by omega))]
  simp only [Int.toNat_natCast]
  refine ix_i updM_same (by omega) (by rw [List.length_set]; omega) ?_
  simp only [bodySp, mSeq, mRet, mRetN, mExp, mOp, mUn, mVar, mC, mB, mCons, mNil, mSet, mPar, mPar3, mCall, mTest, mIfS, mIf, mAnd, mOr, mNot, mAndV, mOrV, mNotV, mChain, mNx, mPass, mAsg, gNm, gTp, gsCons, gsNil, mIt, mEnum, mR1, mR2, rk1, rk2, mTup, mLst, mYes, mAug, mSl, mPart, mNoPart, addD_i, addD_t, addD_r, addD_s, subD_i, mulD_i, mulD_r, divD_i, modD_i, powD_i, ltD_i, leD_i, gtD_i, geD_i, eqD_i, eqD_s, eqD_r, neD_i, neD_s, neD_r, isND, notND, negD_i, revD_t, revD_r, lenR_t, listR_t, tupR_t, mListRg, mTupRg, mRg1, mRg2, ipAdd, ipSub, List.map_cons, List.map_nil, List.length_cons, List.length_nil, List.replicate, List.cons_append, List.nil_append, List.append_nil, List.getElem?_cons_zero, List.getElem?_cons_succ, List.set_cons_zero, List.set_cons_succ, Option.some.injEq, exists_eq_left', List.cons.injEq, and_assoc, D.int.injEq, D.bl.injEq, D.str.injEq, D.tup.injEq, D.wtup.injEq, D.flst.injEq, D.ref.injEq, wipeD, Nat.reduceSub, Nat.reduceAdd, true_and, and_true, Bool.false_eq_true, if_false, if_true, exists_and_left, exists_and_right, exists_eq_left, reduceCtorEq, false_and, exists_false, or_false, false_or, exists_const, ite_true, ite_false, ↓reduceIte, Bool.not_true, Bool.not_false, Bool.true_eq_false, Nat.zero_eq, Nat.succ_eq_add_one, Nat.sub_self, Nat.sub_zero, Nat.reduceEqDiff]
  rw [ixD_t (atI_ints (by omega) (by omega))]
  simp only [Int.toNat_natCast]
  refine setD_i updM_same (by omega) (by rw [List.length_set]; omega) ?_
  rw [updM_updM, getD_set (by omega), if_neg hab]
  simp only [tupR_r]
  refine ⟨_, .inl (by rw [updM_ne hpq]; exact mp1), _, .inl updM_same, by omega, ?_⟩
  exact h _ (Ex.over hE1 q0)
end Sw

set_option Elab.async false
set_option linter.all false
set_option maxRecDepth 100000
set_option maxHeartbeats 2000000
namespace Sw
open PySem PySem.Spec L2 DL RM
/-! ### the states that the swaps reach -/
inductive Rch (rs : List (List Int)) : List Int → List Int → Prop
  | start : Rch rs (iota rs.length) (List.replicate rs.length 0)
  | step {row mv : List Int} {s : Nat} : Rch rs row mv → s < rs.length → mayB rs row s = true → Rch rs (art rs.length s row) (mv1 rs.length s row mv)
def Iv (rs : List (List Int)) (row mv : List Int) : Prop := ∃ hl, WkS rs.length row mv hl ∧ ∀ p, p < rs.length → ∀ x ∈ hl.getD p [], Tk rs p (row.getD p 0) ≤ Tk rs p x
theorem mayB_iff {rs : List (List Int)} {row : List Int} {s : Nat} : mayB rs row s = true ↔ Tk rs s (row.getD (oth rs.length s) 0) < Tk rs s (row.getD s 0) ∧ Tk rs (oth rs.length s : Nat) (row.getD s 0) < Tk rs (oth rs.length s : Nat) (row.getD (oth rs.length s) 0) := by
  unfold mayB
  rw [Bool.and_eq_true, decide_eq_true_iff, decide_eq_true_iff]
theorem Iv.start {rs : List (List Int)} (h : 0 < rs.length) : Iv rs (iota rs.length) (List.replicate rs.length 0) := by
  refine ⟨_, WkS.start h, fun p hp x hx => ?_⟩
  rw [List.getD_eq_getElem?_getD, List.getElem?_eq_getElem (by simpa using hp)] at hx
  simp at hx
  subst hx
  rw [iota_get hp]; omega
section
variable {rs : List (List Int)} {row mv : List Int} {s : Nat}
theorem art_get {n : Nat} (hn : 2 ≤ n) (hs : s < n) (hr : Rk row n) (t : Nat) : (art n s row).getD t 0 = if oth n s = t then row.getD s 0 else if s = t then row.getD (oth n s) 0 else row.getD t 0 := by
  have ho := oth_lt (n := n) (s := s) (by omega)
  unfold art
  rw [getD_set (by rw [List.length_set, hr.len]; exact ho), getD_set (by rw [hr.len]; exact hs)]
theorem mv1_get {n : Nat} (hs : s < n) (hr : Rk row n) (hm : mv.length = n) (t : Nat) : (mv1 n s row mv).getD t 0 = if (row.getD (oth n s) 0).toNat = t then mv.getD (row.getD (oth n s) 0).toNat 0 - 1 else if (row.getD s 0).toNat = t then mv.getD (row.getD s 0).toNat 0 + 1 else mv.getD t 0 := by
  have ho := oth_lt (n := n) (s := s) (by omega)
  have a1 := hr.at hs
  have a2 := hr.at ho
  unfold mv1
  rw [getD_set (by rw [List.length_set]; omega), getD_set (by omega)]
theorem Iv.step (h : Iv rs row mv) (hn : 2 ≤ rs.length) (hs : s < rs.length) (hm : mayB rs row s = true) :
    Iv rs (art rs.length s row) (mv1 rs.length s row mv) ∧ 0 ≤ mv.getD (row.getD s 0).toNat 0 ∧ mv.getD (row.getD (oth rs.length s) 0).toNat 0 ≤ 0 := by
  obtain ⟨hl, W, hb⟩ := h
  obtain ⟨m1, m2⟩ := mayB_iff.mp hm
  generalize hN : rs.length = n at *
  have hp : (0 : Int) < n := by omega
  have ho := oth_lt (n := n) (s := s) (by omega)
  have hne := oth_ne hn hs
  have a1 := W.rk.at hs
  have a2 := W.rk.at ho
  have h3 : row.getD (oth n s) 0 ∉ hl.getD s [] := fun z => by have := hb s hs _ z; omega
  have h4 : row.getD s 0 ∉ hl.getD (oth n s) [] := fun z => by have := hb _ ho _ z; omega
  have oi := oth_int (n := n) (s := s)
  have stand : ∀ (t : Nat), t < n → ((((row.getD t 0).toNat : Nat) : Int) + mv.getD (row.getD t 0).toNat 0) % n = t := fun t ht => by
    have at_ := W.rk.at ht
    have b0 := Int.emod_nonneg ((((row.getD t 0).toNat : Nat) : Int) + mv.getD (row.getD t 0).toNat 0) (Int.ne_of_gt hp)
    have b1 := Int.emod_lt_of_pos ((((row.getD t 0).toNat : Nat) : Int) + mv.getD (row.getD t 0).toNat 0) hp
    have := W.rk.inj (i := (((((row.getD t 0).toNat : Nat) : Int) + mv.getD (row.getD t 0).toNat 0) % n).toNat) (j := t) (by omega) ht (by rw [W.pos _ (by omega)]; omega)
    omega
  have h1 : 0 ≤ mv.getD (row.getD s 0).toNat 0 := by
    rcases (show 0 ≤ mv.getD (row.getD s 0).toNat 0 ∨ mv.getD (row.getD s 0).toNat 0 ≤ -1 by omega) with z | z
    · exact z
    · exfalso
      have := W.held (row.getD s 0).toNat (by omega) (mv.getD (row.getD s 0).toNat 0 + 1) (.inr ⟨by omega, by omega⟩)
      have e : ((((row.getD s 0).toNat : Nat) : Int) + (mv.getD (row.getD s 0).toNat 0 + 1)) % n = (oth n s : Nat) := by
        have q := stand s hs
        rw [oi, emod_eq_iff]
        have g : (n : Int) ∣ ((((row.getD s 0).toNat : Nat) : Int) + mv.getD (row.getD s 0).toNat 0) - s := emod_eq_iff.mp (by rw [q, Int.emod_eq_of_lt (by omega) (by omega)])
        have : ((((row.getD s 0).toNat : Nat) : Int) + (mv.getD (row.getD s 0).toNat 0 + 1)) - (s + 1) = ((((row.getD s 0).toNat : Nat) : Int) + mv.getD (row.getD s 0).toNat 0) - s := by omega
        rw [this]; exact g
      rw [e, Int.toNat_natCast, Int.toNat_of_nonneg a1.1] at this
      exact h4 this
  have h2 : mv.getD (row.getD (oth n s) 0).toNat 0 ≤ 0 := by
    rcases (show mv.getD (row.getD (oth n s) 0).toNat 0 ≤ 0 ∨ 1 ≤ mv.getD (row.getD (oth n s) 0).toNat 0 by omega) with z | z
    · exact z
    · exfalso
      have := W.held (row.getD (oth n s) 0).toNat (by omega) (mv.getD (row.getD (oth n s) 0).toNat 0 - 1) (.inl ⟨by omega, by omega⟩)
      have e : ((((row.getD (oth n s) 0).toNat : Nat) : Int) + (mv.getD (row.getD (oth n s) 0).toNat 0 - 1)) % n = s := by
        have q := stand (oth n s) ho
        have e0 : ((s : Int)) % n = s := Int.emod_eq_of_lt (by omega) (by omega)
        rw [← e0, emod_eq_iff]
        have g : (n : Int) ∣ ((((row.getD (oth n s) 0).toNat : Nat) : Int) + mv.getD (row.getD (oth n s) 0).toNat 0) - ((s : Int) + 1) := emod_eq_iff.mp (by rw [q, oi])
        have : ((((row.getD (oth n s) 0).toNat : Nat) : Int) + (mv.getD (row.getD (oth n s) 0).toNat 0 - 1)) - s = ((((row.getD (oth n s) 0).toNat : Nat) : Int) + mv.getD (row.getD (oth n s) 0).toNat 0) - ((s : Int) + 1) := by omega
        rw [this]; exact g
      rw [e, Int.toNat_natCast, Int.toNat_of_nonneg a2.1] at this
      exact h3 this
  refine ⟨⟨hl1 n s row hl, by rw [hN]; exact W.step hn hs h1 h2 h3 h4, fun p hp' x hx => ?_⟩, h1, h2⟩
  rw [hN] at hp'
  rw [art_get hn hs W.rk]
  have hl0 := W.hlen
  unfold hl1 at hx
  rw [getD_setL (by rw [List.length_set]; omega), getD_setL (by omega)] at hx
  by_cases e1 : oth n s = p
  · subst e1
    rw [if_pos rfl] at hx ⊢
    rcases List.mem_append.mp hx with q | q
    · have := hb _ ho x q; omega
    · rw [List.mem_singleton.mp q]; omega
  · rw [if_neg e1] at hx ⊢
    by_cases e2 : s = p
    · subst e2
      rw [if_pos rfl] at hx ⊢
      rcases List.mem_append.mp hx with q | q
      · have := hb s hs x q; omega
      · rw [List.mem_singleton.mp q]; omega
    · rw [if_neg e2] at hx ⊢
      exact hb p hp' x hx
theorem Rch.iv (h : Rch rs row mv) (hn : 2 ≤ rs.length) : Iv rs row mv := by
  induction h with
  | start => exact Iv.start (by omega)
  | step _ hs hm ih => exact (ih.step hn hs hm).1
/-! ### what is left -/
def df (n : Nat) (fin mv : List Int) : List Int := (List.range n).map fun i => fin.getD i 0 - mv.getD i 0
theorem df_len {n : Nat} {fin mv : List Int} : (df n fin mv).length = n := by simp [df]
theorem df_get {n i : Nat} {fin mv : List Int} (h : i < n) : (df n fin mv).getD i 0 = fin.getD i 0 - mv.getD i 0 := by simp [df, h]
theorem ext_getD {l m : List Int} (h : l.length = m.length) (g : ∀ i, i < l.length → l.getD i 0 = m.getD i 0) : l = m := by
  refine List.ext_getElem h fun i h1 h2 => ?_
  have := g i h1
  rw [List.getD_eq_getElem?_getD, List.getD_eq_getElem?_getD, List.getElem?_eq_getElem h1, List.getElem?_eq_getElem h2] at this
  simpa using this
theorem rst_get {n : Nat} {rest arr : List Int} (hs : s < n) (rl : rest.length = n) (hr : Rk arr n) (t : Nat) : (rst n s rest arr).getD t 0 = if (arr.getD (oth n s) 0).toNat = t then rest.getD (arr.getD (oth n s) 0).toNat 0 + 1 else if (arr.getD s 0).toNat = t then rest.getD (arr.getD s 0).toNat 0 - 1 else rest.getD t 0 := by
  have ho := oth_lt (n := n) (s := s) (by omega)
  have a1 := hr.at hs
  have a2 := hr.at ho
  unfold rst
  rw [getD_set (by rw [List.length_set]; omega), getD_set (by omega)]
theorem df_mv1 {n : Nat} {fin : List Int} (hs : s < n) (hr : Rk row n) (hm : mv.length = n) : df n fin (mv1 n s row mv) = rst n s (df n fin mv) row := by
  have ho := oth_lt (n := n) (s := s) (by omega)
  have a1 := hr.at hs
  have a2 := hr.at ho
  refine ext_getD (by rw [df_len]; unfold rst; rw [List.length_set, List.length_set, df_len]) fun i hi => ?_
  rw [df_len] at hi
  rw [df_get hi, mv1_get hs hr hm, rst_get hs df_len hr, df_get (by omega), df_get (by omega), df_get hi]
  split
  · rename_i e; rw [← e]; omega
  · split
    · rename_i e; rw [← e]; omega
    · rfl
theorem df_rst {n : Nat} {d rest : List Int} (hs : s < n) (hr : Rk row n) (hm : rest.length = n) : df n d (rst n s rest row) = mv1 n s row (df n d rest) := by
  have ho := oth_lt (n := n) (s := s) (by omega)
  have a1 := hr.at hs
  have a2 := hr.at ho
  refine ext_getD (by rw [df_len]; unfold mv1; rw [List.length_set, List.length_set, df_len]) fun i hi => ?_
  rw [df_len] at hi
  rw [df_get hi, mv1_get hs hr df_len, rst_get hs hm hr, df_get (by omega), df_get (by omega), df_get hi]
  split
  · rename_i e; rw [← e]; omega
  · split
    · rename_i e; rw [← e]; omega
    · rfl
/-! ### ranks of what stands there -/
def U (rs : List (List Int)) (row : List Int) (p x : Int) : Int := Tk rs p (row.getD (x % rs.length).toNat 0)
theorem U_swap (hn : 2 ≤ rs.length) (hs : s < rs.length) (ar : Rk row rs.length) (p c : Int) : U rs (art rs.length s row) p (sw rs.length s c) = U rs row p c := by
  unfold U
  congr 1
  generalize rs.length = n at *
  have hp : (0 : Int) < n := by omega
  have ho := oth_lt (n := n) (s := s) (by omega)
  have hne := oth_ne hn hs
  have b0 := Int.emod_nonneg c (Int.ne_of_gt hp)
  have b1 := Int.emod_lt_of_pos c hp
  have hdiv : ∀ t : Nat, t < n → ((n : Int) ∣ c - t ↔ c % n = t) := fun t ht => by
    rw [← emod_eq_iff, Int.emod_eq_of_lt (a := (t : Int)) (by omega) (by omega)]
  have hoc : (n : Int) ∣ c - (s + 1) ↔ c % n = (oth n s : Nat) := by rw [← emod_eq_iff, oth_int]
  rw [art_get hn hs ar]
  rcases sw_cases n s c with ⟨h1, e⟩ | ⟨h1, h2, e⟩ | ⟨h1, h2, e⟩
  · have q := (hdiv s hs).mp h1
    have q2 : ((c + 1) % n).toNat = oth n s := by
      have h3 : (c + 1) % (n : Int) = ((s : Int) + 1) % n := emod_eq_iff.mpr (by rw [show c + 1 - ((s : Int) + 1) = c - s by omega]; exact h1)
      rw [h3, ← oth_int, Int.toNat_natCast]
    rw [e, q2, if_pos rfl, q, Int.toNat_natCast]
  · have q := hoc.mp h2
    have q2 : ((c - 1) % n).toNat = s := by
      have : (n : Int) ∣ (c - 1) - s := by rw [show c - 1 - (s : Int) = c - (s + 1) by omega]; exact h2
      have := emod_eq_iff.mpr this
      rw [this, Int.emod_eq_of_lt (by omega) (by omega)]; omega
    rw [e, q2, if_neg hne, if_pos rfl, q, Int.toNat_natCast]
  · have q1 : ¬ c % n = s := fun z => h1 ((hdiv s hs).mpr z)
    have q2 : ¬ c % n = (oth n s : Nat) := fun z => h2 (hoc.mpr z)
    rw [e, if_neg (by omega), if_neg (by omega)]
theorem U_n (p x k : Int) : U rs row p (x + k * rs.length) = U rs row p x := by unfold U; simp
theorem U_p (p x k : Int) : U rs row (p + k * rs.length) (x + k * rs.length) = U rs row p x := by
  rw [U_n]; unfold U Tk; simp
end
end Sw

set_option Elab.async false
set_option linter.all false
set_option maxRecDepth 100000
set_option maxHeartbeats 2000000
namespace Sw
open PySem PySem.Spec L2 DL RM
inductive Rt (rs : List (List Int)) (fin : List Int) : List Int → List Int → Prop
  | done {row : List Int} : Rt rs fin row fin
  | step {row mv : List Int} {s : Nat} : s < rs.length → mayB rs row s = true → Rt rs fin (art rs.length s row) (mv1 rs.length s row mv) → Rt rs fin row mv
section
variable {rs : List (List Int)} {row mv fin d : List Int} {s : Nat}
theorem Rch.rt (h : Rch rs row mv) : Rt rs fin row mv → Rt rs fin (iota rs.length) (List.replicate rs.length 0) := by
  induction h with
  | start => exact id
  | step _ hs hm ih => exact fun t => ih (.step hs hm t)
theorem swp_swp {n : Nat} {s : Int} (hn : 2 ≤ n) (F : Int → Int) : swp n s (swp n s F) = F := by
  funext c; unfold swp; rw [sw_sw hn]
theorem EA_at {n : Nat} {rest arr : List Int} (hs : s < n) : EA rest arr n s = s + rest.getD (arr.getD s 0).toNat 0 := by
  unfold EA; rw [Int.emod_eq_of_lt (by omega) (by omega), Int.toNat_natCast]
theorem EA_at1 {n : Nat} {rest arr : List Int} : EA rest arr n (s + 1) = s + 1 + rest.getD (arr.getD (oth n s) 0).toNat 0 := by
  unfold EA
  have : (((s : Int) + 1) % n).toNat = oth n s := by rw [← oth_int, Int.toNat_natCast]
  rw [this]
theorem U_s (hs : s < rs.length) (x : Nat) (hx : x < rs.length) : U rs row s x = Tk rs s (row.getD x 0) := by
  unfold U; rw [Int.emod_eq_of_lt (by omega) (by omega), Int.toNat_natCast]
theorem U_1 (p : Int) : U rs row p ((s : Int) + 1) = Tk rs p (row.getD (oth rs.length s) 0) := by
  unfold U
  have : (((s : Int) + 1) % rs.length).toNat = oth rs.length s := by rw [← oth_int, Int.toNat_natCast]
  rw [this]
theorem Tk_o (b : Int) : Tk rs (oth rs.length s : Nat) b = Tk rs ((s : Int) + 1) b := by rw [oth_int]; exact Tk_l _ _ _
theorem df_self {n : Nat} : ∀ t, (df n fin fin).getD t 0 = 0 := fun t => by
  by_cases h : t < n
  · rw [df_get h]; omega
  · rw [List.getD_eq_getElem?_getD, List.getElem?_eq_none (by rw [df_len]; omega)]; rfl
theorem EA_id {n : Nat} (r : ∀ t, (df n fin fin).getD t 0 = 0) : EA (df n fin fin) row n = fun c => c := by
  funext c; unfold EA; rw [r]; omega
theorem rg_id {n : Nat} (h : 0 < n) : Rg n fun c => c := by
  refine ⟨h, fun c => rfl, fun a b e => e, ?_⟩
  have : S (fun i => ((i : Int) - i)) n = S (fun _ => 0) n := S_congr fun i _ => by omega
  rw [this, S_zero]
/-- what a state that reaches its end says of it -/
theorem Rt.good (h : Rt rs fin row mv) (hn : 2 ≤ rs.length) : Iv rs row mv →
    ((∀ t, t < rs.length → 1 ≤ mv.getD t 0 → mv.getD t 0 ≤ fin.getD t 0) ∧ (∀ t, t < rs.length → mv.getD t 0 ≤ -1 → fin.getD t 0 ≤ mv.getD t 0)) ∧
    Rg rs.length (EA (df rs.length fin mv) row rs.length) ∧ ¬ Tri (EA (df rs.length fin mv) row rs.length) ∧ ¬ RefP (U rs row) (EA (df rs.length fin mv) row rs.length) := by
  induction h with
  | done =>
    intro _
    rw [EA_id df_self]
    refine ⟨⟨fun t _ _ => by omega, fun t _ _ => by omega⟩, rg_id (by omega), ?_, ?_⟩
    · rintro ⟨x, y, z, a, b⟩
      have q1 : x < y := a.1
      have q2 : y < x := a.2
      omega
    · rintro ⟨x, z, a, _⟩
      have q1 : x < z := a.1
      have q2 : z < x := a.2
      omega
  | @step row mv s hs hm _ ih =>
    intro hI
    obtain ⟨hI', p1, p2⟩ := hI.step hn hs hm
    obtain ⟨⟨g1, g2⟩, r', nt', nr'⟩ := ih hI'
    obtain ⟨hl, W, _⟩ := hI
    have ho := oth_lt (n := rs.length) (s := s) (by omega)
    have hne := oth_ne hn hs
    have a1 := W.rk.at hs
    have a2 := W.rk.at ho
    have hab : (row.getD s 0).toNat ≠ (row.getD (oth rs.length s) 0).toNat := fun e => hne (W.rk.inj ho hs e.symm)
    have mg := mv1_get hs W.rk W.ml
    have eF : EA (df rs.length fin (mv1 rs.length s row mv)) (art rs.length s row) rs.length = swp rs.length s (EA (df rs.length fin mv) row rs.length) := by
      rw [df_mv1 hs W.rk W.ml]
      exact EA_swap hn hs df_len W.rk
    have gA := g1 (row.getD s 0).toNat (by omega)
    rw [mg, if_neg (Ne.symm hab), if_pos rfl] at gA
    have gB := g2 (row.getD (oth rs.length s) 0).toNat (by omega)
    rw [mg, if_pos rfl] at gB
    have fA := gA (by omega)
    have fB := gB (by omega)
    have e0 := EA_at (rest := df rs.length fin mv) (arr := row) hs
    have e1 := EA_at1 (rest := df rs.length fin mv) (arr := row) (n := rs.length) (s := s)
    rw [df_get (by omega)] at e0 e1
    have h1 : (s : Int) < EA (df rs.length fin mv) row rs.length s := by omega
    have h2 : EA (df rs.length fin mv) row rs.length (s + 1) < s + 1 := by omega
    rw [eF] at r' nt' nr'
    have r : Rg rs.length (EA (df rs.length fin mv) row rs.length) := by
      have := r'.swp hn s hs
      rwa [swp_swp hn] at this
    have f0 := EA_at (rest := df rs.length fin (mv1 rs.length s row mv)) (arr := art rs.length s row) hs
    have f1 := EA_at1 (rest := df rs.length fin (mv1 rs.length s row mv)) (arr := art rs.length s row) (n := rs.length) (s := s)
    rw [art_get hn hs W.rk, if_neg hne, if_pos rfl, df_get (by omega), mg, if_pos rfl, eF] at f0
    rw [art_get hn hs W.rk, if_pos rfl, df_get (by omega), mg, if_neg (Ne.symm hab), if_pos rfl, eF] at f1
    have nt : ¬ Tri (EA (df rs.length fin mv) row rs.length) := by
      have := tri_back (s := s) r' nt' hn (by omega) (by omega)
      rwa [swp_swp hn] at this
    refine ⟨⟨fun t ht h => ?_, fun t ht h => ?_⟩, r, nt, fun q => nr' ?_⟩
    · by_cases eB : (row.getD (oth rs.length s) 0).toNat = t
      · rw [eB] at p2; omega
      · by_cases eA : (row.getD s 0).toNat = t
        · rw [eA] at fA; omega
        · have := g1 t ht
          rw [mg, if_neg eB, if_neg eA] at this
          exact this h
    · by_cases eB : (row.getD (oth rs.length s) 0).toNat = t
      · rw [eB] at fB; omega
      · by_cases eA : (row.getD s 0).toNat = t
        · rw [eA] at p1; omega
        · have := g2 t ht
          rw [mg, if_neg eB, if_neg eA] at this
          exact this h
    · obtain ⟨m1, m2⟩ := mayB_iff.mp hm
      refine refP_back r nt hn h1 h2 r' (U := U rs row) (U' := U rs (art rs.length s row)) (U_swap hn hs W.rk) (fun p x k => U_p p x k) ?_ ?_ (fun p x k => U_n p x k) q
      · rw [U_1, U_s hs s hs]; exact m1
      · rw [U_1, ← Tk_o]
        have : U rs row ((s : Int) + 1) s = Tk rs (oth rs.length s : Nat) (row.getD s 0) := by
          rw [Tk_o]; unfold U; rw [Int.emod_eq_of_lt (by omega) (by omega), Int.toNat_natCast]
        rw [this]; exact m2
theorem RefP_iota {E : Int → Int} (h : 0 < rs.length) : RefP (U rs (iota rs.length)) E ↔ Ref (Tk rs) E := by
  have e : U rs (iota rs.length) = Tk rs := by
    funext p x
    have hp : (0 : Int) < rs.length := by omega
    have b0 := Int.emod_nonneg x (Int.ne_of_gt hp)
    have b1 := Int.emod_lt_of_pos x hp
    unfold U
    rw [iota_get (by omega), Int.toNat_of_nonneg b0, Tk_r]
  rw [e]; rfl
/-- a place that is reached: no triple, no refusal -/
theorem Rch.good (h : Rch rs row d) (hn : 2 ≤ rs.length) : ¬ Tri (E d) ∧ ¬ Ref (Tk rs) (E d) := by
  have hI := h.iv hn
  obtain ⟨hl, W, _⟩ := hI
  have hd := W.ml
  have t := (h.rt (fin := d) .done).good hn (Iv.start (by omega))
  have e : df rs.length d (List.replicate rs.length 0) = d := ext_getD (by rw [df_len]; omega) fun i hi => by
    rw [df_len] at hi
    rw [df_get hi, getD_rep]; omega
  have e2 : EA d (iota rs.length) rs.length = E d := by rw [← hd]; exact EA_iota (by omega)
  rw [e, e2, RefP_iota (by omega)] at t
  exact t.2.2
theorem Tk_ne (hr : ∀ l ∈ rs, Rk l rs.length) {p a b : Int} (hn : 0 < rs.length) (ha : 0 ≤ a ∧ a < rs.length) (hb : 0 ≤ b ∧ b < rs.length) (h : a ≠ b) : Tk rs p a ≠ Tk rs p b := by
  have hp : (0 : Int) < rs.length := by omega
  have b0 := Int.emod_nonneg p (Int.ne_of_gt hp)
  have b1 := Int.emod_lt_of_pos p hp
  unfold Tk
  rw [Int.emod_eq_of_lt ha.1 ha.2, Int.emod_eq_of_lt hb.1 hb.2]
  have rk := hr _ (getD_memL (l := rs) (i := (p % rs.length).toNat) (d := []) (by omega))
  generalize rs.getD (p % rs.length).toNat [] = l at rk
  intro e
  have m1 := rk.mem ha.1 ha.2
  have m2 := rk.mem hb.1 hb.2
  have i1 := List.idxOf_lt_length_of_mem m1
  have i2 := List.idxOf_lt_length_of_mem m2
  have g1 := List.getElem_idxOf i1
  have g2 := List.getElem_idxOf i2
  have e' : l.idxOf a = l.idxOf b := by omega
  refine h ?_
  rw [← g1, ← g2]
  congr 1
/-- the program's own road -/
theorem Pth.rch {fs rest arr : List Int} (h : Pth d.length d fs rest arr) (hr : ∀ l ∈ rs, Rk l rs.length) (hl : rs.length = d.length) (V : Vd d) (nt : ¬ Tri (E d)) (nr : ¬ Ref (Tk rs) (E d)) :
    Rch rs arr (df d.length d rest) ∧ Sq d.length rest arr ∧ ¬ RefP (U rs arr) (EA rest arr d.length) := by
  have h3 := V.l3
  induction h with
  | nil =>
    refine ⟨?_, V.sq nt, ?_⟩
    · have e : df d.length d d = List.replicate rs.length 0 := ext_getD (by rw [df_len]; simp [hl]) fun i hi => by rw [df_self, getD_rep]
      rw [e, ← hl]; exact .start
    · rw [EA_iota (by omega), ← hl, RefP_iota (by omega)]; exact nr
  | @snoc fs rest arr s hp hs g1 g2 ih =>
    obtain ⟨hR, hS, hP⟩ := ih
    have ho := oth_lt (n := d.length) (s := s) (by omega)
    have hne := oth_ne (n := d.length) (by omega) hs
    have a1 := hS.ar.at hs
    have a2 := hS.ar.at ho
    have hne2 : arr.getD s 0 ≠ arr.getD (oth d.length s) 0 := fun e => hne (hS.ar.inj ho hs (by rw [e]))
    have e0 := EA_at (rest := rest) (arr := arr) hs
    have e1 := EA_at1 (rest := rest) (arr := arr) (n := d.length) (s := s)
    have h1 : (s : Int) < EA rest arr d.length s := by omega
    have h2 : EA rest arr d.length (s + 1) < s + 1 := by omega
    have hst := hS.step (by omega) hs g1 g2
    have eF := EA_swap (rest := rest) (arr := arr) (n := d.length) (s := s) (by omega) hs hS.rl hS.ar
    have hm : mayB rs arr s = true := by
      have key : ¬ (U rs arr s s < U rs arr s (s + 1) ∨ U rs arr (s + 1) (s + 1) < U rs arr (s + 1) s) := fun q => hP ⟨s, s + 1, ⟨by omega, by omega⟩, by
        have e : plc (EA rest arr d.length) s (s + 1) = s := by
          unfold plc lf
          rw [show ((s : Int) + 1 - (s + 1)).toNat = 0 by omega]
          show (s : Int) + 0 = s
          omega
        rw [e]; exact q⟩
      have u1 : U rs arr s s = Tk rs s (arr.getD s 0) := U_s (by omega) s (by omega)
      have u2 : U rs arr ((s : Int) + 1) s = Tk rs ((s : Int) + 1) (arr.getD s 0) := by unfold U; rw [Int.emod_eq_of_lt (by omega) (by omega), Int.toNat_natCast]
      rw [U_1, U_1, u1, u2] at key
      rw [mayB_iff]
      rw [Tk_o, Tk_o]
      rw [hl] at key ⊢
      have n1 := Tk_ne hr (p := s) (by omega) (a := arr.getD s 0) (b := arr.getD (oth d.length s) 0) (by omega) (by omega) hne2
      have n2 := Tk_ne hr (p := (s : Int) + 1) (by omega) (a := arr.getD s 0) (b := arr.getD (oth d.length s) 0) (by omega) (by omega) hne2
      omega
    refine ⟨?_, hst.1, ?_⟩
    · rw [df_rst hs hS.ar hS.rl]
      have := Rch.step hR (by omega : s < rs.length) hm
      rwa [hl] at this
    · rw [eF]
      intro q
      have r' := hS.rg.swp (s := s) (by omega) hs
      refine hP (refP_fwd hS.rg hS.nt (by omega) h1 h2 r' (U := U rs arr) (U' := U rs (art d.length s arr)) (fun p x => ?_) q)
      have := U_swap (rs := rs) (row := arr) (s := s) (by omega) (by omega) (by rw [hl]; exact hS.ar) p x
      rw [hl] at this
      exact this
end
end Sw

set_option Elab.async false
set_option linter.all false
set_option maxRecDepth 100000
set_option maxHeartbeats 2000000
namespace Sw
open PySem PySem.Spec L2 DL RM
theorem mulD_t {xs : List D} {k : Int} {μ : Mu} {R : DK} : mulD (.tup xs) (.int k) μ R = (xs ≠ [] ∧ 2 ≤ k ∧ k ≤ 1000 ∧ xs.length ≤ 1000 ∧ R (.tup (List.replicate k.toNat xs).flatten) μ) := rfl
section
variable {rs : List (List Int)} {d : List Int}
theorem Pth.may {fs rest arr : List Int} {s : Nat} (h : Pth d.length d fs rest arr) (hr : ∀ l ∈ rs, Rk l rs.length) (hl : rs.length = d.length) (V : Vd d) (nt : ¬ Tri (E d)) (nr : ¬ Ref (Tk rs) (E d))
    (hs : s < d.length) (g1 : 0 < rest.getD (arr.getD s 0).toNat 0) (g2 : rest.getD (arr.getD (oth d.length s) 0).toNat 0 < 0) : mayB rs arr s = true := by
  have h3 := V.l3
  obtain ⟨hR, hS, hP⟩ := h.rch hr hl V nt nr
  have ho := oth_lt (n := d.length) (s := s) (by omega)
  have hne := oth_ne (n := d.length) (by omega) hs
  have a1 := hS.ar.at hs
  have a2 := hS.ar.at ho
  have hne2 : arr.getD s 0 ≠ arr.getD (oth d.length s) 0 := fun e => hne (hS.ar.inj ho hs (by rw [e]))
  have e0 := EA_at (rest := rest) (arr := arr) hs
  have e1 := EA_at1 (rest := rest) (arr := arr) (n := d.length) (s := s)
  have key : ¬ (U rs arr s s < U rs arr s (s + 1) ∨ U rs arr (s + 1) (s + 1) < U rs arr (s + 1) s) := fun q => hP ⟨s, s + 1, ⟨by omega, by omega⟩, by
    have e : plc (EA rest arr d.length) s (s + 1) = s := by
      unfold plc lf
      rw [show ((s : Int) + 1 - (s + 1)).toNat = 0 by omega]
      show (s : Int) + 0 = s
      omega
    rw [e]; exact q⟩
  have u1 : U rs arr s s = Tk rs s (arr.getD s 0) := U_s (by omega) s (by omega)
  have u2 : U rs arr ((s : Int) + 1) s = Tk rs ((s : Int) + 1) (arr.getD s 0) := by unfold U; rw [Int.emod_eq_of_lt (by omega) (by omega), Int.toNat_natCast]
  rw [U_1, U_1, u1, u2] at key
  rw [mayB_iff]
  rw [Tk_o, Tk_o]
  rw [hl] at key ⊢
  have n1 := Tk_ne hr (p := s) (by omega) (a := arr.getD s 0) (b := arr.getD (oth d.length s) 0) (by omega) (by omega) hne2
  have n2 := Tk_ne hr (p := (s : Int) + 1) (by omega) (a := arr.getD s 0) (b := arr.getD (oth d.length s) 0) (by omega) (by omega) hne2
  omega
def stF (n : Nat) (d fs : List Int) : List Int × List Int := fs.foldl (fun p x => (rst n x.toNat p.1 p.2, art n x.toNat p.2)) (d, iota n)
theorem Pth.st {n : Nat} {fs rest arr : List Int} (h : Pth n d fs rest arr) : stF n d fs = (rest, arr) := by
  induction h with
  | nil => rfl
  | snoc _ _ _ _ ih => unfold stF at ih ⊢; rw [List.foldl_append, ih]; rfl
theorem Pth.pre {n : Nat} {fs rest arr : List Int} (h : Pth n d fs rest arr) : ∀ k, k < fs.length → ∃ s : Nat, s < n ∧ fs[k]? = some (s : Int) ∧ Pth n d (fs.take k) (stF n d (fs.take k)).1 (stF n d (fs.take k)).2 ∧
    0 < (stF n d (fs.take k)).1.getD ((stF n d (fs.take k)).2.getD s 0).toNat 0 ∧ (stF n d (fs.take k)).1.getD ((stF n d (fs.take k)).2.getD (oth n s) 0).toNat 0 < 0 := by
  induction h with
  | nil => intro k hk; exact absurd hk (Nat.not_lt_zero _)
  | @snoc fs rest arr s hp hs g1 g2 ih =>
    intro k hk
    rcases Nat.lt_or_ge k fs.length with z | z
    · have := ih k z
      rw [List.take_append_of_le_length (by omega), List.getElem?_append_left z]
      exact this
    · have : k = fs.length := by rw [List.length_append] at hk; simp at hk; omega
      subst this
      refine ⟨s, hs, by simp, ?_⟩
      rw [List.take_left, hp.st]
      exact ⟨hp, g1, g2⟩
def sp_law_ring_run : DSp := fun ds μ RX R => ∃ (rs : List (List Int)) (d s : List Int), ds = [.tup (rs.map tI), tI s] ∧ ((∀ l ∈ rs, Rk l rs.length) ∧ rs.length = d.length ∧ Vd d ∧ ¬ Tri (E d) ∧ ¬ Ref (Tk rs) (E d) ∧ EndP d s) ∧ ∀ μ', Ex μ μ' → R (tI d) μ'
def t_law_ring_run : DS :=
  (mSeq (mSet 2 (mB lenR (mCons (mVar 0) mNil)))
  (mSeq (mPar 3 4 (mCons (mTupRg (mRg1 (mVar 2))) (mCons (mOp mulD (mTup (mCons (mC (.int 0)) mNil)) (mVar 2)) mNil)))
  (mSeq (mIfS (mNot (mTest (mB isiR (mCons (mVar 1) (mCons (mC (.ty "tuple")) mNil)))))
  (mRet (mC .non))
  mNx)
  (mSeq (mFor (mIt (mVar 1)) (gNm 5)
  (mSeq (mIfS (mOr (mNot (mTest (mB isiR (mCons (mVar 5) (mCons (mC (.ty "int")) mNil))))) (mOr (mTest (mB isiR (mCons (mVar 5) (mCons (mC (.ty "bool")) mNil)))) (mOr (mNot (mTest (mChain leD ltD (mC (.int 0)) (mVar 5) (mVar 2)))) (mNot (mTest (mCall sp_law_ring_may [] (mCons (mVar 0) (mCons (mVar 3) (mCons (mVar 5) mNil)))))))))
  (mRet (mC .non))
  mNx)
  (mAsg (mCall sp_law_ring_after [] (mCons (mVar 3) (mCons (mVar 4) (mCons (mVar 5) mNil)))) (gTp 2 (gsCons (gNm 3) (gsCons (gNm 4) gsNil))))))
  (mRet (mVar 4))))))
abbrev N_law_ring_run : List Str := ["_law_lists", "_law_road", "_law_many", "_law_row", "_law_moves", "_law_at"]
abbrev P_law_ring_run : List Str := ["_law_lists", "_law_road"]
theorem law_law_ring_run : ∀ ds μ RX R, sp_law_ring_run ds μ RX R → bodySp P_law_ring_run.length N_law_ring_run.length t_law_ring_run ds μ RX R := by
  rintro _ μ RX R ⟨rs, d, s, rfl, ⟨hr, hl, V, nt, nr, rest, arr, hp, hz⟩, h⟩
  refine ⟨rfl, ?_⟩
  have h3 := V.l3
  have h20 := V.l20
  simp only [t_law_ring_run, mFor, bodySp, mSeq, mRet, mRetN, mExp, mOp, mUn, mVar, mC, mB, mCons, mNil, mSet, mPar, mPar3, mCall, mTest, mIfS, mIf, mAnd, mOr, mNot, mAndV, mOrV, mNotV, mChain, mNx, mPass, mAsg, gNm, gTp, gsCons, gsNil, mIt, mEnum, mR1, mR2, rk1, rk2, mTup, mLst, mYes, mAug, mSl, mPart, mNoPart, addD_i, addD_t, addD_r, addD_s, subD_i, mulD_i, mulD_r, divD_i, modD_i, powD_i, ltD_i, leD_i, gtD_i, geD_i, eqD_i, eqD_s, eqD_r, neD_i, neD_s, neD_r, isND, notND, negD_i, revD_t, revD_r, lenR_t, listR_t, tupR_t, mListRg, mTupRg, mRg1, mRg2, ipAdd, ipSub, List.map_cons, List.map_nil, List.length_cons, List.length_nil, List.replicate, List.cons_append, List.nil_append, List.append_nil, List.getElem?_cons_zero, List.getElem?_cons_succ, List.set_cons_zero, List.set_cons_succ, Option.some.injEq, exists_eq_left', List.cons.injEq, and_assoc, D.int.injEq, D.bl.injEq, D.str.injEq, D.tup.injEq, D.wtup.injEq, D.flst.injEq, D.ref.injEq, wipeD, Nat.reduceSub, Nat.reduceAdd, true_and, and_true, Bool.false_eq_true, if_false, if_true, exists_and_left, exists_and_right, exists_eq_left, reduceCtorEq, false_and, exists_false, or_false, false_or, exists_const, ite_true, ite_false, ↓reduceIte, Bool.not_true, Bool.not_false, Bool.true_eq_false, Nat.zero_eq, Nat.succ_eq_add_one, Nat.sub_self, Nat.sub_zero, Nat.reduceEqDiff, mulD_t]
  rw [List.length_map, hl]
  refine ⟨RgOk.of_le (by omega) (by omega) (by omega) (by omega), by have := sizeLine_big; omega, by simp, by omega, by omega, by omega, ?_⟩
  refine isiR_t (n := "tuple") (by simp) ?_
  simp only [show isB "tuple" "tuple" = true from rfl, bodySp, mSeq, mRet, mRetN, mExp, mOp, mUn, mVar, mC, mB, mCons, mNil, mSet, mPar, mPar3, mCall, mTest, mIfS, mIf, mAnd, mOr, mNot, mAndV, mOrV, mNotV, mChain, mNx, mPass, mAsg, gNm, gTp, gsCons, gsNil, mIt, mEnum, mR1, mR2, rk1, rk2, mTup, mLst, mYes, mAug, mSl, mPart, mNoPart, addD_i, addD_t, addD_r, addD_s, subD_i, mulD_i, mulD_r, divD_i, modD_i, powD_i, ltD_i, leD_i, gtD_i, geD_i, eqD_i, eqD_s, eqD_r, neD_i, neD_s, neD_r, isND, notND, negD_i, revD_t, revD_r, lenR_t, listR_t, tupR_t, mListRg, mTupRg, mRg1, mRg2, ipAdd, ipSub, List.map_cons, List.map_nil, List.length_cons, List.length_nil, List.replicate, List.cons_append, List.nil_append, List.append_nil, List.getElem?_cons_zero, List.getElem?_cons_succ, List.set_cons_zero, List.set_cons_succ, Option.some.injEq, exists_eq_left', List.cons.injEq, and_assoc, D.int.injEq, D.bl.injEq, D.str.injEq, D.tup.injEq, D.wtup.injEq, D.flst.injEq, D.ref.injEq, wipeD, Nat.reduceSub, Nat.reduceAdd, true_and, and_true, Bool.false_eq_true, if_false, if_true, exists_and_left, exists_and_right, exists_eq_left, reduceCtorEq, false_and, exists_false, or_false, false_or, exists_const, ite_true, ite_false, ↓reduceIte, Bool.not_true, Bool.not_false, Bool.true_eq_false, Nat.zero_eq, Nat.succ_eq_add_one, Nat.sub_self, Nat.sub_zero, Nat.reduceEqDiff]
  have e0 : (List.replicate (d.length : Int).toNat [D.int 0]).flatten = nI (df d.length d d) := by
    rw [Int.toNat_natCast, rep_flat]
    congr 1
    exact ext_getD (by simp [df_len]) fun i _ => by rw [getD_rep, df_self]
  have e1 : rgD 0 (d.length : Int) = nI (iota d.length) := by rw [rgD_ints]; unfold iota; simp
  rw [e0, e1]
  refine forD_ix _ (fun k δ μ' => ∃ o5, δ = [some (.tup (rs.map tI)), some (tI s), some (.int d.length), some (tI (stF d.length d (s.take k)).2), some (tI (df d.length d (stF d.length d (s.take k)).1)), o5] ∧ Ex μ μ') (fun _ _ _ _ => trivial) ?_ ?_ _ _ ⟨_, rfl, Ex.refl⟩
  · rintro _ μ' ⟨o5, rfl, hE⟩
    simp only [bodySp, mSeq, mRet, mRetN, mExp, mOp, mUn, mVar, mC, mB, mCons, mNil, mSet, mPar, mPar3, mCall, mTest, mIfS, mIf, mAnd, mOr, mNot, mAndV, mOrV, mNotV, mChain, mNx, mPass, mAsg, gNm, gTp, gsCons, gsNil, mIt, mEnum, mR1, mR2, rk1, rk2, mTup, mLst, mYes, mAug, mSl, mPart, mNoPart, addD_i, addD_t, addD_r, addD_s, subD_i, mulD_i, mulD_r, divD_i, modD_i, powD_i, ltD_i, leD_i, gtD_i, geD_i, eqD_i, eqD_s, eqD_r, neD_i, neD_s, neD_r, isND, notND, negD_i, revD_t, revD_r, lenR_t, listR_t, tupR_t, mListRg, mTupRg, mRg1, mRg2, ipAdd, ipSub, List.map_cons, List.map_nil, List.length_cons, List.length_nil, List.replicate, List.cons_append, List.nil_append, List.append_nil, List.getElem?_cons_zero, List.getElem?_cons_succ, List.set_cons_zero, List.set_cons_succ, Option.some.injEq, exists_eq_left', List.cons.injEq, and_assoc, D.int.injEq, D.bl.injEq, D.str.injEq, D.tup.injEq, D.wtup.injEq, D.flst.injEq, D.ref.injEq, wipeD, Nat.reduceSub, Nat.reduceAdd, true_and, and_true, Bool.false_eq_true, if_false, if_true, exists_and_left, exists_and_right, exists_eq_left, reduceCtorEq, false_and, exists_false, or_false, false_or, exists_const, ite_true, ite_false, ↓reduceIte, Bool.not_true, Bool.not_false, Bool.true_eq_false, Nat.zero_eq, Nat.succ_eq_add_one, Nat.sub_self, Nat.sub_zero, Nat.reduceEqDiff]
    rw [nI_len, List.take_length, hp.st]
    have : df d.length d rest = d := ext_getD (by rw [df_len]) fun i hi => by
      rw [df_len] at hi
      rw [df_get hi]
      have hrl := (hp.rch hr hl V nt nr).2.1.rl
      have := hz _ (getD_mem (l := rest) (i := i) (by omega))
      omega
    rw [this]
    exact h μ' hE
  · rintro k x _ μ' N hx hN ⟨o5, rfl, hE⟩
    have hk : k < s.length := by
      rcases Nat.lt_or_ge k s.length with z | z
      · exact z
      · rw [List.getElem?_eq_none (by rw [nI_len]; exact z)] at hx; cases hx
    obtain ⟨t, ht, et, hpk, g1, g2⟩ := hp.pre k hk
    rw [List.getElem?_map, et] at hx
    cases hx
    have hm := hpk.may hr hl V nt nr ht g1 g2
    obtain ⟨hR, hS, _⟩ := hpk.rch hr hl V nt nr
    have est : stF d.length d (s.take (k + 1)) = (rst d.length t (stF d.length d (s.take k)).1 (stF d.length d (s.take k)).2, art d.length t (stF d.length d (s.take k)).2) := by
      rw [List.take_add_one, et]
      unfold stF
      rw [Option.toList_some, List.foldl_append]; rfl
    simp only [bodySp, mSeq, mRet, mRetN, mExp, mOp, mUn, mVar, mC, mB, mCons, mNil, mSet, mPar, mPar3, mCall, mTest, mIfS, mIf, mAnd, mOr, mNot, mAndV, mOrV, mNotV, mChain, mNx, mPass, mAsg, gNm, gTp, gsCons, gsNil, mIt, mEnum, mR1, mR2, rk1, rk2, mTup, mLst, mYes, mAug, mSl, mPart, mNoPart, addD_i, addD_t, addD_r, addD_s, subD_i, mulD_i, mulD_r, divD_i, modD_i, powD_i, ltD_i, leD_i, gtD_i, geD_i, eqD_i, eqD_s, eqD_r, neD_i, neD_s, neD_r, isND, notND, negD_i, revD_t, revD_r, lenR_t, listR_t, tupR_t, mListRg, mTupRg, mRg1, mRg2, ipAdd, ipSub, List.map_cons, List.map_nil, List.length_cons, List.length_nil, List.replicate, List.cons_append, List.nil_append, List.append_nil, List.getElem?_cons_zero, List.getElem?_cons_succ, List.set_cons_zero, List.set_cons_succ, Option.some.injEq, exists_eq_left', List.cons.injEq, and_assoc, D.int.injEq, D.bl.injEq, D.str.injEq, D.tup.injEq, D.wtup.injEq, D.flst.injEq, D.ref.injEq, wipeD, Nat.reduceSub, Nat.reduceAdd, true_and, and_true, Bool.false_eq_true, if_false, if_true, exists_and_left, exists_and_right, exists_eq_left, reduceCtorEq, false_and, exists_false, or_false, false_or, exists_const, ite_true, ite_false, ↓reduceIte, Bool.not_true, Bool.not_false, Bool.true_eq_false, Nat.zero_eq, Nat.succ_eq_add_one, Nat.sub_self, Nat.sub_zero, Nat.reduceEqDiff]
    refine isiR_i (n := "int") (by simp) ?_
    simp only [show isB "int" "int" = true from rfl, bodySp, mSeq, mRet, mRetN, mExp, mOp, mUn, mVar, mC, mB, mCons, mNil, mSet, mPar, mPar3, mCall, mTest, mIfS, mIf, mAnd, mOr, mNot, mAndV, mOrV, mNotV, mChain, mNx, mPass, mAsg, gNm, gTp, gsCons, gsNil, mIt, mEnum, mR1, mR2, rk1, rk2, mTup, mLst, mYes, mAug, mSl, mPart, mNoPart, addD_i, addD_t, addD_r, addD_s, subD_i, mulD_i, mulD_r, divD_i, modD_i, powD_i, ltD_i, leD_i, gtD_i, geD_i, eqD_i, eqD_s, eqD_r, neD_i, neD_s, neD_r, isND, notND, negD_i, revD_t, revD_r, lenR_t, listR_t, tupR_t, mListRg, mTupRg, mRg1, mRg2, ipAdd, ipSub, List.map_cons, List.map_nil, List.length_cons, List.length_nil, List.replicate, List.cons_append, List.nil_append, List.append_nil, List.getElem?_cons_zero, List.getElem?_cons_succ, List.set_cons_zero, List.set_cons_succ, Option.some.injEq, exists_eq_left', List.cons.injEq, and_assoc, D.int.injEq, D.bl.injEq, D.str.injEq, D.tup.injEq, D.wtup.injEq, D.flst.injEq, D.ref.injEq, wipeD, Nat.reduceSub, Nat.reduceAdd, true_and, and_true, Bool.false_eq_true, if_false, if_true, exists_and_left, exists_and_right, exists_eq_left, reduceCtorEq, false_and, exists_false, or_false, false_or, exists_const, ite_true, ite_false, ↓reduceIte, Bool.not_true, Bool.not_false, Bool.true_eq_false, Nat.zero_eq, Nat.succ_eq_add_one, Nat.sub_self, Nat.sub_zero, Nat.reduceEqDiff]
    refine isiR_i (n := "bool") (by simp) ?_
    simp only [show isB "int" "bool" = false from rfl, bodySp, mSeq, mRet, mRetN, mExp, mOp, mUn, mVar, mC, mB, mCons, mNil, mSet, mPar, mPar3, mCall, mTest, mIfS, mIf, mAnd, mOr, mNot, mAndV, mOrV, mNotV, mChain, mNx, mPass, mAsg, gNm, gTp, gsCons, gsNil, mIt, mEnum, mR1, mR2, rk1, rk2, mTup, mLst, mYes, mAug, mSl, mPart, mNoPart, addD_i, addD_t, addD_r, addD_s, subD_i, mulD_i, mulD_r, divD_i, modD_i, powD_i, ltD_i, leD_i, gtD_i, geD_i, eqD_i, eqD_s, eqD_r, neD_i, neD_s, neD_r, isND, notND, negD_i, revD_t, revD_r, lenR_t, listR_t, tupR_t, mListRg, mTupRg, mRg1, mRg2, ipAdd, ipSub, List.map_cons, List.map_nil, List.length_cons, List.length_nil, List.replicate, List.cons_append, List.nil_append, List.append_nil, List.getElem?_cons_zero, List.getElem?_cons_succ, List.set_cons_zero, List.set_cons_succ, Option.some.injEq, exists_eq_left', List.cons.injEq, and_assoc, D.int.injEq, D.bl.injEq, D.str.injEq, D.tup.injEq, D.wtup.injEq, D.flst.injEq, D.ref.injEq, wipeD, Nat.reduceSub, Nat.reduceAdd, true_and, and_true, Bool.false_eq_true, if_false, if_true, exists_and_left, exists_and_right, exists_eq_left, reduceCtorEq, false_and, exists_false, or_false, false_or, exists_const, ite_true, ite_false, ↓reduceIte, Bool.not_true, Bool.not_false, Bool.true_eq_false, Nat.zero_eq, Nat.succ_eq_add_one, Nat.sub_self, Nat.sub_zero, Nat.reduceEqDiff]
    rw [decide_eq_true (show (0 : Int) ≤ (t : Int) by omega)]
    simp only [bodySp, mSeq, mRet, mRetN, mExp, mOp, mUn, mVar, mC, mB, mCons, mNil, mSet, mPar, mPar3, mCall, mTest, mIfS, mIf, mAnd, mOr, mNot, mAndV, mOrV, mNotV, mChain, mNx, mPass, mAsg, gNm, gTp, gsCons, gsNil, mIt, mEnum, mR1, mR2, rk1, rk2, mTup, mLst, mYes, mAug, mSl, mPart, mNoPart, addD_i, addD_t, addD_r, addD_s, subD_i, mulD_i, mulD_r, divD_i, modD_i, powD_i, ltD_i, leD_i, gtD_i, geD_i, eqD_i, eqD_s, eqD_r, neD_i, neD_s, neD_r, isND, notND, negD_i, revD_t, revD_r, lenR_t, listR_t, tupR_t, mListRg, mTupRg, mRg1, mRg2, ipAdd, ipSub, List.map_cons, List.map_nil, List.length_cons, List.length_nil, List.replicate, List.cons_append, List.nil_append, List.append_nil, List.getElem?_cons_zero, List.getElem?_cons_succ, List.set_cons_zero, List.set_cons_succ, Option.some.injEq, exists_eq_left', List.cons.injEq, and_assoc, D.int.injEq, D.bl.injEq, D.str.injEq, D.tup.injEq, D.wtup.injEq, D.flst.injEq, D.ref.injEq, wipeD, Nat.reduceSub, Nat.reduceAdd, true_and, and_true, Bool.false_eq_true, if_false, if_true, exists_and_left, exists_and_right, exists_eq_left, reduceCtorEq, false_and, exists_false, or_false, false_or, exists_const, ite_true, ite_false, ↓reduceIte, Bool.not_true, Bool.not_false, Bool.true_eq_false, Nat.zero_eq, Nat.succ_eq_add_one, Nat.sub_self, Nat.sub_zero, Nat.reduceEqDiff]
    rw [decide_eq_true (show (t : Int) < (d.length : Int) by omega)]
    simp only [bodySp, mSeq, mRet, mRetN, mExp, mOp, mUn, mVar, mC, mB, mCons, mNil, mSet, mPar, mPar3, mCall, mTest, mIfS, mIf, mAnd, mOr, mNot, mAndV, mOrV, mNotV, mChain, mNx, mPass, mAsg, gNm, gTp, gsCons, gsNil, mIt, mEnum, mR1, mR2, rk1, rk2, mTup, mLst, mYes, mAug, mSl, mPart, mNoPart, addD_i, addD_t, addD_r, addD_s, subD_i, mulD_i, mulD_r, divD_i, modD_i, powD_i, ltD_i, leD_i, gtD_i, geD_i, eqD_i, eqD_s, eqD_r, neD_i, neD_s, neD_r, isND, notND, negD_i, revD_t, revD_r, lenR_t, listR_t, tupR_t, mListRg, mTupRg, mRg1, mRg2, ipAdd, ipSub, List.map_cons, List.map_nil, List.length_cons, List.length_nil, List.replicate, List.cons_append, List.nil_append, List.append_nil, List.getElem?_cons_zero, List.getElem?_cons_succ, List.set_cons_zero, List.set_cons_succ, Option.some.injEq, exists_eq_left', List.cons.injEq, and_assoc, D.int.injEq, D.bl.injEq, D.str.injEq, D.tup.injEq, D.wtup.injEq, D.flst.injEq, D.ref.injEq, wipeD, Nat.reduceSub, Nat.reduceAdd, true_and, and_true, Bool.false_eq_true, if_false, if_true, exists_and_left, exists_and_right, exists_eq_left, reduceCtorEq, false_and, exists_false, or_false, false_or, exists_const, ite_true, ite_false, ↓reduceIte, Bool.not_true, Bool.not_false, Bool.true_eq_false, Nat.zero_eq, Nat.succ_eq_add_one, Nat.sub_self, Nat.sub_zero, Nat.reduceEqDiff]
    refine ⟨rs, _, t, rfl, ⟨hr, by rw [hl]; exact hS.ar, by omega⟩, ?_⟩
    rw [hm]
    simp only [bodySp, mSeq, mRet, mRetN, mExp, mOp, mUn, mVar, mC, mB, mCons, mNil, mSet, mPar, mPar3, mCall, mTest, mIfS, mIf, mAnd, mOr, mNot, mAndV, mOrV, mNotV, mChain, mNx, mPass, mAsg, gNm, gTp, gsCons, gsNil, mIt, mEnum, mR1, mR2, rk1, rk2, mTup, mLst, mYes, mAug, mSl, mPart, mNoPart, addD_i, addD_t, addD_r, addD_s, subD_i, mulD_i, mulD_r, divD_i, modD_i, powD_i, ltD_i, leD_i, gtD_i, geD_i, eqD_i, eqD_s, eqD_r, neD_i, neD_s, neD_r, isND, notND, negD_i, revD_t, revD_r, lenR_t, listR_t, tupR_t, mListRg, mTupRg, mRg1, mRg2, ipAdd, ipSub, List.map_cons, List.map_nil, List.length_cons, List.length_nil, List.replicate, List.cons_append, List.nil_append, List.append_nil, List.getElem?_cons_zero, List.getElem?_cons_succ, List.set_cons_zero, List.set_cons_succ, Option.some.injEq, exists_eq_left', List.cons.injEq, and_assoc, D.int.injEq, D.bl.injEq, D.str.injEq, D.tup.injEq, D.wtup.injEq, D.flst.injEq, D.ref.injEq, wipeD, Nat.reduceSub, Nat.reduceAdd, true_and, and_true, Bool.false_eq_true, if_false, if_true, exists_and_left, exists_and_right, exists_eq_left, reduceCtorEq, false_and, exists_false, or_false, false_or, exists_const, ite_true, ite_false, ↓reduceIte, Bool.not_true, Bool.not_false, Bool.true_eq_false, Nat.zero_eq, Nat.succ_eq_add_one, Nat.sub_self, Nat.sub_zero, Nat.reduceEqDiff]
    refine ⟨d.length, _, _, t, rfl, ⟨by omega, by omega, hS.ar, df_len, ht⟩, fun μ2 hE2 => ?_⟩
    simp only [bodySp, mSeq, mRet, mRetN, mExp, mOp, mUn, mVar, mC, mB, mCons, mNil, mSet, mPar, mPar3, mCall, mTest, mIfS, mIf, mAnd, mOr, mNot, mAndV, mOrV, mNotV, mChain, mNx, mPass, mAsg, gNm, gTp, gsCons, gsNil, mIt, mEnum, mR1, mR2, rk1, rk2, mTup, mLst, mYes, mAug, mSl, mPart, mNoPart, addD_i, addD_t, addD_r, addD_s, subD_i, mulD_i, mulD_r, divD_i, modD_i, powD_i, ltD_i, leD_i, gtD_i, geD_i, eqD_i, eqD_s, eqD_r, neD_i, neD_s, neD_r, isND, notND, negD_i, revD_t, revD_r, lenR_t, listR_t, tupR_t, mListRg, mTupRg, mRg1, mRg2, ipAdd, ipSub, List.map_cons, List.map_nil, List.length_cons, List.length_nil, List.replicate, List.cons_append, List.nil_append, List.append_nil, List.getElem?_cons_zero, List.getElem?_cons_succ, List.set_cons_zero, List.set_cons_succ, Option.some.injEq, exists_eq_left', List.cons.injEq, and_assoc, D.int.injEq, D.bl.injEq, D.str.injEq, D.tup.injEq, D.wtup.injEq, D.flst.injEq, D.ref.injEq, wipeD, Nat.reduceSub, Nat.reduceAdd, true_and, and_true, Bool.false_eq_true, if_false, if_true, exists_and_left, exists_and_right, exists_eq_left, reduceCtorEq, false_and, exists_false, or_false, false_or, exists_const, ite_true, ite_false, ↓reduceIte, Bool.not_true, Bool.not_false, Bool.true_eq_false, Nat.zero_eq, Nat.succ_eq_add_one, Nat.sub_self, Nat.sub_zero, Nat.reduceEqDiff]
    refine hN _ _ ⟨some (.int t), ?_, hE.trans hE2⟩
    rw [est]
    simp only
    rw [df_rst ht hS.ar hS.rl]
end
end Sw

set_option Elab.async false
set_option linter.all false
set_option maxRecDepth 100000
set_option maxHeartbeats 2000000
namespace Sw
open PySem PySem.Spec L2 DL RM
theorem nobs_nI : ∀ l : List Int, nobs (nI l) = true
  | [] => rfl
  | a :: t => by
    have ih := nobs_nI t
    unfold nI at ih ⊢
    rw [List.map_cons]
    simp only [nobs, nob, Bool.true_and]; exact ih
theorem tI_iff {l m : List Int} : tI l = tI m ↔ l = m := by
  constructor
  · intro h
    have h1 : nI l = nI m := by injection h
    have := congrArg (List.map unI) h1
    rwa [un_nI, un_nI] at this
  · rintro rfl; rfl
theorem beq_tI (l m : List Int) : beq (tI l) (tI m) = decide (l = m) := beq_dec (by simp only [nob]; exact nobs_nI l) (by simp only [nob]; exact nobs_nI m) _ tI_iff
theorem beq_str (x y : Str) : beq (.str x) (.str y) = decide (x = y) := beq_dec rfl rfl _ (by simp)
theorem beqs_str1 (x y : Str) : beqs [.str x] [.str y] = decide (x = y) := by
  have := beq_str x y
  unfold beq at this
  simp only [beqs, pys, PyData.eqvAll]
  rw [this]; simp
theorem anyEq_tI (x : List Int) (l : List (List Int)) : anyEq (tI x) (l.map tI) = decide (x ∈ l) := by
  unfold anyEq
  induction l with
  | nil => rfl
  | cons a t ih =>
    simp only [List.map_cons, List.any_cons, beq_tI] at ih ⊢
    rw [ih]
    by_cases h : a = x
    · simp [h]
    · have h' : ¬ x = a := fun z => h z.symm
      simp [h, h']
theorem depD_tI (l : List Int) : depD (tI l) ≤ 3 := by
  have := deps_nI l
  unfold deps at this
  unfold depD
  simp only [py, PyData.depth] at this ⊢
  omega
theorem plain_tI (l : List Int) : DL.plain (tI l) = true := by simp only [DL.plain]; exact plains_ints l
theorem inD_t {neg : Bool} {μ : Mu} {a : Addr} {l : List (List Int)} {x : List Int} {R : DK} (h : μ a = some (.lst (l.map tI))) (hR : R (.bl (if neg then !decide (x ∈ l) else decide (x ∈ l))) μ) : inD neg (tI x) (.ref a) μ R := by
  refine .inl ⟨l.map tI, .inl h, ⟨plain_tI x, by have := depD_tI x; omega, plains_tI l, by have := deps_tI l; omega⟩, ?_⟩
  rw [anyEq_tI]; exact hR
theorem eqD_t {l m : List Int} {μ : Mu} {R : DK} (hR : R (.bl (decide (l = m))) μ) : eqD (tI l) (tI m) μ R := by
  refine ⟨⟨plain_tI l, plain_tI m, by have := depD_tI l; omega, by have := depD_tI m; omega⟩, ?_⟩
  rw [beq_tI]; exact hR
theorem isiR_s {z : Str} {n : String} {μ : Mu} {R : DK} (hn : n ∈ ["bool", "int", "str", "tuple", "list", "dict"]) (h : R (.bl (isB "str" n)) μ) : isiR [.str z, .ty n] μ R := ⟨_, n, "str", rfl, hn, rfl, h⟩
def sp_law_are_integers : DSp := fun ds μ RX R => ∃ l : List Int, ds = [tI l, .int l.length] ∧ l.length ≤ 1000 ∧ ∀ μ', Ex μ μ' → R (.bl true) μ'
def t_law_are_integers : DS :=
  (mSeq (mIfS (mOr (mNot (mTest (mB isiR (mCons (mVar 0) (mCons (mC (.ty "tuple")) mNil))))) (mTest (mOp neD (mB lenR (mCons (mVar 0) mNil)) (mVar 1))))
  (mRet (mC (.bl false)))
  mNx)
  (mRet (mOp eqD (mLc (mIt (mVar 0)) (gNm 2) (mOr (mNot (mTest (mB isiR (mCons (mVar 2) (mCons (mC (.ty "int")) mNil))))) (mTest (mB isiR (mCons (mVar 2) (mCons (mC (.ty "bool")) mNil))))) (mVar 2) [2]) (mLst mNil))))
abbrev N_law_are_integers : List Str := ["_law_thing", "_law_many", "_law_one"]
abbrev P_law_are_integers : List Str := ["_law_thing", "_law_many"]
theorem law_law_are_integers : ∀ ds μ RX R, sp_law_are_integers ds μ RX R → bodySp P_law_are_integers.length N_law_are_integers.length t_law_are_integers ds μ RX R := by
  rintro _ μ RX R ⟨l, rfl, hl, h⟩
  refine ⟨rfl, ?_⟩
  simp only [t_law_are_integers, mLc, bodySp, mSeq, mRet, mRetN, mExp, mOp, mUn, mVar, mC, mB, mCons, mNil, mSet, mPar, mPar3, mCall, mTest, mIfS, mIf, mAnd, mOr, mNot, mAndV, mOrV, mNotV, mChain, mNx, mPass, mAsg, gNm, gTp, gsCons, gsNil, mIt, mEnum, mR1, mR2, rk1, rk2, mTup, mLst, mYes, mAug, mSl, mPart, mNoPart, addD_i, addD_t, addD_r, addD_s, subD_i, mulD_i, mulD_r, divD_i, modD_i, powD_i, ltD_i, leD_i, gtD_i, geD_i, eqD_i, eqD_s, eqD_r, neD_i, neD_s, neD_r, isND, notND, negD_i, revD_t, revD_r, lenR_t, listR_t, tupR_t, mListRg, mTupRg, mRg1, mRg2, ipAdd, ipSub, List.map_cons, List.map_nil, List.length_cons, List.length_nil, List.replicate, List.cons_append, List.nil_append, List.append_nil, List.getElem?_cons_zero, List.getElem?_cons_succ, List.set_cons_zero, List.set_cons_succ, Option.some.injEq, exists_eq_left', List.cons.injEq, and_assoc, D.int.injEq, D.bl.injEq, D.str.injEq, D.tup.injEq, D.wtup.injEq, D.flst.injEq, D.ref.injEq, wipeD, Nat.reduceSub, Nat.reduceAdd, true_and, and_true, Bool.false_eq_true, if_false, if_true, exists_and_left, exists_and_right, exists_eq_left, reduceCtorEq, false_and, exists_false, or_false, false_or, exists_const, ite_true, ite_false, ↓reduceIte, Bool.not_true, Bool.not_false, Bool.true_eq_false, Nat.zero_eq, Nat.succ_eq_add_one, Nat.sub_self, Nat.sub_zero, Nat.reduceEqDiff]
  refine isiR_t (n := "tuple") (by simp) ?_
  simp only [show isB "tuple" "tuple" = true from rfl, bodySp, mSeq, mRet, mRetN, mExp, mOp, mUn, mVar, mC, mB, mCons, mNil, mSet, mPar, mPar3, mCall, mTest, mIfS, mIf, mAnd, mOr, mNot, mAndV, mOrV, mNotV, mChain, mNx, mPass, mAsg, gNm, gTp, gsCons, gsNil, mIt, mEnum, mR1, mR2, rk1, rk2, mTup, mLst, mYes, mAug, mSl, mPart, mNoPart, addD_i, addD_t, addD_r, addD_s, subD_i, mulD_i, mulD_r, divD_i, modD_i, powD_i, ltD_i, leD_i, gtD_i, geD_i, eqD_i, eqD_s, eqD_r, neD_i, neD_s, neD_r, isND, notND, negD_i, revD_t, revD_r, lenR_t, listR_t, tupR_t, mListRg, mTupRg, mRg1, mRg2, ipAdd, ipSub, List.map_cons, List.map_nil, List.length_cons, List.length_nil, List.replicate, List.cons_append, List.nil_append, List.append_nil, List.getElem?_cons_zero, List.getElem?_cons_succ, List.set_cons_zero, List.set_cons_succ, Option.some.injEq, exists_eq_left', List.cons.injEq, and_assoc, D.int.injEq, D.bl.injEq, D.str.injEq, D.tup.injEq, D.wtup.injEq, D.flst.injEq, D.ref.injEq, wipeD, Nat.reduceSub, Nat.reduceAdd, true_and, and_true, Bool.false_eq_true, if_false, if_true, exists_and_left, exists_and_right, exists_eq_left, reduceCtorEq, false_and, exists_false, or_false, false_or, exists_const, ite_true, ite_false, ↓reduceIte, Bool.not_true, Bool.not_false, Bool.true_eq_false, Nat.zero_eq, Nat.succ_eq_add_one, Nat.sub_self, Nat.sub_zero, Nat.reduceEqDiff]
  rw [nI_len, decide_eq_true rfl]
  simp only [bodySp, mSeq, mRet, mRetN, mExp, mOp, mUn, mVar, mC, mB, mCons, mNil, mSet, mPar, mPar3, mCall, mTest, mIfS, mIf, mAnd, mOr, mNot, mAndV, mOrV, mNotV, mChain, mNx, mPass, mAsg, gNm, gTp, gsCons, gsNil, mIt, mEnum, mR1, mR2, rk1, rk2, mTup, mLst, mYes, mAug, mSl, mPart, mNoPart, addD_i, addD_t, addD_r, addD_s, subD_i, mulD_i, mulD_r, divD_i, modD_i, powD_i, ltD_i, leD_i, gtD_i, geD_i, eqD_i, eqD_s, eqD_r, neD_i, neD_s, neD_r, isND, notND, negD_i, revD_t, revD_r, lenR_t, listR_t, tupR_t, mListRg, mTupRg, mRg1, mRg2, ipAdd, ipSub, List.map_cons, List.map_nil, List.length_cons, List.length_nil, List.replicate, List.cons_append, List.nil_append, List.append_nil, List.getElem?_cons_zero, List.getElem?_cons_succ, List.set_cons_zero, List.set_cons_succ, Option.some.injEq, exists_eq_left', List.cons.injEq, and_assoc, D.int.injEq, D.bl.injEq, D.str.injEq, D.tup.injEq, D.wtup.injEq, D.flst.injEq, D.ref.injEq, wipeD, Nat.reduceSub, Nat.reduceAdd, true_and, and_true, Bool.false_eq_true, if_false, if_true, exists_and_left, exists_and_right, exists_eq_left, reduceCtorEq, false_and, exists_false, or_false, false_or, exists_const, ite_true, ite_false, ↓reduceIte, Bool.not_true, Bool.not_false, Bool.true_eq_false, Nat.zero_eq, Nat.succ_eq_add_one, Nat.sub_self, Nat.sub_zero, Nat.reduceEqDiff]
  intro p hp
  refine lcD_int (fun _ => false) (fun x => .int x) (fun _ => trivial) (by omega) (fun x hx acc N hN => ?_) ?_
  · simp only [bodySp, mSeq, mRet, mRetN, mExp, mOp, mUn, mVar, mC, mB, mCons, mNil, mSet, mPar, mPar3, mCall, mTest, mIfS, mIf, mAnd, mOr, mNot, mAndV, mOrV, mNotV, mChain, mNx, mPass, mAsg, gNm, gTp, gsCons, gsNil, mIt, mEnum, mR1, mR2, rk1, rk2, mTup, mLst, mYes, mAug, mSl, mPart, mNoPart, addD_i, addD_t, addD_r, addD_s, subD_i, mulD_i, mulD_r, divD_i, modD_i, powD_i, ltD_i, leD_i, gtD_i, geD_i, eqD_i, eqD_s, eqD_r, neD_i, neD_s, neD_r, isND, notND, negD_i, revD_t, revD_r, lenR_t, listR_t, tupR_t, mListRg, mTupRg, mRg1, mRg2, ipAdd, ipSub, List.map_cons, List.map_nil, List.length_cons, List.length_nil, List.replicate, List.cons_append, List.nil_append, List.append_nil, List.getElem?_cons_zero, List.getElem?_cons_succ, List.set_cons_zero, List.set_cons_succ, Option.some.injEq, exists_eq_left', List.cons.injEq, and_assoc, D.int.injEq, D.bl.injEq, D.str.injEq, D.tup.injEq, D.wtup.injEq, D.flst.injEq, D.ref.injEq, wipeD, Nat.reduceSub, Nat.reduceAdd, true_and, and_true, Bool.false_eq_true, if_false, if_true, exists_and_left, exists_and_right, exists_eq_left, reduceCtorEq, false_and, exists_false, or_false, false_or, exists_const, ite_true, ite_false, ↓reduceIte, Bool.not_true, Bool.not_false, Bool.true_eq_false, Nat.zero_eq, Nat.succ_eq_add_one, Nat.sub_self, Nat.sub_zero, Nat.reduceEqDiff]
    refine isiR_i (n := "int") (by simp) ?_
    simp only [show isB "int" "int" = true from rfl, bodySp, mSeq, mRet, mRetN, mExp, mOp, mUn, mVar, mC, mB, mCons, mNil, mSet, mPar, mPar3, mCall, mTest, mIfS, mIf, mAnd, mOr, mNot, mAndV, mOrV, mNotV, mChain, mNx, mPass, mAsg, gNm, gTp, gsCons, gsNil, mIt, mEnum, mR1, mR2, rk1, rk2, mTup, mLst, mYes, mAug, mSl, mPart, mNoPart, addD_i, addD_t, addD_r, addD_s, subD_i, mulD_i, mulD_r, divD_i, modD_i, powD_i, ltD_i, leD_i, gtD_i, geD_i, eqD_i, eqD_s, eqD_r, neD_i, neD_s, neD_r, isND, notND, negD_i, revD_t, revD_r, lenR_t, listR_t, tupR_t, mListRg, mTupRg, mRg1, mRg2, ipAdd, ipSub, List.map_cons, List.map_nil, List.length_cons, List.length_nil, List.replicate, List.cons_append, List.nil_append, List.append_nil, List.getElem?_cons_zero, List.getElem?_cons_succ, List.set_cons_zero, List.set_cons_succ, Option.some.injEq, exists_eq_left', List.cons.injEq, and_assoc, D.int.injEq, D.bl.injEq, D.str.injEq, D.tup.injEq, D.wtup.injEq, D.flst.injEq, D.ref.injEq, wipeD, Nat.reduceSub, Nat.reduceAdd, true_and, and_true, Bool.false_eq_true, if_false, if_true, exists_and_left, exists_and_right, exists_eq_left, reduceCtorEq, false_and, exists_false, or_false, false_or, exists_const, ite_true, ite_false, ↓reduceIte, Bool.not_true, Bool.not_false, Bool.true_eq_false, Nat.zero_eq, Nat.succ_eq_add_one, Nat.sub_self, Nat.sub_zero, Nat.reduceEqDiff]
    refine isiR_i (n := "bool") (by simp) ?_
    simp only [show isB "int" "bool" = false from rfl, bodySp, mSeq, mRet, mRetN, mExp, mOp, mUn, mVar, mC, mB, mCons, mNil, mSet, mPar, mPar3, mCall, mTest, mIfS, mIf, mAnd, mOr, mNot, mAndV, mOrV, mNotV, mChain, mNx, mPass, mAsg, gNm, gTp, gsCons, gsNil, mIt, mEnum, mR1, mR2, rk1, rk2, mTup, mLst, mYes, mAug, mSl, mPart, mNoPart, addD_i, addD_t, addD_r, addD_s, subD_i, mulD_i, mulD_r, divD_i, modD_i, powD_i, ltD_i, leD_i, gtD_i, geD_i, eqD_i, eqD_s, eqD_r, neD_i, neD_s, neD_r, isND, notND, negD_i, revD_t, revD_r, lenR_t, listR_t, tupR_t, mListRg, mTupRg, mRg1, mRg2, ipAdd, ipSub, List.map_cons, List.map_nil, List.length_cons, List.length_nil, List.replicate, List.cons_append, List.nil_append, List.append_nil, List.getElem?_cons_zero, List.getElem?_cons_succ, List.set_cons_zero, List.set_cons_succ, Option.some.injEq, exists_eq_left', List.cons.injEq, and_assoc, D.int.injEq, D.bl.injEq, D.str.injEq, D.tup.injEq, D.wtup.injEq, D.flst.injEq, D.ref.injEq, wipeD, Nat.reduceSub, Nat.reduceAdd, true_and, and_true, Bool.false_eq_true, if_false, if_true, exists_and_left, exists_and_right, exists_eq_left, reduceCtorEq, false_and, exists_false, or_false, false_or, exists_const, ite_true, ite_false, ↓reduceIte, Bool.not_true, Bool.not_false, Bool.true_eq_false, Nat.zero_eq, Nat.succ_eq_add_one, Nat.sub_self, Nat.sub_zero, Nat.reduceEqDiff]
    simpa using hN
  · refine ⟨Nat.zero_le _, fun q hq => ⟨[], .inl (by rw [updM_ne (mu_ne updM_same hq), updM_same]; simp), [], .inl updM_same, rfl, rfl, by decide, by decide, ?_⟩⟩
    rw [beqs_nil]
    exact h _ ((Ex.new hp).trans (Ex.new hq))
def sp_law_ring_word : DSp := fun ds μ RX R => ∃ (rs : List (List Int)) (d : List Int) (v : D), ds = [.tup (rs.map tI), tI d, .tup [.str (wordS rs d), v]] ∧ ((∀ l ∈ rs, Rk l rs.length) ∧ rs.length = d.length ∧ Vd d ∧ DecV rs d v) ∧
  ∀ p μ', μ p = none → Ex μ μ' → μ' p = some (.lst [.str (wordS rs d)]) → R (.ref p) μ'
def t_law_ring_word : DS :=
  (mSeq (mIfS (mOr (mNot (mTest (mB isiR (mCons (mVar 2) (mCons (mC (.ty "tuple")) mNil))))) (mOr (mTest (mOp neD (mB lenR (mCons (mVar 2) mNil)) (mC (.int 2)))) (mNot (mTest (mB isiR (mCons (mOp ixD (mVar 2) (mC (.int 0))) (mCons (mC (.ty "str")) mNil)))))))
  (mRet (mTup (mCons (mC (.str "InvalidAnswer")) (mCons (mC (.str "form")) mNil))))
  mNx)
  (mSeq (mAsg (mVar 2) (gTp 2 (gsCons (gNm 3) (gsCons (gNm 4) gsNil))))
  (mSeq (mIfS (mTest (mOp (inD true) (mVar 3) (mLst (mCons (mC (.str "sequence")) (mCons (mC (.str "triple")) (mCons (mC (.str "refused")) mNil))))))
  (mRet (mTup (mCons (mC (.str "InvalidAnswer")) (mCons (mC (.str "form")) mNil))))
  mNx)
  (mSeq (mSet 5 (mC (.bl false)))
  (mSeq (mIfS (mTest (mOp eqD (mVar 3) (mC (.str "sequence"))))
  (mSet 5 (mOp eqD (mCall sp_law_ring_run [] (mCons (mVar 0) (mCons (mVar 4) mNil))) (mVar 1)))
  (mIfS (mTest (mCall sp_law_are_integers [] (mCons (mVar 4) (mCons (mIf (mTest (mOp eqD (mVar 3) (mC (.str "triple")))) (mC (.int 3)) (mC (.int 4))) mNil))))
  (mSeq (mSet 6 (mCall sp_law_ring_triples [] (mCons (mVar 1) mNil)))
  (mSet 5 (mIf (mTest (mOp eqD (mVar 3) (mC (.str "triple")))) (mOp (inD false) (mVar 4) (mVar 6)) (mAndV (mOp eqD (mVar 6) (mLst mNil)) (mOp (inD false) (mVar 4) (mCall sp_law_ring_refusals [] (mCons (mVar 0) (mCons (mVar 1) mNil))))))))
  mNx))
  (mRet (mIf (mTest (mVar 5)) (mLst (mCons (mVar 3) mNil)) (mTup (mCons (mC (.str "InvalidAnswer")) (mCons (mVar 3) mNil))))))))))
abbrev N_law_ring_word : List Str := ["_law_lists", "_law_moves", "_law_reply", "_law_word", "_law_found", "_law_good", "_law_some"]
abbrev P_law_ring_word : List Str := ["_law_lists", "_law_moves", "_law_reply"]
theorem refsL_len {rs : List (List Int)} {d l : List Int} {x z : Int} (h : l ∈ refsL rs d x z) : l.length = 4 := by
  unfold refsL at h
  rcases List.mem_append.mp h with q | q
  · split at q
    · rw [List.mem_singleton.mp q]; rfl
    · simp at q
  · split at q
    · rw [List.mem_singleton.mp q]; rfl
    · simp at q
theorem Vd.tr_nil {d : List Int} (V : Vd d) : trL d = [] ↔ ¬ Tri (E d) := by
  constructor
  · rintro h ⟨x, y, z, h1, h2⟩
    have hp : (0 : Int) < d.length := by have := V.l3; omega
    have : [x + -(x / d.length) * d.length, y + -(x / d.length) * d.length, z + -(x / d.length) * d.length] ∈ trL d := V.tr.mpr ⟨_, _, _, rfl, by
      rw [← emod_split]; exact ⟨Int.emod_nonneg _ (Int.ne_of_gt hp), Int.emod_lt_of_pos _ hp⟩, (V.shift _).mpr h1, (V.shift _).mpr h2⟩
    rw [h] at this; simp at this
  · intro h
    cases e : trL d with
    | nil => rfl
    | cons a t =>
      exfalso
      obtain ⟨x, y, z, _, _, h1, h2⟩ := V.tr.mp (show a ∈ trL d by rw [e]; simp)
      exact h ⟨x, y, z, h1, h2⟩
end Sw

set_option Elab.async false
set_option linter.all false
set_option maxRecDepth 100000
set_option maxHeartbeats 2000000
namespace Sw
open PySem PySem.Spec L2 DL RM
theorem anyEq_str3 (x a b c : Str) : anyEq (.str x) [.str a, .str b, .str c] = (decide (a = x) || (decide (b = x) || decide (c = x))) := by
  unfold anyEq
  simp only [List.any_cons, List.any_nil, beq_str, Bool.or_false]
theorem plain_word (rs : List (List Int)) (d : List Int) : DL.plain (.str (wordS rs d)) = true := by
  unfold wordS
  split
  · decide +kernel
  · split
    · decide +kernel
    · decide +kernel
theorem inD_s3 {neg : Bool} {μ : Mu} {p : Addr} {x a b c : Str} {R : DK} (px : DL.plain (.str x) = true) (pa : plains [.str a, .str b, .str c] = true) (h : μ p = some (.lst [.str a, .str b, .str c])) (hR : R (.bl (if neg then !(decide (a = x) || (decide (b = x) || decide (c = x))) else (decide (a = x) || (decide (b = x) || decide (c = x))))) μ) : inD neg (.str x) (.ref p) μ R := by
  refine .inl ⟨_, .inl h, ⟨px, by unfold depD; simp [py, PyData.depth], pa, by unfold deps; simp [pys, py, PyData.depthAll, PyData.depth]⟩, ?_⟩
  rw [anyEq_str3]; exact hR
theorem law_law_ring_word : ∀ ds μ RX R, sp_law_ring_word ds μ RX R → bodySp P_law_ring_word.length N_law_ring_word.length t_law_ring_word ds μ RX R := by
  rintro _ μ RX R ⟨rs, d, v, rfl, ⟨hr, hl, V, hv⟩, h⟩
  have h3 := V.l3
  have h20 := V.l20
  have big := sizeLine_big
  refine ⟨rfl, ?_⟩
  simp only [t_law_ring_word, bodySp, mSeq, mRet, mRetN, mExp, mOp, mUn, mVar, mC, mB, mCons, mNil, mSet, mPar, mPar3, mCall, mTest, mIfS, mIf, mAnd, mOr, mNot, mAndV, mOrV, mNotV, mChain, mNx, mPass, mAsg, gNm, gTp, gsCons, gsNil, mIt, mEnum, mR1, mR2, rk1, rk2, mTup, mLst, mYes, mAug, mSl, mPart, mNoPart, addD_i, addD_t, addD_r, addD_s, subD_i, mulD_i, mulD_r, divD_i, modD_i, powD_i, ltD_i, leD_i, gtD_i, geD_i, eqD_i, eqD_s, eqD_r, neD_i, neD_s, neD_r, isND, notND, negD_i, revD_t, revD_r, lenR_t, listR_t, tupR_t, mListRg, mTupRg, mRg1, mRg2, ipAdd, ipSub, List.map_cons, List.map_nil, List.length_cons, List.length_nil, List.replicate, List.cons_append, List.nil_append, List.append_nil, List.getElem?_cons_zero, List.getElem?_cons_succ, List.set_cons_zero, List.set_cons_succ, Option.some.injEq, exists_eq_left', List.cons.injEq, and_assoc, D.int.injEq, D.bl.injEq, D.str.injEq, D.tup.injEq, D.wtup.injEq, D.flst.injEq, D.ref.injEq, wipeD, Nat.reduceSub, Nat.reduceAdd, true_and, and_true, Bool.false_eq_true, if_false, if_true, exists_and_left, exists_and_right, exists_eq_left, reduceCtorEq, false_and, exists_false, or_false, false_or, exists_const, ite_true, ite_false, ↓reduceIte, Bool.not_true, Bool.not_false, Bool.true_eq_false, Nat.zero_eq, Nat.succ_eq_add_one, Nat.sub_self, Nat.sub_zero, Nat.reduceEqDiff]
  refine isiR_t (n := "tuple") (by simp) ?_
  simp only [show isB "tuple" "tuple" = true from rfl, bodySp, mSeq, mRet, mRetN, mExp, mOp, mUn, mVar, mC, mB, mCons, mNil, mSet, mPar, mPar3, mCall, mTest, mIfS, mIf, mAnd, mOr, mNot, mAndV, mOrV, mNotV, mChain, mNx, mPass, mAsg, gNm, gTp, gsCons, gsNil, mIt, mEnum, mR1, mR2, rk1, rk2, mTup, mLst, mYes, mAug, mSl, mPart, mNoPart, addD_i, addD_t, addD_r, addD_s, subD_i, mulD_i, mulD_r, divD_i, modD_i, powD_i, ltD_i, leD_i, gtD_i, geD_i, eqD_i, eqD_s, eqD_r, neD_i, neD_s, neD_r, isND, notND, negD_i, revD_t, revD_r, lenR_t, listR_t, tupR_t, mListRg, mTupRg, mRg1, mRg2, ipAdd, ipSub, List.map_cons, List.map_nil, List.length_cons, List.length_nil, List.replicate, List.cons_append, List.nil_append, List.append_nil, List.getElem?_cons_zero, List.getElem?_cons_succ, List.set_cons_zero, List.set_cons_succ, Option.some.injEq, exists_eq_left', List.cons.injEq, and_assoc, D.int.injEq, D.bl.injEq, D.str.injEq, D.tup.injEq, D.wtup.injEq, D.flst.injEq, D.ref.injEq, wipeD, Nat.reduceSub, Nat.reduceAdd, true_and, and_true, Bool.false_eq_true, if_false, if_true, exists_and_left, exists_and_right, exists_eq_left, reduceCtorEq, false_and, exists_false, or_false, false_or, exists_const, ite_true, ite_false, ↓reduceIte, Bool.not_true, Bool.not_false, Bool.true_eq_false, Nat.zero_eq, Nat.succ_eq_add_one, Nat.sub_self, Nat.sub_zero, Nat.reduceEqDiff]
  rw [decide_eq_true (show (((0 + 1 + 1 : Nat)) : Int) = 2 by omega)]
  simp only [bodySp, mSeq, mRet, mRetN, mExp, mOp, mUn, mVar, mC, mB, mCons, mNil, mSet, mPar, mPar3, mCall, mTest, mIfS, mIf, mAnd, mOr, mNot, mAndV, mOrV, mNotV, mChain, mNx, mPass, mAsg, gNm, gTp, gsCons, gsNil, mIt, mEnum, mR1, mR2, rk1, rk2, mTup, mLst, mYes, mAug, mSl, mPart, mNoPart, addD_i, addD_t, addD_r, addD_s, subD_i, mulD_i, mulD_r, divD_i, modD_i, powD_i, ltD_i, leD_i, gtD_i, geD_i, eqD_i, eqD_s, eqD_r, neD_i, neD_s, neD_r, isND, notND, negD_i, revD_t, revD_r, lenR_t, listR_t, tupR_t, mListRg, mTupRg, mRg1, mRg2, ipAdd, ipSub, List.map_cons, List.map_nil, List.length_cons, List.length_nil, List.replicate, List.cons_append, List.nil_append, List.append_nil, List.getElem?_cons_zero, List.getElem?_cons_succ, List.set_cons_zero, List.set_cons_succ, Option.some.injEq, exists_eq_left', List.cons.injEq, and_assoc, D.int.injEq, D.bl.injEq, D.str.injEq, D.tup.injEq, D.wtup.injEq, D.flst.injEq, D.ref.injEq, wipeD, Nat.reduceSub, Nat.reduceAdd, true_and, and_true, Bool.false_eq_true, if_false, if_true, exists_and_left, exists_and_right, exists_eq_left, reduceCtorEq, false_and, exists_false, or_false, false_or, exists_const, ite_true, ite_false, ↓reduceIte, Bool.not_true, Bool.not_false, Bool.true_eq_false, Nat.zero_eq, Nat.succ_eq_add_one, Nat.sub_self, Nat.sub_zero, Nat.reduceEqDiff]
  refine ix0 (isiR_s (n := "str") (by simp) ?_)
  simp only [show isB "str" "str" = true from rfl, bodySp, mSeq, mRet, mRetN, mExp, mOp, mUn, mVar, mC, mB, mCons, mNil, mSet, mPar, mPar3, mCall, mTest, mIfS, mIf, mAnd, mOr, mNot, mAndV, mOrV, mNotV, mChain, mNx, mPass, mAsg, gNm, gTp, gsCons, gsNil, mIt, mEnum, mR1, mR2, rk1, rk2, mTup, mLst, mYes, mAug, mSl, mPart, mNoPart, addD_i, addD_t, addD_r, addD_s, subD_i, mulD_i, mulD_r, divD_i, modD_i, powD_i, ltD_i, leD_i, gtD_i, geD_i, eqD_i, eqD_s, eqD_r, neD_i, neD_s, neD_r, isND, notND, negD_i, revD_t, revD_r, lenR_t, listR_t, tupR_t, mListRg, mTupRg, mRg1, mRg2, ipAdd, ipSub, List.map_cons, List.map_nil, List.length_cons, List.length_nil, List.replicate, List.cons_append, List.nil_append, List.append_nil, List.getElem?_cons_zero, List.getElem?_cons_succ, List.set_cons_zero, List.set_cons_succ, Option.some.injEq, exists_eq_left', List.cons.injEq, and_assoc, D.int.injEq, D.bl.injEq, D.str.injEq, D.tup.injEq, D.wtup.injEq, D.flst.injEq, D.ref.injEq, wipeD, Nat.reduceSub, Nat.reduceAdd, true_and, and_true, Bool.false_eq_true, if_false, if_true, exists_and_left, exists_and_right, exists_eq_left, reduceCtorEq, false_and, exists_false, or_false, false_or, exists_const, ite_true, ite_false, ↓reduceIte, Bool.not_true, Bool.not_false, Bool.true_eq_false, Nat.zero_eq, Nat.succ_eq_add_one, Nat.sub_self, Nat.sub_zero, Nat.reduceEqDiff]
  refine ⟨by omega, fun p hp => inD_s3 (plain_word rs d) (by decide +kernel) updM_same ?_⟩
  have hE1 : Ex μ (updM μ p (.lst [.str "sequence", .str "triple", .str "refused"])) := Ex.new hp
  generalize updM μ p (.lst [.str "sequence", .str "triple", .str "refused"]) = μ1 at hE1
  rcases hv with ⟨t, x, y, z, rfl, hxy, hz⟩ | ⟨nt, rf, x, z, l, rfl, hlm, hxz⟩ | ⟨nt, nr, s, rfl, he⟩
  · have e : wordS rs d = "triple" := if_pos t
    rw [e] at h ⊢
    have hm := mem_invs.mp hxy
    have hin : [x, y, z] ∈ trL d := V.tr.mpr ⟨x, y, z, rfl, hm.1, V.later.mp hm.2, V.later.mp hz⟩
    simp (decide := true) only [bodySp, mSeq, mRet, mRetN, mExp, mOp, mUn, mVar, mC, mB, mCons, mNil, mSet, mPar, mPar3, mCall, mTest, mIfS, mIf, mAnd, mOr, mNot, mAndV, mOrV, mNotV, mChain, mNx, mPass, mAsg, gNm, gTp, gsCons, gsNil, mIt, mEnum, mR1, mR2, rk1, rk2, mTup, mLst, mYes, mAug, mSl, mPart, mNoPart, addD_i, addD_t, addD_r, addD_s, subD_i, mulD_i, mulD_r, divD_i, modD_i, powD_i, ltD_i, leD_i, gtD_i, geD_i, eqD_i, eqD_s, eqD_r, neD_i, neD_s, neD_r, isND, notND, negD_i, revD_t, revD_r, lenR_t, listR_t, tupR_t, mListRg, mTupRg, mRg1, mRg2, ipAdd, ipSub, List.map_cons, List.map_nil, List.length_cons, List.length_nil, List.replicate, List.cons_append, List.nil_append, List.append_nil, List.getElem?_cons_zero, List.getElem?_cons_succ, List.set_cons_zero, List.set_cons_succ, Option.some.injEq, exists_eq_left', List.cons.injEq, and_assoc, D.int.injEq, D.bl.injEq, D.str.injEq, D.tup.injEq, D.wtup.injEq, D.flst.injEq, D.ref.injEq, wipeD, Nat.reduceSub, Nat.reduceAdd, true_and, and_true, Bool.false_eq_true, if_false, if_true, exists_and_left, exists_and_right, exists_eq_left, reduceCtorEq, false_and, exists_false, or_false, false_or, exists_const, ite_true, ite_false, ↓reduceIte, Bool.not_true, Bool.not_false, Bool.true_eq_false, Nat.zero_eq, Nat.succ_eq_add_one, Nat.sub_self, Nat.sub_zero, Nat.reduceEqDiff]
    refine ⟨[x, y, z], rfl, by simp, fun μ2 hE2 => ?_⟩
    simp only [bodySp, mSeq, mRet, mRetN, mExp, mOp, mUn, mVar, mC, mB, mCons, mNil, mSet, mPar, mPar3, mCall, mTest, mIfS, mIf, mAnd, mOr, mNot, mAndV, mOrV, mNotV, mChain, mNx, mPass, mAsg, gNm, gTp, gsCons, gsNil, mIt, mEnum, mR1, mR2, rk1, rk2, mTup, mLst, mYes, mAug, mSl, mPart, mNoPart, addD_i, addD_t, addD_r, addD_s, subD_i, mulD_i, mulD_r, divD_i, modD_i, powD_i, ltD_i, leD_i, gtD_i, geD_i, eqD_i, eqD_s, eqD_r, neD_i, neD_s, neD_r, isND, notND, negD_i, revD_t, revD_r, lenR_t, listR_t, tupR_t, mListRg, mTupRg, mRg1, mRg2, ipAdd, ipSub, List.map_cons, List.map_nil, List.length_cons, List.length_nil, List.replicate, List.cons_append, List.nil_append, List.append_nil, List.getElem?_cons_zero, List.getElem?_cons_succ, List.set_cons_zero, List.set_cons_succ, Option.some.injEq, exists_eq_left', List.cons.injEq, and_assoc, D.int.injEq, D.bl.injEq, D.str.injEq, D.tup.injEq, D.wtup.injEq, D.flst.injEq, D.ref.injEq, wipeD, Nat.reduceSub, Nat.reduceAdd, true_and, and_true, Bool.false_eq_true, if_false, if_true, exists_and_left, exists_and_right, exists_eq_left, reduceCtorEq, false_and, exists_false, or_false, false_or, exists_const, ite_true, ite_false, ↓reduceIte, Bool.not_true, Bool.not_false, Bool.true_eq_false, Nat.zero_eq, Nat.succ_eq_add_one, Nat.sub_self, Nat.sub_zero, Nat.reduceEqDiff]
    refine ⟨d, rfl, ⟨by omega, h20⟩, fun q μ3 hq hE3 hm3 => ?_⟩
    simp (decide := true) only [bodySp, mSeq, mRet, mRetN, mExp, mOp, mUn, mVar, mC, mB, mCons, mNil, mSet, mPar, mPar3, mCall, mTest, mIfS, mIf, mAnd, mOr, mNot, mAndV, mOrV, mNotV, mChain, mNx, mPass, mAsg, gNm, gTp, gsCons, gsNil, mIt, mEnum, mR1, mR2, rk1, rk2, mTup, mLst, mYes, mAug, mSl, mPart, mNoPart, addD_i, addD_t, addD_r, addD_s, subD_i, mulD_i, mulD_r, divD_i, modD_i, powD_i, ltD_i, leD_i, gtD_i, geD_i, eqD_i, eqD_s, eqD_r, neD_i, neD_s, neD_r, isND, notND, negD_i, revD_t, revD_r, lenR_t, listR_t, tupR_t, mListRg, mTupRg, mRg1, mRg2, ipAdd, ipSub, List.map_cons, List.map_nil, List.length_cons, List.length_nil, List.replicate, List.cons_append, List.nil_append, List.append_nil, List.getElem?_cons_zero, List.getElem?_cons_succ, List.set_cons_zero, List.set_cons_succ, Option.some.injEq, exists_eq_left', List.cons.injEq, and_assoc, D.int.injEq, D.bl.injEq, D.str.injEq, D.tup.injEq, D.wtup.injEq, D.flst.injEq, D.ref.injEq, wipeD, Nat.reduceSub, Nat.reduceAdd, true_and, and_true, Bool.false_eq_true, if_false, if_true, exists_and_left, exists_and_right, exists_eq_left, reduceCtorEq, false_and, exists_false, or_false, false_or, exists_const, ite_true, ite_false, ↓reduceIte, Bool.not_true, Bool.not_false, Bool.true_eq_false, Nat.zero_eq, Nat.succ_eq_add_one, Nat.sub_self, Nat.sub_zero, Nat.reduceEqDiff]
    refine inD_t hm3 ?_
    rw [decide_eq_true hin]
    simp only [bodySp, mSeq, mRet, mRetN, mExp, mOp, mUn, mVar, mC, mB, mCons, mNil, mSet, mPar, mPar3, mCall, mTest, mIfS, mIf, mAnd, mOr, mNot, mAndV, mOrV, mNotV, mChain, mNx, mPass, mAsg, gNm, gTp, gsCons, gsNil, mIt, mEnum, mR1, mR2, rk1, rk2, mTup, mLst, mYes, mAug, mSl, mPart, mNoPart, addD_i, addD_t, addD_r, addD_s, subD_i, mulD_i, mulD_r, divD_i, modD_i, powD_i, ltD_i, leD_i, gtD_i, geD_i, eqD_i, eqD_s, eqD_r, neD_i, neD_s, neD_r, isND, notND, negD_i, revD_t, revD_r, lenR_t, listR_t, tupR_t, mListRg, mTupRg, mRg1, mRg2, ipAdd, ipSub, List.map_cons, List.map_nil, List.length_cons, List.length_nil, List.replicate, List.cons_append, List.nil_append, List.append_nil, List.getElem?_cons_zero, List.getElem?_cons_succ, List.set_cons_zero, List.set_cons_succ, Option.some.injEq, exists_eq_left', List.cons.injEq, and_assoc, D.int.injEq, D.bl.injEq, D.str.injEq, D.tup.injEq, D.wtup.injEq, D.flst.injEq, D.ref.injEq, wipeD, Nat.reduceSub, Nat.reduceAdd, true_and, and_true, Bool.false_eq_true, if_false, if_true, exists_and_left, exists_and_right, exists_eq_left, reduceCtorEq, false_and, exists_false, or_false, false_or, exists_const, ite_true, ite_false, ↓reduceIte, Bool.not_true, Bool.not_false, Bool.true_eq_false, Nat.zero_eq, Nat.succ_eq_add_one, Nat.sub_self, Nat.sub_zero, Nat.reduceEqDiff]
    exact fun r hr => h r _ ((hE1.trans (hE2.trans hE3)).none hr) ((hE1.trans (hE2.trans hE3)).trans (Ex.new hr)) updM_same
  · have e : wordS rs d = "refused" := by unfold wordS; rw [if_neg nt, if_pos rf]
    rw [e] at h ⊢
    have hin : l ∈ rfL rs d := V.rf hlm hxz
    simp (decide := true) only [bodySp, mSeq, mRet, mRetN, mExp, mOp, mUn, mVar, mC, mB, mCons, mNil, mSet, mPar, mPar3, mCall, mTest, mIfS, mIf, mAnd, mOr, mNot, mAndV, mOrV, mNotV, mChain, mNx, mPass, mAsg, gNm, gTp, gsCons, gsNil, mIt, mEnum, mR1, mR2, rk1, rk2, mTup, mLst, mYes, mAug, mSl, mPart, mNoPart, addD_i, addD_t, addD_r, addD_s, subD_i, mulD_i, mulD_r, divD_i, modD_i, powD_i, ltD_i, leD_i, gtD_i, geD_i, eqD_i, eqD_s, eqD_r, neD_i, neD_s, neD_r, isND, notND, negD_i, revD_t, revD_r, lenR_t, listR_t, tupR_t, mListRg, mTupRg, mRg1, mRg2, ipAdd, ipSub, List.map_cons, List.map_nil, List.length_cons, List.length_nil, List.replicate, List.cons_append, List.nil_append, List.append_nil, List.getElem?_cons_zero, List.getElem?_cons_succ, List.set_cons_zero, List.set_cons_succ, Option.some.injEq, exists_eq_left', List.cons.injEq, and_assoc, D.int.injEq, D.bl.injEq, D.str.injEq, D.tup.injEq, D.wtup.injEq, D.flst.injEq, D.ref.injEq, wipeD, Nat.reduceSub, Nat.reduceAdd, true_and, and_true, Bool.false_eq_true, if_false, if_true, exists_and_left, exists_and_right, exists_eq_left, reduceCtorEq, false_and, exists_false, or_false, false_or, exists_const, ite_true, ite_false, ↓reduceIte, Bool.not_true, Bool.not_false, Bool.true_eq_false, Nat.zero_eq, Nat.succ_eq_add_one, Nat.sub_self, Nat.sub_zero, Nat.reduceEqDiff]
    refine ⟨l, by rw [refsL_len hlm]; rfl, by rw [refsL_len hlm]; omega, fun μ2 hE2 => ?_⟩
    simp only [bodySp, mSeq, mRet, mRetN, mExp, mOp, mUn, mVar, mC, mB, mCons, mNil, mSet, mPar, mPar3, mCall, mTest, mIfS, mIf, mAnd, mOr, mNot, mAndV, mOrV, mNotV, mChain, mNx, mPass, mAsg, gNm, gTp, gsCons, gsNil, mIt, mEnum, mR1, mR2, rk1, rk2, mTup, mLst, mYes, mAug, mSl, mPart, mNoPart, addD_i, addD_t, addD_r, addD_s, subD_i, mulD_i, mulD_r, divD_i, modD_i, powD_i, ltD_i, leD_i, gtD_i, geD_i, eqD_i, eqD_s, eqD_r, neD_i, neD_s, neD_r, isND, notND, negD_i, revD_t, revD_r, lenR_t, listR_t, tupR_t, mListRg, mTupRg, mRg1, mRg2, ipAdd, ipSub, List.map_cons, List.map_nil, List.length_cons, List.length_nil, List.replicate, List.cons_append, List.nil_append, List.append_nil, List.getElem?_cons_zero, List.getElem?_cons_succ, List.set_cons_zero, List.set_cons_succ, Option.some.injEq, exists_eq_left', List.cons.injEq, and_assoc, D.int.injEq, D.bl.injEq, D.str.injEq, D.tup.injEq, D.wtup.injEq, D.flst.injEq, D.ref.injEq, wipeD, Nat.reduceSub, Nat.reduceAdd, true_and, and_true, Bool.false_eq_true, if_false, if_true, exists_and_left, exists_and_right, exists_eq_left, reduceCtorEq, false_and, exists_false, or_false, false_or, exists_const, ite_true, ite_false, ↓reduceIte, Bool.not_true, Bool.not_false, Bool.true_eq_false, Nat.zero_eq, Nat.succ_eq_add_one, Nat.sub_self, Nat.sub_zero, Nat.reduceEqDiff]
    refine ⟨d, rfl, ⟨by omega, h20⟩, fun q μ3 hq hE3 hm3 => ?_⟩
    simp (decide := true) only [bodySp, mSeq, mRet, mRetN, mExp, mOp, mUn, mVar, mC, mB, mCons, mNil, mSet, mPar, mPar3, mCall, mTest, mIfS, mIf, mAnd, mOr, mNot, mAndV, mOrV, mNotV, mChain, mNx, mPass, mAsg, gNm, gTp, gsCons, gsNil, mIt, mEnum, mR1, mR2, rk1, rk2, mTup, mLst, mYes, mAug, mSl, mPart, mNoPart, addD_i, addD_t, addD_r, addD_s, subD_i, mulD_i, mulD_r, divD_i, modD_i, powD_i, ltD_i, leD_i, gtD_i, geD_i, eqD_i, eqD_s, eqD_r, neD_i, neD_s, neD_r, isND, notND, negD_i, revD_t, revD_r, lenR_t, listR_t, tupR_t, mListRg, mTupRg, mRg1, mRg2, ipAdd, ipSub, List.map_cons, List.map_nil, List.length_cons, List.length_nil, List.replicate, List.cons_append, List.nil_append, List.append_nil, List.getElem?_cons_zero, List.getElem?_cons_succ, List.set_cons_zero, List.set_cons_succ, Option.some.injEq, exists_eq_left', List.cons.injEq, and_assoc, D.int.injEq, D.bl.injEq, D.str.injEq, D.tup.injEq, D.wtup.injEq, D.flst.injEq, D.ref.injEq, wipeD, Nat.reduceSub, Nat.reduceAdd, true_and, and_true, Bool.false_eq_true, if_false, if_true, exists_and_left, exists_and_right, exists_eq_left, reduceCtorEq, false_and, exists_false, or_false, false_or, exists_const, ite_true, ite_false, ↓reduceIte, Bool.not_true, Bool.not_false, Bool.true_eq_false, Nat.zero_eq, Nat.succ_eq_add_one, Nat.sub_self, Nat.sub_zero, Nat.reduceEqDiff]
    rw [V.tr_nil.mpr nt] at hm3
    refine fun r hr' => ⟨[], .inl (by rw [updM_ne (mu_ne hm3 hr')]; exact hm3), [], .inl updM_same, rfl, rfl, by decide, by decide, ?_⟩
    rw [if_pos (by rw [beqs_nil]; rfl)]
    refine ⟨rs, d, rfl, ⟨hr, hl⟩, ⟨by omega, h20⟩, fun q2 μ4 hq2 hE4 hm4 => ?_⟩
    refine inD_t hm4 ?_
    rw [decide_eq_true hin]
    simp only [bodySp, mSeq, mRet, mRetN, mExp, mOp, mUn, mVar, mC, mB, mCons, mNil, mSet, mPar, mPar3, mCall, mTest, mIfS, mIf, mAnd, mOr, mNot, mAndV, mOrV, mNotV, mChain, mNx, mPass, mAsg, gNm, gTp, gsCons, gsNil, mIt, mEnum, mR1, mR2, rk1, rk2, mTup, mLst, mYes, mAug, mSl, mPart, mNoPart, addD_i, addD_t, addD_r, addD_s, subD_i, mulD_i, mulD_r, divD_i, modD_i, powD_i, ltD_i, leD_i, gtD_i, geD_i, eqD_i, eqD_s, eqD_r, neD_i, neD_s, neD_r, isND, notND, negD_i, revD_t, revD_r, lenR_t, listR_t, tupR_t, mListRg, mTupRg, mRg1, mRg2, ipAdd, ipSub, List.map_cons, List.map_nil, List.length_cons, List.length_nil, List.replicate, List.cons_append, List.nil_append, List.append_nil, List.getElem?_cons_zero, List.getElem?_cons_succ, List.set_cons_zero, List.set_cons_succ, Option.some.injEq, exists_eq_left', List.cons.injEq, and_assoc, D.int.injEq, D.bl.injEq, D.str.injEq, D.tup.injEq, D.wtup.injEq, D.flst.injEq, D.ref.injEq, wipeD, Nat.reduceSub, Nat.reduceAdd, true_and, and_true, Bool.false_eq_true, if_false, if_true, exists_and_left, exists_and_right, exists_eq_left, reduceCtorEq, false_and, exists_false, or_false, false_or, exists_const, ite_true, ite_false, ↓reduceIte, Bool.not_true, Bool.not_false, Bool.true_eq_false, Nat.zero_eq, Nat.succ_eq_add_one, Nat.sub_self, Nat.sub_zero, Nat.reduceEqDiff]
    have hE : Ex μ μ4 := hE1.trans (hE2.trans (hE3.trans ((Ex.new hr').trans hE4)))
    exact fun r hr => h r _ (hE.none hr) (hE.trans (Ex.new hr)) updM_same
  · have e : wordS rs d = "sequence" := by unfold wordS; rw [if_neg nt, if_neg nr]
    rw [e] at h ⊢
    simp (decide := true) only [bodySp, mSeq, mRet, mRetN, mExp, mOp, mUn, mVar, mC, mB, mCons, mNil, mSet, mPar, mPar3, mCall, mTest, mIfS, mIf, mAnd, mOr, mNot, mAndV, mOrV, mNotV, mChain, mNx, mPass, mAsg, gNm, gTp, gsCons, gsNil, mIt, mEnum, mR1, mR2, rk1, rk2, mTup, mLst, mYes, mAug, mSl, mPart, mNoPart, addD_i, addD_t, addD_r, addD_s, subD_i, mulD_i, mulD_r, divD_i, modD_i, powD_i, ltD_i, leD_i, gtD_i, geD_i, eqD_i, eqD_s, eqD_r, neD_i, neD_s, neD_r, isND, notND, negD_i, revD_t, revD_r, lenR_t, listR_t, tupR_t, mListRg, mTupRg, mRg1, mRg2, ipAdd, ipSub, List.map_cons, List.map_nil, List.length_cons, List.length_nil, List.replicate, List.cons_append, List.nil_append, List.append_nil, List.getElem?_cons_zero, List.getElem?_cons_succ, List.set_cons_zero, List.set_cons_succ, Option.some.injEq, exists_eq_left', List.cons.injEq, and_assoc, D.int.injEq, D.bl.injEq, D.str.injEq, D.tup.injEq, D.wtup.injEq, D.flst.injEq, D.ref.injEq, wipeD, Nat.reduceSub, Nat.reduceAdd, true_and, and_true, Bool.false_eq_true, if_false, if_true, exists_and_left, exists_and_right, exists_eq_left, reduceCtorEq, false_and, exists_false, or_false, false_or, exists_const, ite_true, ite_false, ↓reduceIte, Bool.not_true, Bool.not_false, Bool.true_eq_false, Nat.zero_eq, Nat.succ_eq_add_one, Nat.sub_self, Nat.sub_zero, Nat.reduceEqDiff]
    refine ⟨rs, d, s, rfl, ⟨hr, hl, V, nt, nr, he⟩, fun μ2 hE2 => eqD_t ?_⟩
    rw [decide_eq_true rfl]
    simp only [bodySp, mSeq, mRet, mRetN, mExp, mOp, mUn, mVar, mC, mB, mCons, mNil, mSet, mPar, mPar3, mCall, mTest, mIfS, mIf, mAnd, mOr, mNot, mAndV, mOrV, mNotV, mChain, mNx, mPass, mAsg, gNm, gTp, gsCons, gsNil, mIt, mEnum, mR1, mR2, rk1, rk2, mTup, mLst, mYes, mAug, mSl, mPart, mNoPart, addD_i, addD_t, addD_r, addD_s, subD_i, mulD_i, mulD_r, divD_i, modD_i, powD_i, ltD_i, leD_i, gtD_i, geD_i, eqD_i, eqD_s, eqD_r, neD_i, neD_s, neD_r, isND, notND, negD_i, revD_t, revD_r, lenR_t, listR_t, tupR_t, mListRg, mTupRg, mRg1, mRg2, ipAdd, ipSub, List.map_cons, List.map_nil, List.length_cons, List.length_nil, List.replicate, List.cons_append, List.nil_append, List.append_nil, List.getElem?_cons_zero, List.getElem?_cons_succ, List.set_cons_zero, List.set_cons_succ, Option.some.injEq, exists_eq_left', List.cons.injEq, and_assoc, D.int.injEq, D.bl.injEq, D.str.injEq, D.tup.injEq, D.wtup.injEq, D.flst.injEq, D.ref.injEq, wipeD, Nat.reduceSub, Nat.reduceAdd, true_and, and_true, Bool.false_eq_true, if_false, if_true, exists_and_left, exists_and_right, exists_eq_left, reduceCtorEq, false_and, exists_false, or_false, false_or, exists_const, ite_true, ite_false, ↓reduceIte, Bool.not_true, Bool.not_false, Bool.true_eq_false, Nat.zero_eq, Nat.succ_eq_add_one, Nat.sub_self, Nat.sub_zero, Nat.reduceEqDiff]
    have hE : Ex μ μ2 := hE1.trans hE2
    exact fun r hr => h r _ (hE.none hr) (hE.trans (Ex.new hr)) updM_same
end Sw

set_option Elab.async false
set_option linter.all false
set_option maxRecDepth 100000
set_option maxHeartbeats 2000000
namespace Sw
open PySem PySem.Spec L2 DL RM
def sp_law_right : DSp := fun ds μ RX R => ∃ (rs : List (List Int)) (d : List Int) (q : Addr) (sl : List (List Int)), ds = [.tup (rs.map tI), tI d, .ref q] ∧ ((∀ l ∈ rs, Rk l rs.length) ∧ rs.length = d.length ∧ Vd d) ∧
  μ q = some (.lst (sl.map tI)) ∧ (d ∈ sl ↔ ¬ Tri (E d) ∧ ¬ Ref (Tk rs) (E d)) ∧ ∀ μ', Ex μ μ' → R (.bl true) μ'
def t_law_right : DS :=
  (mSeq (mSet 3 (mC (.str "refused")))
  (mSeq (mIfS (mTest (mOp neD (mCall sp_law_ring_triples [] (mCons (mVar 1) mNil)) (mLst mNil)))
  (mSet 3 (mC (.str "triple")))
  (mIfS (mTest (mOp (inD false) (mVar 1) (mVar 2)))
  (mSet 3 (mC (.str "sequence")))
  mNx))
  (mSeq (mFor (mIt (mLst (mCons (mCall sp_decide_ring [] (mCons (mVar 0) (mCons (mVar 1) mNil))) (mCons (mCallK sp_decide_ring 0 2 [1, 0] mNil (mCons (mVar 1) (mCons (mVar 0) mNil))) mNil)))) (gNm 4)
  (mIfS (mOr (mTest (mOp neD (mOp ixD (mVar 4) (mC (.int 0))) (mVar 3))) (mTest (mOp neD (mCall sp_law_ring_word [] (mCons (mVar 0) (mCons (mVar 1) (mCons (mVar 4) mNil)))) (mLst (mCons (mVar 3) mNil)))))
  (mRet (mC (.bl false)))
  mNx))
  (mRet (mC (.bl true))))))
abbrev N_law_right : List Str := ["_law_lists", "_law_moves", "_law_some", "_law_word", "_law_found"]
abbrev P_law_right : List Str := ["_law_lists", "_law_moves", "_law_some"]
theorem law_law_right : ∀ ds μ RX R, sp_law_right ds μ RX R → bodySp P_law_right.length N_law_right.length t_law_right ds μ RX R := by
  rintro _ μ RX R ⟨rs, d, q, sl, rfl, ⟨hr, hl, V⟩, hq, hsl, h⟩
  have h3 := V.l3
  have h20 := V.l20
  have big := sizeLine_big
  refine ⟨rfl, ?_⟩
  simp only [t_law_right, mFor, bodySp, mSeq, mRet, mRetN, mExp, mOp, mUn, mVar, mC, mB, mCons, mNil, mSet, mPar, mPar3, mCall, mTest, mIfS, mIf, mAnd, mOr, mNot, mAndV, mOrV, mNotV, mChain, mNx, mPass, mAsg, gNm, gTp, gsCons, gsNil, mIt, mEnum, mR1, mR2, rk1, rk2, mTup, mLst, mYes, mAug, mSl, mPart, mNoPart, addD_i, addD_t, addD_r, addD_s, subD_i, mulD_i, mulD_r, divD_i, modD_i, powD_i, ltD_i, leD_i, gtD_i, geD_i, eqD_i, eqD_s, eqD_r, neD_i, neD_s, neD_r, isND, notND, negD_i, revD_t, revD_r, lenR_t, listR_t, tupR_t, mListRg, mTupRg, mRg1, mRg2, ipAdd, ipSub, List.map_cons, List.map_nil, List.length_cons, List.length_nil, List.replicate, List.cons_append, List.nil_append, List.append_nil, List.getElem?_cons_zero, List.getElem?_cons_succ, List.set_cons_zero, List.set_cons_succ, Option.some.injEq, exists_eq_left', List.cons.injEq, and_assoc, D.int.injEq, D.bl.injEq, D.str.injEq, D.tup.injEq, D.wtup.injEq, D.flst.injEq, D.ref.injEq, wipeD, Nat.reduceSub, Nat.reduceAdd, true_and, and_true, Bool.false_eq_true, if_false, if_true, exists_and_left, exists_and_right, exists_eq_left, reduceCtorEq, false_and, exists_false, or_false, false_or, exists_const, ite_true, ite_false, ↓reduceIte, Bool.not_true, Bool.not_false, Bool.true_eq_false, Nat.zero_eq, Nat.succ_eq_add_one, Nat.sub_self, Nat.sub_zero, Nat.reduceEqDiff]
  refine ⟨d, rfl, ⟨by omega, h20⟩, fun p1 μ1 hp1 hE1 hm1 => ⟨Nat.zero_le _, fun e he => ⟨_, [], .inl (by rw [updM_ne (mu_ne hm1 he)]; exact hm1), .inl updM_same, ⟨plains_tI _, rfl, by have := deps_tI (trL d); omega, by decide⟩, ?_⟩⟩⟩
  rw [beqs_nil]
  have hE2 : Ex μ (updM μ1 e (.lst [])) := hE1.trans (Ex.new he)
  generalize updM μ1 e (.lst []) = μ2 at hE2
  have main : ∀ o3, o3 = wordS rs d → ∀ μ3, Ex μ μ3 →
      mSeq (mFor (mIt (mLst (mCons (mCall sp_decide_ring [] (mCons (mVar 0) (mCons (mVar 1) mNil))) (mCons (mCallK sp_decide_ring 0 2 [1, 0] mNil (mCons (mVar 1) (mCons (mVar 0) mNil))) mNil)))) (gNm 4)
        (mIfS (mOr (mTest (mOp neD (mOp ixD (mVar 4) (mC (.int 0))) (mVar 3))) (mTest (mOp neD (mCall sp_law_ring_word [] (mCons (mVar 0) (mCons (mVar 1) (mCons (mVar 4) mNil)))) (mLst (mCons (mVar 3) mNil)))))
        (mRet (mC (.bl false)))
        mNx))
      (mRet (mC (.bl true))) { nx := fun _ μ' => R .non μ', rt := R, ex := fun C fs _ μ' => RX C fs μ' }
      [some (.tup (rs.map tI)), some (tI d), some (.ref q), some (.str o3), none] μ3 := by
    rintro o3 rfl μ3 hE3
    simp only [mFor, mCallK, ord, List.filterMap_cons, List.filterMap_nil, bodySp, mSeq, mRet, mRetN, mExp, mOp, mUn, mVar, mC, mB, mCons, mNil, mSet, mPar, mPar3, mCall, mTest, mIfS, mIf, mAnd, mOr, mNot, mAndV, mOrV, mNotV, mChain, mNx, mPass, mAsg, gNm, gTp, gsCons, gsNil, mIt, mEnum, mR1, mR2, rk1, rk2, mTup, mLst, mYes, mAug, mSl, mPart, mNoPart, addD_i, addD_t, addD_r, addD_s, subD_i, mulD_i, mulD_r, divD_i, modD_i, powD_i, ltD_i, leD_i, gtD_i, geD_i, eqD_i, eqD_s, eqD_r, neD_i, neD_s, neD_r, isND, notND, negD_i, revD_t, revD_r, lenR_t, listR_t, tupR_t, mListRg, mTupRg, mRg1, mRg2, ipAdd, ipSub, List.map_cons, List.map_nil, List.length_cons, List.length_nil, List.replicate, List.cons_append, List.nil_append, List.append_nil, List.getElem?_cons_zero, List.getElem?_cons_succ, List.set_cons_zero, List.set_cons_succ, Option.some.injEq, exists_eq_left', List.cons.injEq, and_assoc, D.int.injEq, D.bl.injEq, D.str.injEq, D.tup.injEq, D.wtup.injEq, D.flst.injEq, D.ref.injEq, wipeD, Nat.reduceSub, Nat.reduceAdd, true_and, and_true, Bool.false_eq_true, if_false, if_true, exists_and_left, exists_and_right, exists_eq_left, reduceCtorEq, false_and, exists_false, or_false, false_or, exists_const, ite_true, ite_false, ↓reduceIte, Bool.not_true, Bool.not_false, Bool.true_eq_false, Nat.zero_eq, Nat.succ_eq_add_one, Nat.sub_self, Nat.sub_zero, Nat.reduceEqDiff]
    refine ⟨rs, d, rfl, ⟨hr, hl, V⟩, fun v1 μ4 hE4 hv1 => ⟨rs, d, rfl, ⟨hr, hl, V⟩, fun v2 μ5 hE5 hv2 => ?_⟩⟩
    refine ⟨by omega, fun c hc => ?_⟩
    have hE : Ex μ (updM μ5 c (.lst [.tup [.str (wordS rs d), v1], .tup [.str (wordS rs d), v2]])) := hE3.trans (hE4.trans (hE5.trans (Ex.new hc)))
    refine ⟨_, .inl updM_same, ?_⟩
    generalize hμ6 : updM μ5 c (.lst [.tup [.str (wordS rs d), v1], .tup [.str (wordS rs d), v2]]) = μ6 at hE
    have hc6 : μ6 c = some (.lst [.tup [.str (wordS rs d), v1], .tup [.str (wordS rs d), v2]]) := by rw [← hμ6]; exact updM_same
    refine forD_ix _ (fun k δ μ' => ∃ o4, δ = [some (.tup (rs.map tI)), some (tI d), some (.ref q), some (.str (wordS rs d)), o4] ∧ Ex μ6 μ') (fun k δ μ' ⟨_, _, hE'⟩ => .inl (hE'.at hc6)) ?_ ?_ _ _ ⟨_, rfl, Ex.refl⟩
    · rintro _ μ' ⟨o4, rfl, hE'⟩
      simp only [bodySp, mSeq, mRet, mRetN, mExp, mOp, mUn, mVar, mC, mB, mCons, mNil, mSet, mPar, mPar3, mCall, mTest, mIfS, mIf, mAnd, mOr, mNot, mAndV, mOrV, mNotV, mChain, mNx, mPass, mAsg, gNm, gTp, gsCons, gsNil, mIt, mEnum, mR1, mR2, rk1, rk2, mTup, mLst, mYes, mAug, mSl, mPart, mNoPart, addD_i, addD_t, addD_r, addD_s, subD_i, mulD_i, mulD_r, divD_i, modD_i, powD_i, ltD_i, leD_i, gtD_i, geD_i, eqD_i, eqD_s, eqD_r, neD_i, neD_s, neD_r, isND, notND, negD_i, revD_t, revD_r, lenR_t, listR_t, tupR_t, mListRg, mTupRg, mRg1, mRg2, ipAdd, ipSub, List.map_cons, List.map_nil, List.length_cons, List.length_nil, List.replicate, List.cons_append, List.nil_append, List.append_nil, List.getElem?_cons_zero, List.getElem?_cons_succ, List.set_cons_zero, List.set_cons_succ, Option.some.injEq, exists_eq_left', List.cons.injEq, and_assoc, D.int.injEq, D.bl.injEq, D.str.injEq, D.tup.injEq, D.wtup.injEq, D.flst.injEq, D.ref.injEq, wipeD, Nat.reduceSub, Nat.reduceAdd, true_and, and_true, Bool.false_eq_true, if_false, if_true, exists_and_left, exists_and_right, exists_eq_left, reduceCtorEq, false_and, exists_false, or_false, false_or, exists_const, ite_true, ite_false, ↓reduceIte, Bool.not_true, Bool.not_false, Bool.true_eq_false, Nat.zero_eq, Nat.succ_eq_add_one, Nat.sub_self, Nat.sub_zero, Nat.reduceEqDiff]
      exact h _ (hE.trans hE')
    · rintro k x _ μ' N hx hN ⟨o4, rfl, hE'⟩
      have hx' : ∃ v, x = .tup [.str (wordS rs d), v] ∧ DecV rs d v := by
        rcases k with _ | _ | k
        · cases hx; exact ⟨_, rfl, hv1⟩
        · cases hx; exact ⟨_, rfl, hv2⟩
        · simp at hx
      obtain ⟨v, rfl, hv⟩ := hx'
      simp only [bodySp, mSeq, mRet, mRetN, mExp, mOp, mUn, mVar, mC, mB, mCons, mNil, mSet, mPar, mPar3, mCall, mTest, mIfS, mIf, mAnd, mOr, mNot, mAndV, mOrV, mNotV, mChain, mNx, mPass, mAsg, gNm, gTp, gsCons, gsNil, mIt, mEnum, mR1, mR2, rk1, rk2, mTup, mLst, mYes, mAug, mSl, mPart, mNoPart, addD_i, addD_t, addD_r, addD_s, subD_i, mulD_i, mulD_r, divD_i, modD_i, powD_i, ltD_i, leD_i, gtD_i, geD_i, eqD_i, eqD_s, eqD_r, neD_i, neD_s, neD_r, isND, notND, negD_i, revD_t, revD_r, lenR_t, listR_t, tupR_t, mListRg, mTupRg, mRg1, mRg2, ipAdd, ipSub, List.map_cons, List.map_nil, List.length_cons, List.length_nil, List.replicate, List.cons_append, List.nil_append, List.append_nil, List.getElem?_cons_zero, List.getElem?_cons_succ, List.set_cons_zero, List.set_cons_succ, Option.some.injEq, exists_eq_left', List.cons.injEq, and_assoc, D.int.injEq, D.bl.injEq, D.str.injEq, D.tup.injEq, D.wtup.injEq, D.flst.injEq, D.ref.injEq, wipeD, Nat.reduceSub, Nat.reduceAdd, true_and, and_true, Bool.false_eq_true, if_false, if_true, exists_and_left, exists_and_right, exists_eq_left, reduceCtorEq, false_and, exists_false, or_false, false_or, exists_const, ite_true, ite_false, ↓reduceIte, Bool.not_true, Bool.not_false, Bool.true_eq_false, Nat.zero_eq, Nat.succ_eq_add_one, Nat.sub_self, Nat.sub_zero, Nat.reduceEqDiff]
      refine ix0 ?_
      simp only [bodySp, mSeq, mRet, mRetN, mExp, mOp, mUn, mVar, mC, mB, mCons, mNil, mSet, mPar, mPar3, mCall, mTest, mIfS, mIf, mAnd, mOr, mNot, mAndV, mOrV, mNotV, mChain, mNx, mPass, mAsg, gNm, gTp, gsCons, gsNil, mIt, mEnum, mR1, mR2, rk1, rk2, mTup, mLst, mYes, mAug, mSl, mPart, mNoPart, addD_i, addD_t, addD_r, addD_s, subD_i, mulD_i, mulD_r, divD_i, modD_i, powD_i, ltD_i, leD_i, gtD_i, geD_i, eqD_i, eqD_s, eqD_r, neD_i, neD_s, neD_r, isND, notND, negD_i, revD_t, revD_r, lenR_t, listR_t, tupR_t, mListRg, mTupRg, mRg1, mRg2, ipAdd, ipSub, List.map_cons, List.map_nil, List.length_cons, List.length_nil, List.replicate, List.cons_append, List.nil_append, List.append_nil, List.getElem?_cons_zero, List.getElem?_cons_succ, List.set_cons_zero, List.set_cons_succ, Option.some.injEq, exists_eq_left', List.cons.injEq, and_assoc, D.int.injEq, D.bl.injEq, D.str.injEq, D.tup.injEq, D.wtup.injEq, D.flst.injEq, D.ref.injEq, wipeD, Nat.reduceSub, Nat.reduceAdd, true_and, and_true, Bool.false_eq_true, if_false, if_true, exists_and_left, exists_and_right, exists_eq_left, reduceCtorEq, false_and, exists_false, or_false, false_or, exists_const, ite_true, ite_false, ↓reduceIte, Bool.not_true, Bool.not_false, Bool.true_eq_false, Nat.zero_eq, Nat.succ_eq_add_one, Nat.sub_self, Nat.sub_zero, Nat.reduceEqDiff, decide_true]
      refine ⟨rs, d, v, rfl, ⟨hr, hl, V, hv⟩, fun p μ7 hp hE7 hm7 => ?_⟩
      refine ⟨by omega, fun w hw => ⟨_, _, .inl (by rw [updM_ne (mu_ne hm7 hw)]; exact hm7), .inl updM_same, ⟨?_, ?_, ?_, ?_⟩, ?_⟩⟩
      · simp only [plains, plain_word, Bool.and_self]
      · simp only [plains, plain_word, Bool.and_self]
      · unfold deps; simp [pys, py, PyData.depthAll, PyData.depth]
      · unfold deps; simp [pys, py, PyData.depthAll, PyData.depth]
      · rw [beqs_str1, decide_eq_true rfl]
        simp only [bodySp, mSeq, mRet, mRetN, mExp, mOp, mUn, mVar, mC, mB, mCons, mNil, mSet, mPar, mPar3, mCall, mTest, mIfS, mIf, mAnd, mOr, mNot, mAndV, mOrV, mNotV, mChain, mNx, mPass, mAsg, gNm, gTp, gsCons, gsNil, mIt, mEnum, mR1, mR2, rk1, rk2, mTup, mLst, mYes, mAug, mSl, mPart, mNoPart, addD_i, addD_t, addD_r, addD_s, subD_i, mulD_i, mulD_r, divD_i, modD_i, powD_i, ltD_i, leD_i, gtD_i, geD_i, eqD_i, eqD_s, eqD_r, neD_i, neD_s, neD_r, isND, notND, negD_i, revD_t, revD_r, lenR_t, listR_t, tupR_t, mListRg, mTupRg, mRg1, mRg2, ipAdd, ipSub, List.map_cons, List.map_nil, List.length_cons, List.length_nil, List.replicate, List.cons_append, List.nil_append, List.append_nil, List.getElem?_cons_zero, List.getElem?_cons_succ, List.set_cons_zero, List.set_cons_succ, Option.some.injEq, exists_eq_left', List.cons.injEq, and_assoc, D.int.injEq, D.bl.injEq, D.str.injEq, D.tup.injEq, D.wtup.injEq, D.flst.injEq, D.ref.injEq, wipeD, Nat.reduceSub, Nat.reduceAdd, true_and, and_true, Bool.false_eq_true, if_false, if_true, exists_and_left, exists_and_right, exists_eq_left, reduceCtorEq, false_and, exists_false, or_false, false_or, exists_const, ite_true, ite_false, ↓reduceIte, Bool.not_true, Bool.not_false, Bool.true_eq_false, Nat.zero_eq, Nat.succ_eq_add_one, Nat.sub_self, Nat.sub_zero, Nat.reduceEqDiff]
        exact hN _ _ ⟨_, rfl, hE'.trans (hE7.trans (Ex.new hw))⟩
  have fin : ∀ o3, o3 = wordS rs d → ∀ μ3, Ex μ μ3 → _ := main
  by_cases t : Tri (E d)
  · have hne : (List.map tI (trL d)).isEmpty = false := by
      cases hh : trL d with
      | nil => exact absurd t (V.tr_nil.mp hh)
      | cons a b => rfl
    rw [hne]
    have z := main "triple" (by unfold wordS; rw [if_pos t]) μ2 hE2
    simp only [mFor, bodySp, mSeq, mRet, mRetN, mExp, mOp, mUn, mVar, mC, mB, mCons, mNil, mSet, mPar, mPar3, mCall, mTest, mIfS, mIf, mAnd, mOr, mNot, mAndV, mOrV, mNotV, mChain, mNx, mPass, mAsg, gNm, gTp, gsCons, gsNil, mIt, mEnum, mR1, mR2, rk1, rk2, mTup, mLst, mYes, mAug, mSl, mPart, mNoPart, addD_i, addD_t, addD_r, addD_s, subD_i, mulD_i, mulD_r, divD_i, modD_i, powD_i, ltD_i, leD_i, gtD_i, geD_i, eqD_i, eqD_s, eqD_r, neD_i, neD_s, neD_r, isND, notND, negD_i, revD_t, revD_r, lenR_t, listR_t, tupR_t, mListRg, mTupRg, mRg1, mRg2, ipAdd, ipSub, List.map_cons, List.map_nil, List.length_cons, List.length_nil, List.replicate, List.cons_append, List.nil_append, List.append_nil, List.getElem?_cons_zero, List.getElem?_cons_succ, List.set_cons_zero, List.set_cons_succ, Option.some.injEq, exists_eq_left', List.cons.injEq, and_assoc, D.int.injEq, D.bl.injEq, D.str.injEq, D.tup.injEq, D.wtup.injEq, D.flst.injEq, D.ref.injEq, wipeD, Nat.reduceSub, Nat.reduceAdd, true_and, and_true, Bool.false_eq_true, if_false, if_true, exists_and_left, exists_and_right, exists_eq_left, reduceCtorEq, false_and, exists_false, or_false, false_or, exists_const, ite_true, ite_false, ↓reduceIte, Bool.not_true, Bool.not_false, Bool.true_eq_false, Nat.zero_eq, Nat.succ_eq_add_one, Nat.sub_self, Nat.sub_zero, Nat.reduceEqDiff] at z ⊢
    exact z
  · have hne : trL d = [] := V.tr_nil.mpr t
    rw [hne]
    have hq2 := hE2.at hq
    simp only [List.map_nil, List.isEmpty_nil, bodySp, mSeq, mRet, mRetN, mExp, mOp, mUn, mVar, mC, mB, mCons, mNil, mSet, mPar, mPar3, mCall, mTest, mIfS, mIf, mAnd, mOr, mNot, mAndV, mOrV, mNotV, mChain, mNx, mPass, mAsg, gNm, gTp, gsCons, gsNil, mIt, mEnum, mR1, mR2, rk1, rk2, mTup, mLst, mYes, mAug, mSl, mPart, mNoPart, addD_i, addD_t, addD_r, addD_s, subD_i, mulD_i, mulD_r, divD_i, modD_i, powD_i, ltD_i, leD_i, gtD_i, geD_i, eqD_i, eqD_s, eqD_r, neD_i, neD_s, neD_r, isND, notND, negD_i, revD_t, revD_r, lenR_t, listR_t, tupR_t, mListRg, mTupRg, mRg1, mRg2, ipAdd, ipSub, List.map_cons, List.map_nil, List.length_cons, List.length_nil, List.replicate, List.cons_append, List.nil_append, List.append_nil, List.getElem?_cons_zero, List.getElem?_cons_succ, List.set_cons_zero, List.set_cons_succ, Option.some.injEq, exists_eq_left', List.cons.injEq, and_assoc, D.int.injEq, D.bl.injEq, D.str.injEq, D.tup.injEq, D.wtup.injEq, D.flst.injEq, D.ref.injEq, wipeD, Nat.reduceSub, Nat.reduceAdd, true_and, and_true, Bool.false_eq_true, if_false, if_true, exists_and_left, exists_and_right, exists_eq_left, reduceCtorEq, false_and, exists_false, or_false, false_or, exists_const, ite_true, ite_false, ↓reduceIte, Bool.not_true, Bool.not_false, Bool.true_eq_false, Nat.zero_eq, Nat.succ_eq_add_one, Nat.sub_self, Nat.sub_zero, Nat.reduceEqDiff]
    refine inD_t hq2 ?_
    by_cases rf : Ref (Tk rs) (E d)
    · rw [decide_eq_false (fun z => (hsl.mp z).2 rf)]
      have z := main "refused" (by unfold wordS; rw [if_neg t, if_pos rf]) μ2 hE2
      simp only [mFor, bodySp, mSeq, mRet, mRetN, mExp, mOp, mUn, mVar, mC, mB, mCons, mNil, mSet, mPar, mPar3, mCall, mTest, mIfS, mIf, mAnd, mOr, mNot, mAndV, mOrV, mNotV, mChain, mNx, mPass, mAsg, gNm, gTp, gsCons, gsNil, mIt, mEnum, mR1, mR2, rk1, rk2, mTup, mLst, mYes, mAug, mSl, mPart, mNoPart, addD_i, addD_t, addD_r, addD_s, subD_i, mulD_i, mulD_r, divD_i, modD_i, powD_i, ltD_i, leD_i, gtD_i, geD_i, eqD_i, eqD_s, eqD_r, neD_i, neD_s, neD_r, isND, notND, negD_i, revD_t, revD_r, lenR_t, listR_t, tupR_t, mListRg, mTupRg, mRg1, mRg2, ipAdd, ipSub, List.map_cons, List.map_nil, List.length_cons, List.length_nil, List.replicate, List.cons_append, List.nil_append, List.append_nil, List.getElem?_cons_zero, List.getElem?_cons_succ, List.set_cons_zero, List.set_cons_succ, Option.some.injEq, exists_eq_left', List.cons.injEq, and_assoc, D.int.injEq, D.bl.injEq, D.str.injEq, D.tup.injEq, D.wtup.injEq, D.flst.injEq, D.ref.injEq, wipeD, Nat.reduceSub, Nat.reduceAdd, true_and, and_true, Bool.false_eq_true, if_false, if_true, exists_and_left, exists_and_right, exists_eq_left, reduceCtorEq, false_and, exists_false, or_false, false_or, exists_const, ite_true, ite_false, ↓reduceIte, Bool.not_true, Bool.not_false, Bool.true_eq_false, Nat.zero_eq, Nat.succ_eq_add_one, Nat.sub_self, Nat.sub_zero, Nat.reduceEqDiff] at z ⊢
      exact z
    · rw [decide_eq_true (hsl.mpr ⟨t, rf⟩)]
      have z := main "sequence" (by unfold wordS; rw [if_neg t, if_neg rf]) μ2 hE2
      simp only [mFor, bodySp, mSeq, mRet, mRetN, mExp, mOp, mUn, mVar, mC, mB, mCons, mNil, mSet, mPar, mPar3, mCall, mTest, mIfS, mIf, mAnd, mOr, mNot, mAndV, mOrV, mNotV, mChain, mNx, mPass, mAsg, gNm, gTp, gsCons, gsNil, mIt, mEnum, mR1, mR2, rk1, rk2, mTup, mLst, mYes, mAug, mSl, mPart, mNoPart, addD_i, addD_t, addD_r, addD_s, subD_i, mulD_i, mulD_r, divD_i, modD_i, powD_i, ltD_i, leD_i, gtD_i, geD_i, eqD_i, eqD_s, eqD_r, neD_i, neD_s, neD_r, isND, notND, negD_i, revD_t, revD_r, lenR_t, listR_t, tupR_t, mListRg, mTupRg, mRg1, mRg2, ipAdd, ipSub, List.map_cons, List.map_nil, List.length_cons, List.length_nil, List.replicate, List.cons_append, List.nil_append, List.append_nil, List.getElem?_cons_zero, List.getElem?_cons_succ, List.set_cons_zero, List.set_cons_succ, Option.some.injEq, exists_eq_left', List.cons.injEq, and_assoc, D.int.injEq, D.bl.injEq, D.str.injEq, D.tup.injEq, D.wtup.injEq, D.flst.injEq, D.ref.injEq, wipeD, Nat.reduceSub, Nat.reduceAdd, true_and, and_true, Bool.false_eq_true, if_false, if_true, exists_and_left, exists_and_right, exists_eq_left, reduceCtorEq, false_and, exists_false, or_false, false_or, exists_const, ite_true, ite_false, ↓reduceIte, Bool.not_true, Bool.not_false, Bool.true_eq_false, Nat.zero_eq, Nat.succ_eq_add_one, Nat.sub_self, Nat.sub_zero, Nat.reduceEqDiff] at z ⊢
      exact z
end Sw

set_option Elab.async false
set_option linter.all false
set_option maxRecDepth 100000
set_option maxHeartbeats 2000000
namespace Sw
open PySem PySem.Spec L2 DL RM
/-! ### how many states there may be -/
def vecs : Nat → List (List Int)
  | 0 => [[]]
  | k + 1 => (vecs k).flatMap fun v => (List.range 9).map fun i : Nat => ((i : Int) - 4) :: v
theorem vecs_len : ∀ k, (vecs k).length = 9 ^ k
  | 0 => rfl
  | k + 1 => by
    unfold vecs
    rw [List.length_flatMap]
    simp only [List.length_map, List.length_range]
    rw [List.map_const', List.sum_replicate_nat, vecs_len k, Nat.pow_succ]
theorem vecs_mem : ∀ {k : Nat} {v : List Int}, v.length = k → (∀ x ∈ v, -4 ≤ x ∧ x ≤ 4) → v ∈ vecs k
  | 0, [], _, _ => by simp [vecs]
  | 0, _ :: _, h, _ => by simp at h
  | k + 1, [], h, _ => by simp at h
  | k + 1, a :: v, h, hb => by
    unfold vecs
    rw [List.mem_flatMap]
    refine ⟨v, vecs_mem (by simpa using h) fun x hx => hb x (List.mem_cons_of_mem _ hx), ?_⟩
    have := hb a List.mem_cons_self
    exact List.mem_map.mpr ⟨(a + 4).toNat, List.mem_range.mpr (by omega), by congr 1; omega⟩
section
variable {rs : List (List Int)}
theorem Iv.row {row row' mv : List Int} (h : Iv rs row mv) (h' : Iv rs row' mv) (hn : 0 < rs.length) : row = row' := by
  obtain ⟨hl, W, _⟩ := h
  obtain ⟨hl', W', _⟩ := h'
  have hp : (0 : Int) < rs.length := by omega
  refine ext_getD (by rw [W.rk.len, W'.rk.len]) fun p hp' => ?_
  rw [W.rk.len] at hp'
  have a1 := W.rk.at hp'
  have p1 := W.pos (row.getD p 0).toNat (by omega)
  have p2 := W'.pos (row.getD p 0).toNat (by omega)
  have b0 := Int.emod_nonneg ((((row.getD p 0).toNat : Nat) : Int) + mv.getD (row.getD p 0).toNat 0) (Int.ne_of_gt hp)
  have b1 := Int.emod_lt_of_pos ((((row.getD p 0).toNat : Nat) : Int) + mv.getD (row.getD p 0).toNat 0) hp
  have e := W.rk.inj (i := (((((row.getD p 0).toNat : Nat) : Int) + mv.getD (row.getD p 0).toNat 0) % rs.length).toNat) (j := p) (by omega) hp' (by rw [p1]; omega)
  rw [e] at p2
  omega
theorem Rch.few (hn : 2 ≤ rs.length) (h5 : rs.length ≤ 5) {L : List (List Int × List Int)} (nd : L.Nodup) (hr : ∀ x ∈ L, Rch rs x.1 x.2) : L.length ≤ 59049 := by
  have n2 : (L.map (·.2)).Nodup := nodup_map_on nd fun x hx y hy e => by
    have ix := (hr x hx).iv hn
    have iy := (hr y hy).iv hn
    obtain ⟨r1, m1⟩ := x
    obtain ⟨r2, m2⟩ := y
    simp only at e ix iy
    subst e
    rw [ix.row iy (by omega)]
  have := sub_len (l := L.map (·.2)) (r := vecs rs.length) n2 fun v hv => by
    obtain ⟨x, hx, rfl⟩ := List.mem_map.mp hv
    obtain ⟨hl, W, _⟩ := (hr x hx).iv hn
    refine vecs_mem W.ml fun y hy => ?_
    obtain ⟨i, hi, rfl⟩ := List.mem_iff_getElem.mp hy
    have := W.bd i (by rw [← W.ml]; exact hi)
    rw [List.getD_eq_getElem?_getD, List.getElem?_eq_getElem hi] at this
    simp only [Option.getD_some] at this
    omega
  rw [List.length_map, vecs_len] at this
  exact Nat.le_trans this (Nat.le_trans (Nat.pow_le_pow_right (by omega) h5) (by decide))
end
def stD (x : List Int × List Int) : D := .tup [tI x.1, tI x.2]
theorem stD_iff {x y : List Int × List Int} : stD x = stD y ↔ x = y := by
  obtain ⟨a, b⟩ := x
  obtain ⟨c, d⟩ := y
  constructor
  · intro h
    unfold stD at h
    have h1 : [tI a, tI b] = [tI c, tI d] := by injection h
    simp only [List.cons.injEq] at h1
    rw [tI_iff.mp h1.1, tI_iff.mp h1.2.1]
  · intro h; rw [h]
theorem nob_stD (x : List Int × List Int) : nob (stD x) = true := by simp only [stD, nob, nobs, nobs_nI, Bool.and_self]
theorem beq_stD (x y : List Int × List Int) : beq (stD x) (stD y) = decide (x = y) := beq_dec (nob_stD x) (nob_stD y) _ stD_iff
theorem plain_stD (x : List Int × List Int) : DL.plain (stD x) = true := by
  unfold stD
  simp only [DL.plain, plains, plains_ints, Bool.and_self]
theorem plains_stD : ∀ l : List (List Int × List Int), plains (l.map stD) = true
  | [] => rfl
  | a :: t => by
    rw [List.map_cons]
    simp only [plains, plain_stD, plains_stD t, Bool.and_self]
theorem depD_stD (x : List Int × List Int) : depD (stD x) ≤ 6 := by
  have h1 := deps_nI x.1
  have h2 := deps_nI x.2
  unfold deps at h1 h2
  unfold depD stD
  simp only [pys, py, PyData.depth, PyData.depthAll] at h1 h2 ⊢
  omega
theorem deps_stD : ∀ l : List (List Int × List Int), deps (l.map stD) ≤ 6 := fun l => by
  induction l with
  | nil => decide
  | cons a t ih =>
    have h := depD_stD a
    unfold deps at ih ⊢
    unfold depD at h
    simp only [List.map_cons, pys, PyData.depthAll] at ih ⊢
    omega
theorem anyEq_stD (x : List Int × List Int) (l : List (List Int × List Int)) : anyEq (stD x) (l.map stD) = decide (x ∈ l) := by
  unfold anyEq
  induction l with
  | nil => rfl
  | cons a t ih =>
    simp only [List.map_cons, List.any_cons, beq_stD] at ih ⊢
    rw [ih]
    by_cases h : a = x
    · simp [h]
    · have h' : ¬ x = a := fun z => h z.symm
      simp [h, h']
theorem inD_st {neg : Bool} {μ : Mu} {a : Addr} {l : List (List Int × List Int)} {x : List Int × List Int} {R : DK} (h : μ a = some (.lst (l.map stD))) (hR : R (.bl (if neg then !decide (x ∈ l) else decide (x ∈ l))) μ) : inD neg (stD x) (.ref a) μ R := by
  refine .inl ⟨l.map stD, .inl h, ⟨plain_stD x, by have := depD_stD x; omega, plains_stD l, by have := deps_stD l; omega⟩, ?_⟩
  rw [anyEq_stD]; exact hR
end Sw

set_option Elab.async false
set_option linter.all false
set_option maxRecDepth 100000
set_option maxHeartbeats 2000000
namespace Sw
open PySem PySem.Spec L2 DL RM
abbrev Stt := List Int × List Int
def aft (rs : List (List Int)) (x : Stt) (s : Nat) : Stt := (art rs.length s x.1, mv1 rs.length s x.1 x.2)
/-- the search in its turn: found before, now, further -/
structure BI (μ0 : Mu) (rs : List (List Int)) (f g h : Addr) (F G H : List Stt) (μ : Mu) : Prop where
  ex : Ex μ0 μ
  f0 : μ0 f = none
  h0 : μ0 h = none
  fg : f ≠ g
  fh : f ≠ h
  gh : g ≠ h
  mf : μ f = some (.lst ((F ++ H).map stD))
  mg : μ g = some (.lst (G.map stD))
  mh : μ h = some (.lst (H.map stD))
  rc : ∀ x ∈ F ++ H, Rch rs x.1 x.2
  nd : (F ++ H).Nodup
theorem BI.keep {μ0 μ μ' : Mu} {rs : List (List Int)} {f g h : Addr} {F G H : List Stt} (b : BI μ0 rs f g h F G H μ) (e : Ex μ μ') : BI μ0 rs f g h F G H μ' :=
  ⟨b.ex.trans e, b.f0, b.h0, b.fg, b.fh, b.gh, e.at b.mf, e.at b.mg, e.at b.mh, b.rc, b.nd⟩
def Done (rs : List (List Int)) (x : Stt) (A : List Stt) : Prop := ∀ s, s < rs.length → mayB rs x.1 s = true → aft rs x s ∈ A
def sp_law_ring_all : DSp := fun ds μ RX R => ∃ rs : List (List Int), ds = [.tup (rs.map tI)] ∧ ((∀ l ∈ rs, Rk l rs.length) ∧ 3 ≤ rs.length ∧ rs.length ≤ 5) ∧
  ∀ (L : List Stt) p μ', Ex μ μ' → μ' p = some (.lst (L.map stD)) → L.length ≤ 59049 → (∀ x, x ∈ L ↔ Rch rs x.1 x.2) → R (.ref p) μ'
def t_law_ring_all : DS :=
  (mSeq (mSet 1 (mB lenR (mCons (mVar 0) mNil)))
  (mSeq (mSet 2 (mLst (mCons (mTup (mCons (mTupRg (mRg1 (mVar 1))) (mCons (mOp mulD (mTup (mCons (mC (.int 0)) mNil)) (mVar 1)) mNil))) mNil)))
  (mSeq (mSet 3 (mB listR (mCons (mVar 2) mNil)))
  (mSeq (mWhile (mTest (mOp neD (mVar 3) (mLst mNil)))
  (mSeq (mSet 4 (mLst mNil))
  (mSeq (mFor (mIt (mVar 3)) (gTp 2 (gsCons (gNm 5) (gsCons (gNm 6) gsNil)))
  (mFor (mIt (mLc (mR1 (mVar 1)) (gNm 9) (mTest (mCall sp_law_ring_may [] (mCons (mVar 0) (mCons (mVar 5) (mCons (mVar 9) mNil))))) (mVar 9) [9])) (gNm 7)
  (mSeq (mSet 8 (mCall sp_law_ring_after [] (mCons (mVar 5) (mCons (mVar 6) (mCons (mVar 7) mNil)))))
  (mIfS (mTest (mOp (inD true) (mVar 8) (mVar 2)))
  (mSeq (mExp (mBML appendR (mVar 2) (mCons (mVar 8) mNil)))
  (mExp (mBML appendR (mVar 4) (mCons (mVar 8) mNil))))
  mNx))))
  (mSet 3 (mVar 4)))))
  (mRet (mVar 2))))))
abbrev N_law_ring_all : List Str := ["_law_lists", "_law_many", "_law_found", "_law_fresh", "_law_further", "_law_row", "_law_moves", "_law_at", "_law_there", "_law_step"]
abbrev P_law_ring_all : List Str := ["_law_lists"]
/-- while: found, fresh -/
structure WI (μ0 : Mu) (rs : List (List Int)) (f g : Addr) (F G : List Stt) (μ : Mu) : Prop where
  ex : Ex μ0 μ
  f0 : μ0 f = none
  fg : f ≠ g
  mf : μ f = some (.lst (F.map stD))
  mg : μ g = some (.lst (G.map stD))
  rc : ∀ x ∈ F, Rch rs x.1 x.2
  nd : F.Nodup
  sub : ∀ x ∈ G, x ∈ F
  st : (iota rs.length, List.replicate rs.length 0) ∈ F
  cl : ∀ x ∈ F, x ∈ G ∨ Done rs x F
def VW (μ0 : Mu) (rs : List (List Int)) (k : Nat) (δ : DSt) (μ : Mu) : Prop := ∃ f g F G o4 o5 o6 o7 o8 o9, δ = [some (.tup (rs.map tI)), some (.int rs.length), some (.ref f), some (.ref g), o4, o5, o6, o7, o8, o9] ∧ WI μ0 rs f g F G μ ∧ k = 2 * (60000 - F.length) + (if G.isEmpty then 0 else 1)
theorem law_law_ring_all : ∀ ds μ RX R, sp_law_ring_all ds μ RX R → bodySp P_law_ring_all.length N_law_ring_all.length t_law_ring_all ds μ RX R := by
  rintro _ μ0 RX R ⟨rs, rfl, ⟨hr, n3, n5⟩, h⟩
  have big := sizeLine_big
  refine ⟨rfl, ?_⟩
  simp only [t_law_ring_all, mWhile, bodySp, mSeq, mRet, mRetN, mExp, mOp, mUn, mVar, mC, mB, mCons, mNil, mSet, mPar, mPar3, mCall, mTest, mIfS, mIf, mAnd, mOr, mNot, mAndV, mOrV, mNotV, mChain, mNx, mPass, mAsg, gNm, gTp, gsCons, gsNil, mIt, mEnum, mR1, mR2, rk1, rk2, mTup, mLst, mYes, mAug, mSl, mPart, mNoPart, addD_i, addD_t, addD_r, addD_s, subD_i, mulD_i, mulD_r, divD_i, modD_i, powD_i, ltD_i, leD_i, gtD_i, geD_i, eqD_i, eqD_s, eqD_r, neD_i, neD_s, neD_r, isND, notND, negD_i, revD_t, revD_r, lenR_t, listR_t, tupR_t, mListRg, mTupRg, mRg1, mRg2, ipAdd, ipSub, List.map_cons, List.map_nil, List.length_cons, List.length_nil, List.replicate, List.cons_append, List.nil_append, List.append_nil, List.getElem?_cons_zero, List.getElem?_cons_succ, List.set_cons_zero, List.set_cons_succ, Option.some.injEq, exists_eq_left', List.cons.injEq, and_assoc, D.int.injEq, D.bl.injEq, D.str.injEq, D.tup.injEq, D.wtup.injEq, D.flst.injEq, D.ref.injEq, wipeD, Nat.reduceSub, Nat.reduceAdd, true_and, and_true, Bool.false_eq_true, if_false, if_true, exists_and_left, exists_and_right, exists_eq_left, reduceCtorEq, false_and, exists_false, or_false, false_or, exists_const, ite_true, ite_false, ↓reduceIte, Bool.not_true, Bool.not_false, Bool.true_eq_false, Nat.zero_eq, Nat.succ_eq_add_one, Nat.sub_self, Nat.sub_zero, Nat.reduceEqDiff, mulD_t]
  rw [List.length_map]
  have e0 : (List.replicate (rs.length : Int).toNat [D.int 0]).flatten = nI (List.replicate rs.length 0) := by rw [Int.toNat_natCast, rep_flat]
  have e1 : rgD 0 (rs.length : Int) = nI (iota rs.length) := by rw [rgD_ints]; unfold iota; simp
  refine ⟨RgOk.of_le (by omega) (by omega) (by omega) (by omega), by omega, by simp, by omega, by omega, by omega, by omega, by omega, fun f hf => ?_⟩
  rw [e0, e1]
  refine ⟨_, .inl updM_same, fun g hg => ?_⟩
  have hfg : f ≠ g := mu_ne updM_same hg
  refine ⟨VW μ0 rs, ⟨_, f, g, [(iota rs.length, List.replicate rs.length 0)], [(iota rs.length, List.replicate rs.length 0)], _, _, _, _, _, _, rfl, ⟨(Ex.new hf).trans (Ex.new hg), hf, hfg, by rw [updM_ne hfg, updM_same]; rfl, updM_same, ?_, by simp, fun x hx => hx, by simp, fun x hx => .inl hx⟩, rfl⟩, ?_⟩
  · intro x hx
    rw [List.mem_singleton.mp hx]
    exact .start
  rintro k _ μ ⟨f, g, F, G, o4, o5, o6, o7, o8, o9, rfl, w, rfl⟩
  have hFl := Rch.few (by omega) n5 w.nd w.rc
  simp only [bodySp, mSeq, mRet, mRetN, mExp, mOp, mUn, mVar, mC, mB, mCons, mNil, mSet, mPar, mPar3, mCall, mTest, mIfS, mIf, mAnd, mOr, mNot, mAndV, mOrV, mNotV, mChain, mNx, mPass, mAsg, gNm, gTp, gsCons, gsNil, mIt, mEnum, mR1, mR2, rk1, rk2, mTup, mLst, mYes, mAug, mSl, mPart, mNoPart, addD_i, addD_t, addD_r, addD_s, subD_i, mulD_i, mulD_r, divD_i, modD_i, powD_i, ltD_i, leD_i, gtD_i, geD_i, eqD_i, eqD_s, eqD_r, neD_i, neD_s, neD_r, isND, notND, negD_i, revD_t, revD_r, lenR_t, listR_t, tupR_t, mListRg, mTupRg, mRg1, mRg2, ipAdd, ipSub, List.map_cons, List.map_nil, List.length_cons, List.length_nil, List.replicate, List.cons_append, List.nil_append, List.append_nil, List.getElem?_cons_zero, List.getElem?_cons_succ, List.set_cons_zero, List.set_cons_succ, Option.some.injEq, exists_eq_left', List.cons.injEq, and_assoc, D.int.injEq, D.bl.injEq, D.str.injEq, D.tup.injEq, D.wtup.injEq, D.flst.injEq, D.ref.injEq, wipeD, Nat.reduceSub, Nat.reduceAdd, true_and, and_true, Bool.false_eq_true, if_false, if_true, exists_and_left, exists_and_right, exists_eq_left, reduceCtorEq, false_and, exists_false, or_false, false_or, exists_const, ite_true, ite_false, ↓reduceIte, Bool.not_true, Bool.not_false, Bool.true_eq_false, Nat.zero_eq, Nat.succ_eq_add_one, Nat.sub_self, Nat.sub_zero, Nat.reduceEqDiff]
  refine ⟨by omega, fun e he => ⟨_, .inl (by rw [updM_ne (mu_ne w.mg he)]; exact w.mg), [], .inl updM_same, plains_stD G, rfl, by have := deps_stD G; omega, by decide, ?_⟩⟩
  rw [beqs_nil]
  have hEe : Ex μ (updM μ e (.lst [])) := Ex.new he
  generalize updM μ e (.lst []) = μ1 at hEe
  cases hG : G with
  | nil =>
    simp only [List.map_nil, List.isEmpty_nil, bodySp, mSeq, mRet, mRetN, mExp, mOp, mUn, mVar, mC, mB, mCons, mNil, mSet, mPar, mPar3, mCall, mTest, mIfS, mIf, mAnd, mOr, mNot, mAndV, mOrV, mNotV, mChain, mNx, mPass, mAsg, gNm, gTp, gsCons, gsNil, mIt, mEnum, mR1, mR2, rk1, rk2, mTup, mLst, mYes, mAug, mSl, mPart, mNoPart, addD_i, addD_t, addD_r, addD_s, subD_i, mulD_i, mulD_r, divD_i, modD_i, powD_i, ltD_i, leD_i, gtD_i, geD_i, eqD_i, eqD_s, eqD_r, neD_i, neD_s, neD_r, isND, notND, negD_i, revD_t, revD_r, lenR_t, listR_t, tupR_t, mListRg, mTupRg, mRg1, mRg2, ipAdd, ipSub, List.map_cons, List.map_nil, List.length_cons, List.length_nil, List.replicate, List.cons_append, List.nil_append, List.append_nil, List.getElem?_cons_zero, List.getElem?_cons_succ, List.set_cons_zero, List.set_cons_succ, Option.some.injEq, exists_eq_left', List.cons.injEq, and_assoc, D.int.injEq, D.bl.injEq, D.str.injEq, D.tup.injEq, D.wtup.injEq, D.flst.injEq, D.ref.injEq, wipeD, Nat.reduceSub, Nat.reduceAdd, true_and, and_true, Bool.false_eq_true, if_false, if_true, exists_and_left, exists_and_right, exists_eq_left, reduceCtorEq, false_and, exists_false, or_false, false_or, exists_const, ite_true, ite_false, ↓reduceIte, Bool.not_true, Bool.not_false, Bool.true_eq_false, Nat.zero_eq, Nat.succ_eq_add_one, Nat.sub_self, Nat.sub_zero, Nat.reduceEqDiff]
    refine h F f μ1 (w.ex.trans hEe) (hEe.at w.mf) hFl fun x => ⟨w.rc x, fun hx => ?_⟩
    obtain ⟨row, mv⟩ := x
    simp only at hx
    induction hx with
    | start => exact w.st
    | @step row mv s _ hs hm ih =>
      rcases w.cl _ ih with q | q
      · rw [hG] at q; simp at q
      · exact q s hs hm
  | cons a t =>
    rw [← hG]
    have hGe : G.isEmpty = false := by rw [hG]; rfl
    have hGm : (G.map stD).isEmpty = false := by rw [hG]; rfl
    rw [hGm]
    simp only [mFor, bodySp, mSeq, mRet, mRetN, mExp, mOp, mUn, mVar, mC, mB, mCons, mNil, mSet, mPar, mPar3, mCall, mTest, mIfS, mIf, mAnd, mOr, mNot, mAndV, mOrV, mNotV, mChain, mNx, mPass, mAsg, gNm, gTp, gsCons, gsNil, mIt, mEnum, mR1, mR2, rk1, rk2, mTup, mLst, mYes, mAug, mSl, mPart, mNoPart, addD_i, addD_t, addD_r, addD_s, subD_i, mulD_i, mulD_r, divD_i, modD_i, powD_i, ltD_i, leD_i, gtD_i, geD_i, eqD_i, eqD_s, eqD_r, neD_i, neD_s, neD_r, isND, notND, negD_i, revD_t, revD_r, lenR_t, listR_t, tupR_t, mListRg, mTupRg, mRg1, mRg2, ipAdd, ipSub, List.map_cons, List.map_nil, List.length_cons, List.length_nil, List.replicate, List.cons_append, List.nil_append, List.append_nil, List.getElem?_cons_zero, List.getElem?_cons_succ, List.set_cons_zero, List.set_cons_succ, Option.some.injEq, exists_eq_left', List.cons.injEq, and_assoc, D.int.injEq, D.bl.injEq, D.str.injEq, D.tup.injEq, D.wtup.injEq, D.flst.injEq, D.ref.injEq, wipeD, Nat.reduceSub, Nat.reduceAdd, true_and, and_true, Bool.false_eq_true, if_false, if_true, exists_and_left, exists_and_right, exists_eq_left, reduceCtorEq, false_and, exists_false, or_false, false_or, exists_const, ite_true, ite_false, ↓reduceIte, Bool.not_true, Bool.not_false, Bool.true_eq_false, Nat.zero_eq, Nat.succ_eq_add_one, Nat.sub_self, Nat.sub_zero, Nat.reduceEqDiff]
    refine ⟨by omega, fun hh hhh => ?_⟩
    have b0 : BI μ0 rs f g hh F G [] (updM μ1 hh (.lst [])) := by
      have ef := hEe.at w.mf
      have eg := hEe.at w.mg
      have nf := mu_ne ef hhh
      have ng := mu_ne eg hhh
      exact ⟨(w.ex.trans hEe).trans (Ex.new hhh), w.f0, (w.ex.trans hEe).none hhh, w.fg, nf, ng, by rw [updM_ne nf, List.append_nil]; exact ef, by rw [updM_ne ng]; exact eg, updM_same, by rw [List.append_nil]; exact w.rc, by rw [List.append_nil]; exact w.nd⟩
    generalize updM μ1 hh (.lst []) = μ2 at b0
    refine ⟨_, .inl b0.mg, ?_⟩
    refine forD_ix _ (fun k δ μ => ∃ H o5 o6 o7 o8 o9, δ = [some (.tup (rs.map tI)), some (.int rs.length), some (.ref f), some (.ref g), some (.ref hh), o5, o6, o7, o8, o9] ∧ BI μ0 rs f g hh F G H μ ∧ ∀ x ∈ G.take k, Done rs x (F ++ H)) (fun k δ μ ⟨_, _, _, _, _, _, _, b, _⟩ => .inl b.mg) ?_ ?_ _ _ ⟨[], _, _, _, _, _, rfl, b0, by simp⟩
    · rintro _ μ3 ⟨H, o5, o6, o7, o8, o9, rfl, b, hd⟩
      rw [List.length_map, List.take_length] at hd
      simp only [bodySp, mSeq, mRet, mRetN, mExp, mOp, mUn, mVar, mC, mB, mCons, mNil, mSet, mPar, mPar3, mCall, mTest, mIfS, mIf, mAnd, mOr, mNot, mAndV, mOrV, mNotV, mChain, mNx, mPass, mAsg, gNm, gTp, gsCons, gsNil, mIt, mEnum, mR1, mR2, rk1, rk2, mTup, mLst, mYes, mAug, mSl, mPart, mNoPart, addD_i, addD_t, addD_r, addD_s, subD_i, mulD_i, mulD_r, divD_i, modD_i, powD_i, ltD_i, leD_i, gtD_i, geD_i, eqD_i, eqD_s, eqD_r, neD_i, neD_s, neD_r, isND, notND, negD_i, revD_t, revD_r, lenR_t, listR_t, tupR_t, mListRg, mTupRg, mRg1, mRg2, ipAdd, ipSub, List.map_cons, List.map_nil, List.length_cons, List.length_nil, List.replicate, List.cons_append, List.nil_append, List.append_nil, List.getElem?_cons_zero, List.getElem?_cons_succ, List.set_cons_zero, List.set_cons_succ, Option.some.injEq, exists_eq_left', List.cons.injEq, and_assoc, D.int.injEq, D.bl.injEq, D.str.injEq, D.tup.injEq, D.wtup.injEq, D.flst.injEq, D.ref.injEq, wipeD, Nat.reduceSub, Nat.reduceAdd, true_and, and_true, Bool.false_eq_true, if_false, if_true, exists_and_left, exists_and_right, exists_eq_left, reduceCtorEq, false_and, exists_false, or_false, false_or, exists_const, ite_true, ite_false, ↓reduceIte, Bool.not_true, Bool.not_false, Bool.true_eq_false, Nat.zero_eq, Nat.succ_eq_add_one, Nat.sub_self, Nat.sub_zero, Nat.reduceEqDiff]
      refine ⟨_, ?_, f, hh, F ++ H, H, _, _, _, _, _, _, rfl, ⟨b.ex, b.f0, b.fh, b.mf, b.mh, b.rc, b.nd, fun x hx => List.mem_append_right _ hx, List.mem_append_left _ w.st, fun x hx => ?_⟩, rfl⟩
      · have hFH := Rch.few (by omega) n5 b.nd b.rc
        rw [hGe]
        rw [List.length_append] at hFH ⊢
        cases H with
        | nil => simp
        | cons c d => simp at hFH ⊢; omega
      · rcases List.mem_append.mp hx with q | q
        · rcases w.cl x q with z | z
          · exact .inr (hd x z)
          · exact .inr fun s hs hm => List.mem_append_left _ (z s hs hm)
        · exact .inl q
    · rintro k x _ μ3 N hx hN ⟨H, o5, o6, o7, o8, o9, rfl, b, hd⟩
      rw [List.getElem?_map] at hx
      cases hgk : G[k]? with
      | none => rw [hgk] at hx; cases hx
      | some y =>
        obtain ⟨row, mv⟩ := y
        rw [hgk] at hx
        cases hx
        have hy : (row, mv) ∈ F := w.sub _ (List.mem_of_getElem? hgk)
        have hR := w.rc _ hy
        simp only at hR
        obtain ⟨hl, W, _⟩ := hR.iv (by omega)
        simp only [mFor, mLc, stD, bodySp, mSeq, mRet, mRetN, mExp, mOp, mUn, mVar, mC, mB, mCons, mNil, mSet, mPar, mPar3, mCall, mTest, mIfS, mIf, mAnd, mOr, mNot, mAndV, mOrV, mNotV, mChain, mNx, mPass, mAsg, gNm, gTp, gsCons, gsNil, mIt, mEnum, mR1, mR2, rk1, rk2, mTup, mLst, mYes, mAug, mSl, mPart, mNoPart, addD_i, addD_t, addD_r, addD_s, subD_i, mulD_i, mulD_r, divD_i, modD_i, powD_i, ltD_i, leD_i, gtD_i, geD_i, eqD_i, eqD_s, eqD_r, neD_i, neD_s, neD_r, isND, notND, negD_i, revD_t, revD_r, lenR_t, listR_t, tupR_t, mListRg, mTupRg, mRg1, mRg2, ipAdd, ipSub, List.map_cons, List.map_nil, List.length_cons, List.length_nil, List.replicate, List.cons_append, List.nil_append, List.append_nil, List.getElem?_cons_zero, List.getElem?_cons_succ, List.set_cons_zero, List.set_cons_succ, Option.some.injEq, exists_eq_left', List.cons.injEq, and_assoc, D.int.injEq, D.bl.injEq, D.str.injEq, D.tup.injEq, D.wtup.injEq, D.flst.injEq, D.ref.injEq, wipeD, Nat.reduceSub, Nat.reduceAdd, true_and, and_true, Bool.false_eq_true, if_false, if_true, exists_and_left, exists_and_right, exists_eq_left, reduceCtorEq, false_and, exists_false, or_false, false_or, exists_const, ite_true, ite_false, ↓reduceIte, Bool.not_true, Bool.not_false, Bool.true_eq_false, Nat.zero_eq, Nat.succ_eq_add_one, Nat.sub_self, Nat.sub_zero, Nat.reduceEqDiff]
        refine ⟨by omega, by omega, fun c hc => ?_⟩
        rw [e1]
        refine lcD_int (fun x => mayB rs row x.toNat) (fun x => .int x) (fun _ => trivial) (by simp [iota]; omega) (fun x hx acc N2 hN2 => ?_) ?_
        · have hb := (iota_rk rs.length).bd x hx
          obtain ⟨t, rfl⟩ := Int.eq_ofNat_of_zero_le hb.1
          simp only [bodySp, mSeq, mRet, mRetN, mExp, mOp, mUn, mVar, mC, mB, mCons, mNil, mSet, mPar, mPar3, mCall, mTest, mIfS, mIf, mAnd, mOr, mNot, mAndV, mOrV, mNotV, mChain, mNx, mPass, mAsg, gNm, gTp, gsCons, gsNil, mIt, mEnum, mR1, mR2, rk1, rk2, mTup, mLst, mYes, mAug, mSl, mPart, mNoPart, addD_i, addD_t, addD_r, addD_s, subD_i, mulD_i, mulD_r, divD_i, modD_i, powD_i, ltD_i, leD_i, gtD_i, geD_i, eqD_i, eqD_s, eqD_r, neD_i, neD_s, neD_r, isND, notND, negD_i, revD_t, revD_r, lenR_t, listR_t, tupR_t, mListRg, mTupRg, mRg1, mRg2, ipAdd, ipSub, List.map_cons, List.map_nil, List.length_cons, List.length_nil, List.replicate, List.cons_append, List.nil_append, List.append_nil, List.getElem?_cons_zero, List.getElem?_cons_succ, List.set_cons_zero, List.set_cons_succ, Option.some.injEq, exists_eq_left', List.cons.injEq, and_assoc, D.int.injEq, D.bl.injEq, D.str.injEq, D.tup.injEq, D.wtup.injEq, D.flst.injEq, D.ref.injEq, wipeD, Nat.reduceSub, Nat.reduceAdd, true_and, and_true, Bool.false_eq_true, if_false, if_true, exists_and_left, exists_and_right, exists_eq_left, reduceCtorEq, false_and, exists_false, or_false, false_or, exists_const, ite_true, ite_false, ↓reduceIte, Bool.not_true, Bool.not_false, Bool.true_eq_false, Nat.zero_eq, Nat.succ_eq_add_one, Nat.sub_self, Nat.sub_zero, Nat.reduceEqDiff]
          refine ⟨rs, row, t, rfl, ⟨hr, W.rk, by omega⟩, ?_⟩
          simp only [bodySp, mSeq, mRet, mRetN, mExp, mOp, mUn, mVar, mC, mB, mCons, mNil, mSet, mPar, mPar3, mCall, mTest, mIfS, mIf, mAnd, mOr, mNot, mAndV, mOrV, mNotV, mChain, mNx, mPass, mAsg, gNm, gTp, gsCons, gsNil, mIt, mEnum, mR1, mR2, rk1, rk2, mTup, mLst, mYes, mAug, mSl, mPart, mNoPart, addD_i, addD_t, addD_r, addD_s, subD_i, mulD_i, mulD_r, divD_i, modD_i, powD_i, ltD_i, leD_i, gtD_i, geD_i, eqD_i, eqD_s, eqD_r, neD_i, neD_s, neD_r, isND, notND, negD_i, revD_t, revD_r, lenR_t, listR_t, tupR_t, mListRg, mTupRg, mRg1, mRg2, ipAdd, ipSub, List.map_cons, List.map_nil, List.length_cons, List.length_nil, List.replicate, List.cons_append, List.nil_append, List.append_nil, List.getElem?_cons_zero, List.getElem?_cons_succ, List.set_cons_zero, List.set_cons_succ, Option.some.injEq, exists_eq_left', List.cons.injEq, and_assoc, D.int.injEq, D.bl.injEq, D.str.injEq, D.tup.injEq, D.wtup.injEq, D.flst.injEq, D.ref.injEq, wipeD, Nat.reduceSub, Nat.reduceAdd, true_and, and_true, Bool.false_eq_true, if_false, if_true, exists_and_left, exists_and_right, exists_eq_left, reduceCtorEq, false_and, exists_false, or_false, false_or, exists_const, ite_true, ite_false, ↓reduceIte, Bool.not_true, Bool.not_false, Bool.true_eq_false, Nat.zero_eq, Nat.succ_eq_add_one, Nat.sub_self, Nat.sub_zero, Nat.reduceEqDiff]
          by_cases gm : mayB rs row t = true
          · simpa [gm] using hN2
          · simpa [gm] using hN2
        · refine ⟨_, .inl updM_same, ?_⟩
          have hats : ∀ s : Nat, s < rs.length → mayB rs row s = true → (s : Int) ∈ (iota rs.length).filter (fun x => mayB rs row x.toNat) := fun s hs hm => List.mem_filter.mpr ⟨(iota_rk _).mem (by omega) (by omega), by simpa using hm⟩
          have hats2 : ∀ x ∈ (iota rs.length).filter (fun x => mayB rs row x.toNat), ∃ s : Nat, x = (s : Int) ∧ s < rs.length ∧ mayB rs row s = true := fun x hx => by
            obtain ⟨q1, q2⟩ := List.mem_filter.mp hx
            have hb := (iota_rk rs.length).bd x q1
            exact ⟨x.toNat, by omega, by omega, q2⟩
          have b1 : BI μ0 rs f g hh F G H (updM μ3 c (.lst (((iota rs.length).filter (fun x => mayB rs row x.toNat)).map fun x => D.int x))) := b.keep (Ex.new hc)
          have hcm : (updM μ3 c (.lst (((iota rs.length).filter (fun x => mayB rs row x.toNat)).map fun x => D.int x))) c = some (.lst (((iota rs.length).filter (fun x => mayB rs row x.toNat)).map fun x => D.int x)) := updM_same
          have cf : f ≠ c := mu_ne b.mf hc
          have ch : hh ≠ c := mu_ne b.mh hc
          generalize updM μ3 c (.lst (((iota rs.length).filter (fun x => mayB rs row x.toNat)).map fun x => D.int x)) = μ4 at b1 hcm
          generalize (iota rs.length).filter (fun x => mayB rs row x.toNat) = ats at hats hats2 hcm
          refine forD_ix _ (fun j δ μ => ∃ H' o7 o8 o9, δ = [some (.tup (rs.map tI)), some (.int rs.length), some (.ref f), some (.ref g), some (.ref hh), some (tI row), some (tI mv), o7, o8, o9] ∧ BI μ0 rs f g hh F G H' μ ∧ μ c = some (.lst (ats.map fun x => D.int x)) ∧ (∀ x ∈ F ++ H, x ∈ F ++ H') ∧ ∀ s : Nat, (s : Int) ∈ ats.take j → aft rs (row, mv) s ∈ F ++ H') (fun k δ μ ⟨_, _, _, _, _, _, q, _⟩ => .inl q) ?_ ?_ _ _ ⟨H, _, _, _, rfl, b1, hcm, fun x hx => hx, by simp⟩
          · rintro _ μ5 ⟨H', o7, o8, o9, rfl, b', _, hs1, hs2⟩
            rw [List.length_map, List.take_length] at hs2
            refine hN _ _ ⟨H', _, _, _, _, _, rfl, b', fun x hx => ?_⟩
            rw [List.take_add_one, hgk] at hx
            rcases List.mem_append.mp hx with q | q
            · exact fun s hs hm => hs1 _ (hd x q s hs hm)
            · simp at q
              subst q
              exact fun s hs hm => hs2 s (hats s hs hm)
          · rintro j x _ μ5 N2 hx hN2 ⟨H', o7, o8, o9, rfl, b', hcm', hs1, hs2⟩
            rw [List.getElem?_map] at hx
            cases haj : ats[j]? with
            | none => rw [haj] at hx; cases hx
            | some y =>
              rw [haj] at hx
              cases hx
              obtain ⟨s, rfl, hs, hm⟩ := hats2 y (List.mem_of_getElem? haj)
              simp only [bodySp, mSeq, mRet, mRetN, mExp, mOp, mUn, mVar, mC, mB, mCons, mNil, mSet, mPar, mPar3, mCall, mTest, mIfS, mIf, mAnd, mOr, mNot, mAndV, mOrV, mNotV, mChain, mNx, mPass, mAsg, gNm, gTp, gsCons, gsNil, mIt, mEnum, mR1, mR2, rk1, rk2, mTup, mLst, mYes, mAug, mSl, mPart, mNoPart, addD_i, addD_t, addD_r, addD_s, subD_i, mulD_i, mulD_r, divD_i, modD_i, powD_i, ltD_i, leD_i, gtD_i, geD_i, eqD_i, eqD_s, eqD_r, neD_i, neD_s, neD_r, isND, notND, negD_i, revD_t, revD_r, lenR_t, listR_t, tupR_t, mListRg, mTupRg, mRg1, mRg2, ipAdd, ipSub, List.map_cons, List.map_nil, List.length_cons, List.length_nil, List.replicate, List.cons_append, List.nil_append, List.append_nil, List.getElem?_cons_zero, List.getElem?_cons_succ, List.set_cons_zero, List.set_cons_succ, Option.some.injEq, exists_eq_left', List.cons.injEq, and_assoc, D.int.injEq, D.bl.injEq, D.str.injEq, D.tup.injEq, D.wtup.injEq, D.flst.injEq, D.ref.injEq, wipeD, Nat.reduceSub, Nat.reduceAdd, true_and, and_true, Bool.false_eq_true, if_false, if_true, exists_and_left, exists_and_right, exists_eq_left, reduceCtorEq, false_and, exists_false, or_false, false_or, exists_const, ite_true, ite_false, ↓reduceIte, Bool.not_true, Bool.not_false, Bool.true_eq_false, Nat.zero_eq, Nat.succ_eq_add_one, Nat.sub_self, Nat.sub_zero, Nat.reduceEqDiff]
              refine ⟨rs.length, row, mv, s, rfl, ⟨by omega, by omega, W.rk, W.ml, hs⟩, fun μ6 hE6 => ?_⟩
              have b6 := b'.keep hE6
              have hc6 := hE6.at hcm'
              have hst : D.tup [tI (art rs.length s row), tI (mv1 rs.length s row mv)] = stD (aft rs (row, mv) s) := rfl
              simp only [bodySp, mSeq, mRet, mRetN, mExp, mOp, mUn, mVar, mC, mB, mCons, mNil, mSet, mPar, mPar3, mCall, mTest, mIfS, mIf, mAnd, mOr, mNot, mAndV, mOrV, mNotV, mChain, mNx, mPass, mAsg, gNm, gTp, gsCons, gsNil, mIt, mEnum, mR1, mR2, rk1, rk2, mTup, mLst, mYes, mAug, mSl, mPart, mNoPart, addD_i, addD_t, addD_r, addD_s, subD_i, mulD_i, mulD_r, divD_i, modD_i, powD_i, ltD_i, leD_i, gtD_i, geD_i, eqD_i, eqD_s, eqD_r, neD_i, neD_s, neD_r, isND, notND, negD_i, revD_t, revD_r, lenR_t, listR_t, tupR_t, mListRg, mTupRg, mRg1, mRg2, ipAdd, ipSub, List.map_cons, List.map_nil, List.length_cons, List.length_nil, List.replicate, List.cons_append, List.nil_append, List.append_nil, List.getElem?_cons_zero, List.getElem?_cons_succ, List.set_cons_zero, List.set_cons_succ, Option.some.injEq, exists_eq_left', List.cons.injEq, and_assoc, D.int.injEq, D.bl.injEq, D.str.injEq, D.tup.injEq, D.wtup.injEq, D.flst.injEq, D.ref.injEq, wipeD, Nat.reduceSub, Nat.reduceAdd, true_and, and_true, Bool.false_eq_true, if_false, if_true, exists_and_left, exists_and_right, exists_eq_left, reduceCtorEq, false_and, exists_false, or_false, false_or, exists_const, ite_true, ite_false, ↓reduceIte, Bool.not_true, Bool.not_false, Bool.true_eq_false, Nat.zero_eq, Nat.succ_eq_add_one, Nat.sub_self, Nat.sub_zero, Nat.reduceEqDiff]
              rw [hst]
              refine inD_st b6.mf ?_
              have tk : ats.take (j + 1) = ats.take j ++ [(s : Int)] := by rw [List.take_add_one, haj]; rfl
              by_cases hin : aft rs (row, mv) s ∈ F ++ H'
              · rw [decide_eq_true hin]
                simp only [bodySp, mSeq, mRet, mRetN, mExp, mOp, mUn, mVar, mC, mB, mCons, mNil, mSet, mPar, mPar3, mCall, mTest, mIfS, mIf, mAnd, mOr, mNot, mAndV, mOrV, mNotV, mChain, mNx, mPass, mAsg, gNm, gTp, gsCons, gsNil, mIt, mEnum, mR1, mR2, rk1, rk2, mTup, mLst, mYes, mAug, mSl, mPart, mNoPart, addD_i, addD_t, addD_r, addD_s, subD_i, mulD_i, mulD_r, divD_i, modD_i, powD_i, ltD_i, leD_i, gtD_i, geD_i, eqD_i, eqD_s, eqD_r, neD_i, neD_s, neD_r, isND, notND, negD_i, revD_t, revD_r, lenR_t, listR_t, tupR_t, mListRg, mTupRg, mRg1, mRg2, ipAdd, ipSub, List.map_cons, List.map_nil, List.length_cons, List.length_nil, List.replicate, List.cons_append, List.nil_append, List.append_nil, List.getElem?_cons_zero, List.getElem?_cons_succ, List.set_cons_zero, List.set_cons_succ, Option.some.injEq, exists_eq_left', List.cons.injEq, and_assoc, D.int.injEq, D.bl.injEq, D.str.injEq, D.tup.injEq, D.wtup.injEq, D.flst.injEq, D.ref.injEq, wipeD, Nat.reduceSub, Nat.reduceAdd, true_and, and_true, Bool.false_eq_true, if_false, if_true, exists_and_left, exists_and_right, exists_eq_left, reduceCtorEq, false_and, exists_false, or_false, false_or, exists_const, ite_true, ite_false, ↓reduceIte, Bool.not_true, Bool.not_false, Bool.true_eq_false, Nat.zero_eq, Nat.succ_eq_add_one, Nat.sub_self, Nat.sub_zero, Nat.reduceEqDiff]
                refine hN2 _ _ ⟨H', _, _, _, rfl, b6, hc6, hs1, fun t ht => ?_⟩
                rw [tk] at ht
                rcases List.mem_append.mp ht with q | q
                · exact hs2 t q
                · have : t = s := Int.ofNat.inj (show (t : Int) = s by simpa using q)
                  rw [this]; exact hin
              · rw [decide_eq_false hin]
                simp only [mBML, bodySp, mSeq, mRet, mRetN, mExp, mOp, mUn, mVar, mC, mB, mCons, mNil, mSet, mPar, mPar3, mCall, mTest, mIfS, mIf, mAnd, mOr, mNot, mAndV, mOrV, mNotV, mChain, mNx, mPass, mAsg, gNm, gTp, gsCons, gsNil, mIt, mEnum, mR1, mR2, rk1, rk2, mTup, mLst, mYes, mAug, mSl, mPart, mNoPart, addD_i, addD_t, addD_r, addD_s, subD_i, mulD_i, mulD_r, divD_i, modD_i, powD_i, ltD_i, leD_i, gtD_i, geD_i, eqD_i, eqD_s, eqD_r, neD_i, neD_s, neD_r, isND, notND, negD_i, revD_t, revD_r, lenR_t, listR_t, tupR_t, mListRg, mTupRg, mRg1, mRg2, ipAdd, ipSub, List.map_cons, List.map_nil, List.length_cons, List.length_nil, List.replicate, List.cons_append, List.nil_append, List.append_nil, List.getElem?_cons_zero, List.getElem?_cons_succ, List.set_cons_zero, List.set_cons_succ, Option.some.injEq, exists_eq_left', List.cons.injEq, and_assoc, D.int.injEq, D.bl.injEq, D.str.injEq, D.tup.injEq, D.wtup.injEq, D.flst.injEq, D.ref.injEq, wipeD, Nat.reduceSub, Nat.reduceAdd, true_and, and_true, Bool.false_eq_true, if_false, if_true, exists_and_left, exists_and_right, exists_eq_left, reduceCtorEq, false_and, exists_false, or_false, false_or, exists_const, ite_true, ite_false, ↓reduceIte, Bool.not_true, Bool.not_false, Bool.true_eq_false, Nat.zero_eq, Nat.succ_eq_add_one, Nat.sub_self, Nat.sub_zero, Nat.reduceEqDiff]
                have hFH := Rch.few (by omega) n5 b6.nd b6.rc
                rw [List.length_append] at hFH
                have rc' : ∀ x ∈ F ++ (H' ++ [aft rs (row, mv) s]), Rch rs x.1 x.2 := fun x hx => by
                  rw [← List.append_assoc] at hx
                  rcases List.mem_append.mp hx with q | q
                  · exact b6.rc x q
                  · rw [List.mem_singleton.mp q]
                    exact .step hR hs hm
                have nd' : (F ++ (H' ++ [aft rs (row, mv) s])).Nodup := by
                  rw [← List.append_assoc]
                  refine List.nodup_append.mpr ⟨b6.nd, by simp, fun a ha b hb e => hin ?_⟩
                  rw [List.mem_singleton.mp hb] at e
                  rw [← e]; exact ha
                refine ⟨⟨_, .inl b6.mf⟩, appendR_l b6.mf (by rw [List.length_map, List.length_append]; omega) ?_⟩
                have mh7 : (updM μ6 f (.lst (List.map stD (F ++ H') ++ [stD (aft rs (row, mv) s)]))) hh = some (.lst (H'.map stD)) := by rw [updM_ne (Ne.symm b6.fh)]; exact b6.mh
                refine ⟨⟨_, .inl mh7⟩, appendR_l mh7 (by rw [List.length_map]; omega) ?_⟩
                refine hN2 _ _ ⟨H' ++ [aft rs (row, mv) s], _, _, _, rfl, ⟨Ex.over (Ex.over b6.ex b6.f0) b6.h0, b6.f0, b6.h0, b6.fg, b6.fh, b6.gh, ?_, ?_, ?_, rc', nd'⟩, ?_, fun x hx => ?_, fun t ht => ?_⟩
                · rw [updM_ne b6.fh, updM_same]; simp
                · rw [updM_ne b6.gh, updM_ne (Ne.symm b6.fg)]; exact b6.mg
                · rw [updM_same]; simp
                · rw [updM_ne (Ne.symm ch), updM_ne (Ne.symm cf)]; exact hc6
                · rw [← List.append_assoc]; exact List.mem_append_left _ (hs1 x hx)
                · rw [← List.append_assoc]
                  rw [tk] at ht
                  rcases List.mem_append.mp ht with q | q
                  · exact List.mem_append_left _ (hs2 t q)
                  · have : t = s := Int.ofNat.inj (show (t : Int) = s by simpa using q)
                    rw [this]; exact List.mem_append_right _ (by simp)
end Sw

set_option Elab.async false
set_option linter.all false
set_option maxRecDepth 100000
set_option maxHeartbeats 2000000
namespace Sw
open PySem PySem.Spec L2 DL RM
theorem Pth.ends {n : Nat} {d : List Int} (hn : 2 ≤ n) : ∀ (k : Nat) {fs rest arr : List Int}, Ms rest ≤ k → Pth n d fs rest arr → Sq n rest arr → ∃ fs' rest' arr', Pth n d fs' rest' arr' ∧ ∀ x ∈ rest', x = 0
  | k, fs, rest, arr, hk, hp, hs => by
    by_cases g : ∃ x ∈ rest, x ≠ 0
    · obtain ⟨s, h0, h1, h2⟩ := hs.more g
      have := hs.step hn h0 h1 h2
      cases k with
      | zero => omega
      | succ k => exact Pth.ends hn k (by omega) (hp.snoc h0 h1 h2) this.1
    · exact ⟨fs, rest, arr, hp, fun x hx => Classical.byContradiction fun z => g ⟨x, hx, z⟩⟩
theorem reach_iff {rs : List (List Int)} {d : List Int} (hr : ∀ l ∈ rs, Rk l rs.length) (hl : rs.length = d.length) (V : Vd d) : (∃ row, Rch rs row d) ↔ ¬ Tri (E d) ∧ ¬ Ref (Tk rs) (E d) := by
  have h3 := V.l3
  constructor
  · rintro ⟨row, h⟩
    exact h.good (by omega)
  · rintro ⟨nt, nr⟩
    obtain ⟨fs, rest, arr, hp, hz⟩ := Pth.ends (n := d.length) (d := d) (by omega) _ (Nat.le_refl _) .nil (V.sq nt)
    have := (hp.rch hr hl V nt nr)
    have e : df d.length d rest = d := ext_getD (by rw [df_len]) fun i hi => by
      rw [df_len] at hi
      rw [df_get hi]
      have hrl := this.2.1.rl
      have := hz _ (getD_mem (l := rest) (i := i) (by omega))
      omega
    rw [e] at this
    exact ⟨arr, this.1⟩
theorem cutD_take {α : Type} {xs : List α} {c : Int} (h0 : 0 ≤ c) : ∃ j, cutD xs none (some c) = xs.take j := by
  unfold cutD
  have e2 : HT.sIx xs.length 0 none = 0 := by unfold HT.sIx; rfl
  rw [e2]
  exact ⟨_, by rw [List.drop_zero, Nat.sub_zero]⟩
def sp_law : DSp := fun ds μ RX R => ∃ l : List Int, ds = [.flst (nI l)] ∧ l.length < 100000 ∧ ∀ μ', R (.bl true) μ'
def t_law : DS :=
  (mSeq (mSet 1 (mCall sp_law_begun [] (mCons (mVar 0) mNil)))
  (mSeq (mFor (mR1 (mC (.int 4))) (gNm 2)
  (mSeq (mSet 3 (mOp ixD (mLst (mCons (mC (.int 3)) (mCons (mC (.int 4)) (mCons (mC (.int 5)) (mCons (mC (.int 4)) mNil))))) (mVar 2)))
  (mSeq (mAsg (mCall sp_law_ring_case [] (mCons (mVar 1) (mCons (mVar 3) mNil))) (gTp 2 (gsCons (gNm 4) (gsCons (gNm 5) gsNil))))
  (mSeq (mSet 6 (mLc (mIt (mCall sp_law_ring_all [] (mCons (mVar 4) mNil))) (gTp 2 (gsCons (gNm 8) (gsCons (gNm 9) gsNil))) mYes (mVar 9) [8, 9]))
  (mSeq (mIfS (mNot (mTest (mCall sp_law_right [] (mCons (mVar 4) (mCons (mVar 5) (mCons (mVar 6) mNil))))))
  (mRet (mC (.bl false)))
  mNx)
  (mFor (mR1 (mC (.int 4))) (gNm 7)
  (mSeq (mSet 8 (mB tupR (mCons (mCall sp_law_mixed_up [] (mCons (mVar 1) (mCons (mListRg (mRg1 (mVar 3))) mNil))) mNil)))
  (mFor (mIt (mSl (mCall sp_law_ring_choices [] (mCons (mVar 8) mNil)) mNoPart (mPart (mC (.int 6))))) (gNm 9)
  (mIfS (mNot (mTest (mCall sp_law_right [] (mCons (mVar 4) (mCons (mVar 9) (mCons (mVar 6) mNil))))))
  (mRet (mC (.bl false)))
  mNx)))))))))
  (mRet (mC (.bl true)))))
abbrev N_law : List Str := ["_law_script", "_law_m", "_law_bout", "_law_many", "_law_lists", "_law_moves", "_law_some", "_law_time", "_law_row", "_law_shifts"]
abbrev P_law : List Str := ["_law_script"]
theorem law_law : ∀ ds μ RX R, sp_law ds μ RX R → bodySp P_law.length N_law.length t_law ds μ RX R := by
  rintro _ μ0 RX R ⟨l, rfl, hl, h⟩
  have big := sizeLine_big
  refine ⟨rfl, ?_⟩
  simp only [t_law, mFor, bodySp, mSeq, mRet, mRetN, mExp, mOp, mUn, mVar, mC, mB, mCons, mNil, mSet, mPar, mPar3, mCall, mTest, mIfS, mIf, mAnd, mOr, mNot, mAndV, mOrV, mNotV, mChain, mNx, mPass, mAsg, gNm, gTp, gsCons, gsNil, mIt, mEnum, mR1, mR2, rk1, rk2, mTup, mLst, mYes, mAug, mSl, mPart, mNoPart, addD_i, addD_t, addD_r, addD_s, subD_i, mulD_i, mulD_r, divD_i, modD_i, powD_i, ltD_i, leD_i, gtD_i, geD_i, eqD_i, eqD_s, eqD_r, neD_i, neD_s, neD_r, isND, notND, negD_i, revD_t, revD_r, lenR_t, listR_t, tupR_t, mListRg, mTupRg, mRg1, mRg2, ipAdd, ipSub, List.map_cons, List.map_nil, List.length_cons, List.length_nil, List.replicate, List.cons_append, List.nil_append, List.append_nil, List.getElem?_cons_zero, List.getElem?_cons_succ, List.set_cons_zero, List.set_cons_succ, Option.some.injEq, exists_eq_left', List.cons.injEq, and_assoc, D.int.injEq, D.bl.injEq, D.str.injEq, D.tup.injEq, D.wtup.injEq, D.flst.injEq, D.ref.injEq, wipeD, Nat.reduceSub, Nat.reduceAdd, true_and, and_true, Bool.false_eq_true, if_false, if_true, exists_and_left, exists_and_right, exists_eq_left, reduceCtorEq, false_and, exists_false, or_false, false_or, exists_const, ite_true, ite_false, ↓reduceIte, Bool.not_true, Bool.not_false, Bool.true_eq_false, Nat.zero_eq, Nat.succ_eq_add_one, Nat.sub_self, Nat.sub_zero, Nat.reduceEqDiff]
  refine ⟨l, rfl, hl, fun m cA g μ1 hE1 L1 => ?_⟩
  simp only [bodySp, mSeq, mRet, mRetN, mExp, mOp, mUn, mVar, mC, mB, mCons, mNil, mSet, mPar, mPar3, mCall, mTest, mIfS, mIf, mAnd, mOr, mNot, mAndV, mOrV, mNotV, mChain, mNx, mPass, mAsg, gNm, gTp, gsCons, gsNil, mIt, mEnum, mR1, mR2, rk1, rk2, mTup, mLst, mYes, mAug, mSl, mPart, mNoPart, addD_i, addD_t, addD_r, addD_s, subD_i, mulD_i, mulD_r, divD_i, modD_i, powD_i, ltD_i, leD_i, gtD_i, geD_i, eqD_i, eqD_s, eqD_r, neD_i, neD_s, neD_r, isND, notND, negD_i, revD_t, revD_r, lenR_t, listR_t, tupR_t, mListRg, mTupRg, mRg1, mRg2, ipAdd, ipSub, List.map_cons, List.map_nil, List.length_cons, List.length_nil, List.replicate, List.cons_append, List.nil_append, List.append_nil, List.getElem?_cons_zero, List.getElem?_cons_succ, List.set_cons_zero, List.set_cons_succ, Option.some.injEq, exists_eq_left', List.cons.injEq, and_assoc, D.int.injEq, D.bl.injEq, D.str.injEq, D.tup.injEq, D.wtup.injEq, D.flst.injEq, D.ref.injEq, wipeD, Nat.reduceSub, Nat.reduceAdd, true_and, and_true, Bool.false_eq_true, if_false, if_true, exists_and_left, exists_and_right, exists_eq_left, reduceCtorEq, false_and, exists_false, or_false, false_or, exists_const, ite_true, ite_false, ↓reduceIte, Bool.not_true, Bool.not_false, Bool.true_eq_false, Nat.zero_eq, Nat.succ_eq_add_one, Nat.sub_self, Nat.sub_zero, Nat.reduceEqDiff]
  refine ⟨by omega, by omega, ?_⟩
  refine forD_rng 4 (fun j δ μ => ∃ (n : Nat) (o2 o3 o4 o5 o6 o7 o8 o9 : Option D), δ = [some (.flst (nI l)), some (.ref m), o2, o3, o4, o5, o6, o7, o8, o9] ∧ LM m cA g n μ ∧ n ≤ j * 5000) (fun _ => trivial) ?_ ?_ _ _ ⟨0, _, _, _, _, _, _, _, _, rfl, L1, by omega⟩
  · rintro _ μ2 ⟨n, o2, o3, o4, o5, o6, o7, o8, o9, rfl, L2, hn⟩
    simp only [bodySp, mSeq, mRet, mRetN, mExp, mOp, mUn, mVar, mC, mB, mCons, mNil, mSet, mPar, mPar3, mCall, mTest, mIfS, mIf, mAnd, mOr, mNot, mAndV, mOrV, mNotV, mChain, mNx, mPass, mAsg, gNm, gTp, gsCons, gsNil, mIt, mEnum, mR1, mR2, rk1, rk2, mTup, mLst, mYes, mAug, mSl, mPart, mNoPart, addD_i, addD_t, addD_r, addD_s, subD_i, mulD_i, mulD_r, divD_i, modD_i, powD_i, ltD_i, leD_i, gtD_i, geD_i, eqD_i, eqD_s, eqD_r, neD_i, neD_s, neD_r, isND, notND, negD_i, revD_t, revD_r, lenR_t, listR_t, tupR_t, mListRg, mTupRg, mRg1, mRg2, ipAdd, ipSub, List.map_cons, List.map_nil, List.length_cons, List.length_nil, List.replicate, List.cons_append, List.nil_append, List.append_nil, List.getElem?_cons_zero, List.getElem?_cons_succ, List.set_cons_zero, List.set_cons_succ, Option.some.injEq, exists_eq_left', List.cons.injEq, and_assoc, D.int.injEq, D.bl.injEq, D.str.injEq, D.tup.injEq, D.wtup.injEq, D.flst.injEq, D.ref.injEq, wipeD, Nat.reduceSub, Nat.reduceAdd, true_and, and_true, Bool.false_eq_true, if_false, if_true, exists_and_left, exists_and_right, exists_eq_left, reduceCtorEq, false_and, exists_false, or_false, false_or, exists_const, ite_true, ite_false, ↓reduceIte, Bool.not_true, Bool.not_false, Bool.true_eq_false, Nat.zero_eq, Nat.succ_eq_add_one, Nat.sub_self, Nat.sub_zero, Nat.reduceEqDiff]
    exact h μ2
  · rintro j _ μ2 N hj hN ⟨n, o2, o3, o4, o5, o6, o7, o8, o9, rfl, L2, hn⟩
    simp only [mLc, bodySp, mSeq, mRet, mRetN, mExp, mOp, mUn, mVar, mC, mB, mCons, mNil, mSet, mPar, mPar3, mCall, mTest, mIfS, mIf, mAnd, mOr, mNot, mAndV, mOrV, mNotV, mChain, mNx, mPass, mAsg, gNm, gTp, gsCons, gsNil, mIt, mEnum, mR1, mR2, rk1, rk2, mTup, mLst, mYes, mAug, mSl, mPart, mNoPart, addD_i, addD_t, addD_r, addD_s, subD_i, mulD_i, mulD_r, divD_i, modD_i, powD_i, ltD_i, leD_i, gtD_i, geD_i, eqD_i, eqD_s, eqD_r, neD_i, neD_s, neD_r, isND, notND, negD_i, revD_t, revD_r, lenR_t, listR_t, tupR_t, mListRg, mTupRg, mRg1, mRg2, ipAdd, ipSub, List.map_cons, List.map_nil, List.length_cons, List.length_nil, List.replicate, List.cons_append, List.nil_append, List.append_nil, List.getElem?_cons_zero, List.getElem?_cons_succ, List.set_cons_zero, List.set_cons_succ, Option.some.injEq, exists_eq_left', List.cons.injEq, and_assoc, D.int.injEq, D.bl.injEq, D.str.injEq, D.tup.injEq, D.wtup.injEq, D.flst.injEq, D.ref.injEq, wipeD, Nat.reduceSub, Nat.reduceAdd, true_and, and_true, Bool.false_eq_true, if_false, if_true, exists_and_left, exists_and_right, exists_eq_left, reduceCtorEq, false_and, exists_false, or_false, false_or, exists_const, ite_true, ite_false, ↓reduceIte, Bool.not_true, Bool.not_false, Bool.true_eq_false, Nat.zero_eq, Nat.succ_eq_add_one, Nat.sub_self, Nat.sub_zero, Nat.reduceEqDiff]
    refine ⟨by omega, fun e he => ?_⟩
    have htop : ∃ k : Nat, (3 ≤ k ∧ k ≤ 5) ∧ ([D.int 3, D.int 4, D.int 5, D.int 4] : List D)[((j : Int)).toNat]? = some (.int k) := by
      rcases j with _ | _ | _ | _ | j
      · exact ⟨3, by omega, rfl⟩
      · exact ⟨4, by omega, rfl⟩
      · exact ⟨5, by omega, rfl⟩
      · exact ⟨4, by omega, rfl⟩
      · omega
    obtain ⟨k, ⟨k3, k5⟩, hget⟩ := htop
    refine (ixD_l (.inl updM_same) (atI_nat (by omega) hget)).mpr ?_
    refine ⟨m, cA, g, n, k, rfl, L2.ex (Ex.new he), ⟨k3, by omega, by omega⟩, fun rs d μ3 n3 hn3 L3 K3 hr hrl V hd => ?_⟩
    have hrr : ∀ l ∈ rs, Rk l rs.length := fun l hl' => by rw [hrl]; exact hr l hl'
    simp only [bodySp, mSeq, mRet, mRetN, mExp, mOp, mUn, mVar, mC, mB, mCons, mNil, mSet, mPar, mPar3, mCall, mTest, mIfS, mIf, mAnd, mOr, mNot, mAndV, mOrV, mNotV, mChain, mNx, mPass, mAsg, gNm, gTp, gsCons, gsNil, mIt, mEnum, mR1, mR2, rk1, rk2, mTup, mLst, mYes, mAug, mSl, mPart, mNoPart, addD_i, addD_t, addD_r, addD_s, subD_i, mulD_i, mulD_r, divD_i, modD_i, powD_i, ltD_i, leD_i, gtD_i, geD_i, eqD_i, eqD_s, eqD_r, neD_i, neD_s, neD_r, isND, notND, negD_i, revD_t, revD_r, lenR_t, listR_t, tupR_t, mListRg, mTupRg, mRg1, mRg2, ipAdd, ipSub, List.map_cons, List.map_nil, List.length_cons, List.length_nil, List.replicate, List.cons_append, List.nil_append, List.append_nil, List.getElem?_cons_zero, List.getElem?_cons_succ, List.set_cons_zero, List.set_cons_succ, Option.some.injEq, exists_eq_left', List.cons.injEq, and_assoc, D.int.injEq, D.bl.injEq, D.str.injEq, D.tup.injEq, D.wtup.injEq, D.flst.injEq, D.ref.injEq, wipeD, Nat.reduceSub, Nat.reduceAdd, true_and, and_true, Bool.false_eq_true, if_false, if_true, exists_and_left, exists_and_right, exists_eq_left, reduceCtorEq, false_and, exists_false, or_false, false_or, exists_const, ite_true, ite_false, ↓reduceIte, Bool.not_true, Bool.not_false, Bool.true_eq_false, Nat.zero_eq, Nat.succ_eq_add_one, Nat.sub_self, Nat.sub_zero, Nat.reduceEqDiff]
    refine ⟨rs, rfl, ⟨hrr, by omega, by omega⟩, fun L p μ4 hE4 hm4 hL hLi => ?_⟩
    refine .inr ⟨p, rfl, _, .inl hm4, fun c hc => ?_⟩
    have hpc := mu_ne hm4 hc
    refine lcD_pure (fun _ => true) (fun y => match y with | .tup [_, b] => b | y => y) (fun acc => .inl (by rw [updM_ne hpc]; exact hm4)) (by rw [List.length_map]; omega) (fun y hy acc N2 hN2 => ?_) ?_
    · obtain ⟨x, _, rfl⟩ := List.mem_map.mp hy
      simp only [stD, bodySp, mSeq, mRet, mRetN, mExp, mOp, mUn, mVar, mC, mB, mCons, mNil, mSet, mPar, mPar3, mCall, mTest, mIfS, mIf, mAnd, mOr, mNot, mAndV, mOrV, mNotV, mChain, mNx, mPass, mAsg, gNm, gTp, gsCons, gsNil, mIt, mEnum, mR1, mR2, rk1, rk2, mTup, mLst, mYes, mAug, mSl, mPart, mNoPart, addD_i, addD_t, addD_r, addD_s, subD_i, mulD_i, mulD_r, divD_i, modD_i, powD_i, ltD_i, leD_i, gtD_i, geD_i, eqD_i, eqD_s, eqD_r, neD_i, neD_s, neD_r, isND, notND, negD_i, revD_t, revD_r, lenR_t, listR_t, tupR_t, mListRg, mTupRg, mRg1, mRg2, ipAdd, ipSub, List.map_cons, List.map_nil, List.length_cons, List.length_nil, List.replicate, List.cons_append, List.nil_append, List.append_nil, List.getElem?_cons_zero, List.getElem?_cons_succ, List.set_cons_zero, List.set_cons_succ, Option.some.injEq, exists_eq_left', List.cons.injEq, and_assoc, D.int.injEq, D.bl.injEq, D.str.injEq, D.tup.injEq, D.wtup.injEq, D.flst.injEq, D.ref.injEq, wipeD, Nat.reduceSub, Nat.reduceAdd, true_and, and_true, Bool.false_eq_true, if_false, if_true, exists_and_left, exists_and_right, exists_eq_left, reduceCtorEq, false_and, exists_false, or_false, false_or, exists_const, ite_true, ite_false, ↓reduceIte, Bool.not_true, Bool.not_false, Bool.true_eq_false, Nat.zero_eq, Nat.succ_eq_add_one, Nat.sub_self, Nat.sub_zero, Nat.reduceEqDiff] at hN2 ⊢
      exact hN2
    · rw [List.filter_eq_self.mpr (by simp)]
      have eM : (L.map stD).map (fun y : D => match y with | .tup [_, b] => b | y => y) = (L.map (·.2)).map tI := by
        rw [List.map_map, List.map_map]; rfl
      rw [eM]
      have L5 : LM m cA g n3 (updM μ4 c (.lst ((L.map (·.2)).map tI))) := (L3.ex hE4).ex (Ex.new hc)
      have hm5 : (updM μ4 c (.lst ((L.map (·.2)).map tI))) c = some (.lst ((L.map (·.2)).map tI)) := updM_same
      obtain ⟨c1, c2, c3⟩ := (L3.ex hE4).fresh hc
      generalize updM μ4 c (.lst ((L.map (·.2)).map tI)) = μ5 at L5 hm5
      have key : ∀ d' : List Int, Vd d' → d'.length = k → (d' ∈ L.map (·.2) ↔ ¬ Tri (E d') ∧ ¬ Ref (Tk rs) (E d')) := fun d' V' hd' => by
        rw [← reach_iff hrr (by omega) V', List.mem_map]
        constructor
        · rintro ⟨x, hx, rfl⟩
          exact ⟨x.1, (hLi x).mp hx⟩
        · rintro ⟨row, h⟩
          exact ⟨(row, d'), (hLi _).mpr h, rfl⟩
      generalize L.map (·.2) = sl at key hm5
      refine ⟨rs, d, c, sl, rfl, ⟨hrr, by omega, V⟩, hm5, key d V hd, fun μ6 hE6 => ?_⟩
      simp only [mFor, bodySp, mSeq, mRet, mRetN, mExp, mOp, mUn, mVar, mC, mB, mCons, mNil, mSet, mPar, mPar3, mCall, mTest, mIfS, mIf, mAnd, mOr, mNot, mAndV, mOrV, mNotV, mChain, mNx, mPass, mAsg, gNm, gTp, gsCons, gsNil, mIt, mEnum, mR1, mR2, rk1, rk2, mTup, mLst, mYes, mAug, mSl, mPart, mNoPart, addD_i, addD_t, addD_r, addD_s, subD_i, mulD_i, mulD_r, divD_i, modD_i, powD_i, ltD_i, leD_i, gtD_i, geD_i, eqD_i, eqD_s, eqD_r, neD_i, neD_s, neD_r, isND, notND, negD_i, revD_t, revD_r, lenR_t, listR_t, tupR_t, mListRg, mTupRg, mRg1, mRg2, ipAdd, ipSub, List.map_cons, List.map_nil, List.length_cons, List.length_nil, List.replicate, List.cons_append, List.nil_append, List.append_nil, List.getElem?_cons_zero, List.getElem?_cons_succ, List.set_cons_zero, List.set_cons_succ, Option.some.injEq, exists_eq_left', List.cons.injEq, and_assoc, D.int.injEq, D.bl.injEq, D.str.injEq, D.tup.injEq, D.wtup.injEq, D.flst.injEq, D.ref.injEq, wipeD, Nat.reduceSub, Nat.reduceAdd, true_and, and_true, Bool.false_eq_true, if_false, if_true, exists_and_left, exists_and_right, exists_eq_left, reduceCtorEq, false_and, exists_false, or_false, false_or, exists_const, ite_true, ite_false, ↓reduceIte, Bool.not_true, Bool.not_false, Bool.true_eq_false, Nat.zero_eq, Nat.succ_eq_add_one, Nat.sub_self, Nat.sub_zero, Nat.reduceEqDiff]
      refine ⟨by omega, by omega, ?_⟩
      refine forD_rng 4 (fun t δ μ => ∃ (n' : Nat) (o7 o8 o9 : Option D), δ = [some (.flst (nI l)), some (.ref m), some (.int j), some (.int k), some (.tup (rs.map tI)), some (tI d), some (.ref c), o7, o8, o9] ∧ LM m cA g n' μ ∧ n' ≤ n3 + t * 10 ∧ μ c = some (.lst (sl.map tI))) (fun _ => trivial) ?_ ?_ _ _ ⟨n3, _, _, _, rfl, L5.ex hE6, by omega, hE6.at hm5⟩
      · rintro _ μ7 ⟨n', o7, o8, o9, rfl, L7, hn', _⟩
        exact hN _ _ ⟨n', _, _, _, _, _, _, _, _, rfl, L7, by omega⟩
      · rintro t _ μ7 N2 ht hN2 ⟨n', o7, o8, o9, rfl, L7, hn', hm7⟩
        simp only [mFor, bodySp, mSeq, mRet, mRetN, mExp, mOp, mUn, mVar, mC, mB, mCons, mNil, mSet, mPar, mPar3, mCall, mTest, mIfS, mIf, mAnd, mOr, mNot, mAndV, mOrV, mNotV, mChain, mNx, mPass, mAsg, gNm, gTp, gsCons, gsNil, mIt, mEnum, mR1, mR2, rk1, rk2, mTup, mLst, mYes, mAug, mSl, mPart, mNoPart, addD_i, addD_t, addD_r, addD_s, subD_i, mulD_i, mulD_r, divD_i, modD_i, powD_i, ltD_i, leD_i, gtD_i, geD_i, eqD_i, eqD_s, eqD_r, neD_i, neD_s, neD_r, isND, notND, negD_i, revD_t, revD_r, lenR_t, listR_t, tupR_t, mListRg, mTupRg, mRg1, mRg2, ipAdd, ipSub, List.map_cons, List.map_nil, List.length_cons, List.length_nil, List.replicate, List.cons_append, List.nil_append, List.append_nil, List.getElem?_cons_zero, List.getElem?_cons_succ, List.set_cons_zero, List.set_cons_succ, Option.some.injEq, exists_eq_left', List.cons.injEq, and_assoc, D.int.injEq, D.bl.injEq, D.str.injEq, D.tup.injEq, D.wtup.injEq, D.flst.injEq, D.ref.injEq, wipeD, Nat.reduceSub, Nat.reduceAdd, true_and, and_true, Bool.false_eq_true, if_false, if_true, exists_and_left, exists_and_right, exists_eq_left, reduceCtorEq, false_and, exists_false, or_false, false_or, exists_const, ite_true, ite_false, ↓reduceIte, Bool.not_true, Bool.not_false, Bool.true_eq_false, Nat.zero_eq, Nat.succ_eq_add_one, Nat.sub_self, Nat.sub_zero, Nat.reduceEqDiff]
        refine ⟨RgOk.of_le (by omega) (by omega) (by omega) (by omega), fun p hp => ?_⟩
        rw [rgD_ints]
        refine ⟨m, cA, g, _, p, _, rfl, L7.ex (Ex.new hp), .inl updM_same, by simp; omega, fun r ys μ8 hr0 hys L8 K8 hm8 => ?_⟩
        obtain ⟨row, rfl, hperm⟩ := perm_nI hys
        have hrk : Rk row k := by
          have h1 : ((List.range ((k : Int) - 0).toNat).map fun i : Nat => (0 : Int) + i) = iota k := by unfold iota; simp
          rw [h1] at hperm
          exact ⟨by rw [hperm.length_eq, (iota_rk k).len], fun x hx => (iota_rk k).bd x (hperm.mem_iff.mp hx), hperm.nodup_iff.mpr (iota_rk k).nd⟩
        have hlm : (List.map (fun i : Nat => (0 : Int) + i) (List.range ((k : Int) - 0).toNat)).length = k := by simp
        rw [nI_len, hlm] at L8
        have hm8c : μ8 c = some (.lst (sl.map tI)) := K8 c _ (not_mg c1 c3) (by rw [updM_ne (mu_ne hm7 hp)]; exact hm7)
        refine ⟨_, .inl hm8, ?_⟩
        refine ⟨row, k, rfl, ⟨hrk, k3, by omega⟩, fun q cs μ9 hq E9 hm9 hcs hlen => ?_⟩
        have L9 := L8.ex E9
        have hm9c := E9.at hm8c
        simp only [slD_r, bodySp, mSeq, mRet, mRetN, mExp, mOp, mUn, mVar, mC, mB, mCons, mNil, mSet, mPar, mPar3, mCall, mTest, mIfS, mIf, mAnd, mOr, mNot, mAndV, mOrV, mNotV, mChain, mNx, mPass, mAsg, gNm, gTp, gsCons, gsNil, mIt, mEnum, mR1, mR2, rk1, rk2, mTup, mLst, mYes, mAug, mSl, mPart, mNoPart, addD_i, addD_t, addD_r, addD_s, subD_i, mulD_i, mulD_r, divD_i, modD_i, powD_i, ltD_i, leD_i, gtD_i, geD_i, eqD_i, eqD_s, eqD_r, neD_i, neD_s, neD_r, isND, notND, negD_i, revD_t, revD_r, lenR_t, listR_t, tupR_t, mListRg, mTupRg, mRg1, mRg2, ipAdd, ipSub, List.map_cons, List.map_nil, List.length_cons, List.length_nil, List.replicate, List.cons_append, List.nil_append, List.append_nil, List.getElem?_cons_zero, List.getElem?_cons_succ, List.set_cons_zero, List.set_cons_succ, Option.some.injEq, exists_eq_left', List.cons.injEq, and_assoc, D.int.injEq, D.bl.injEq, D.str.injEq, D.tup.injEq, D.wtup.injEq, D.flst.injEq, D.ref.injEq, wipeD, Nat.reduceSub, Nat.reduceAdd, true_and, and_true, Bool.false_eq_true, if_false, if_true, exists_and_left, exists_and_right, exists_eq_left, reduceCtorEq, false_and, exists_false, or_false, false_or, exists_const, ite_true, ite_false, ↓reduceIte, Bool.not_true, Bool.not_false, Bool.true_eq_false, Nat.zero_eq, Nat.succ_eq_add_one, Nat.sub_self, Nat.sub_zero, Nat.reduceEqDiff]
        refine ⟨_, .inl hm9, fun z hz => ?_⟩
        obtain ⟨i, ei⟩ := cutD_take (xs := cs.map tI) (c := 6) (by omega)
        rw [ei, ← List.map_take]
        have L10 := L9.ex (Ex.new (o := .lst ((cs.take i).map tI)) hz)
        have hm10c : (updM μ9 z (.lst ((cs.take i).map tI))) c = some (.lst (sl.map tI)) := by rw [updM_ne (mu_ne hm9c hz)]; exact hm9c
        have hm10 : (updM μ9 z (.lst ((cs.take i).map tI))) z = some (.lst ((cs.take i).map tI)) := updM_same
        generalize updM μ9 z (.lst ((cs.take i).map tI)) = μ10 at L10 hm10c hm10
        refine ⟨_, .inl hm10, ?_⟩
        refine forD_ix _ (fun u δ μ => ∃ o9, δ = [some (.flst (nI l)), some (.ref m), some (.int j), some (.int k), some (.tup (rs.map tI)), some (tI d), some (.ref c), some (.int t), some (tI row), o9] ∧ Ex μ10 μ) (fun u δ μ ⟨_, _, hE⟩ => .inl (hE.at hm10)) ?_ ?_ _ _ ⟨_, rfl, Ex.refl⟩
        · rintro _ μ11 ⟨o9, rfl, hE⟩
          exact hN2 _ _ ⟨_, _, _, _, rfl, L10.ex hE, by omega, hE.at hm10c⟩
        · rintro u x _ μ11 N3 hx hN3 ⟨o9, rfl, hE⟩
          obtain ⟨d', hd', rfl⟩ := List.mem_map.mp (List.mem_of_getElem? hx)
          have hc' := hcs d' (List.mem_of_mem_take hd')
          simp only [bodySp, mSeq, mRet, mRetN, mExp, mOp, mUn, mVar, mC, mB, mCons, mNil, mSet, mPar, mPar3, mCall, mTest, mIfS, mIf, mAnd, mOr, mNot, mAndV, mOrV, mNotV, mChain, mNx, mPass, mAsg, gNm, gTp, gsCons, gsNil, mIt, mEnum, mR1, mR2, rk1, rk2, mTup, mLst, mYes, mAug, mSl, mPart, mNoPart, addD_i, addD_t, addD_r, addD_s, subD_i, mulD_i, mulD_r, divD_i, modD_i, powD_i, ltD_i, leD_i, gtD_i, geD_i, eqD_i, eqD_s, eqD_r, neD_i, neD_s, neD_r, isND, notND, negD_i, revD_t, revD_r, lenR_t, listR_t, tupR_t, mListRg, mTupRg, mRg1, mRg2, ipAdd, ipSub, List.map_cons, List.map_nil, List.length_cons, List.length_nil, List.replicate, List.cons_append, List.nil_append, List.append_nil, List.getElem?_cons_zero, List.getElem?_cons_succ, List.set_cons_zero, List.set_cons_succ, Option.some.injEq, exists_eq_left', List.cons.injEq, and_assoc, D.int.injEq, D.bl.injEq, D.str.injEq, D.tup.injEq, D.wtup.injEq, D.flst.injEq, D.ref.injEq, wipeD, Nat.reduceSub, Nat.reduceAdd, true_and, and_true, Bool.false_eq_true, if_false, if_true, exists_and_left, exists_and_right, exists_eq_left, reduceCtorEq, false_and, exists_false, or_false, false_or, exists_const, ite_true, ite_false, ↓reduceIte, Bool.not_true, Bool.not_false, Bool.true_eq_false, Nat.zero_eq, Nat.succ_eq_add_one, Nat.sub_self, Nat.sub_zero, Nat.reduceEqDiff]
          refine ⟨rs, d', c, sl, rfl, ⟨hrr, by omega, hc'.1⟩, hE.at hm10c, key d' hc'.1 hc'.2, fun μ12 hE12 => ?_⟩
          simp only [bodySp, mSeq, mRet, mRetN, mExp, mOp, mUn, mVar, mC, mB, mCons, mNil, mSet, mPar, mPar3, mCall, mTest, mIfS, mIf, mAnd, mOr, mNot, mAndV, mOrV, mNotV, mChain, mNx, mPass, mAsg, gNm, gTp, gsCons, gsNil, mIt, mEnum, mR1, mR2, rk1, rk2, mTup, mLst, mYes, mAug, mSl, mPart, mNoPart, addD_i, addD_t, addD_r, addD_s, subD_i, mulD_i, mulD_r, divD_i, modD_i, powD_i, ltD_i, leD_i, gtD_i, geD_i, eqD_i, eqD_s, eqD_r, neD_i, neD_s, neD_r, isND, notND, negD_i, revD_t, revD_r, lenR_t, listR_t, tupR_t, mListRg, mTupRg, mRg1, mRg2, ipAdd, ipSub, List.map_cons, List.map_nil, List.length_cons, List.length_nil, List.replicate, List.cons_append, List.nil_append, List.append_nil, List.getElem?_cons_zero, List.getElem?_cons_succ, List.set_cons_zero, List.set_cons_succ, Option.some.injEq, exists_eq_left', List.cons.injEq, and_assoc, D.int.injEq, D.bl.injEq, D.str.injEq, D.tup.injEq, D.wtup.injEq, D.flst.injEq, D.ref.injEq, wipeD, Nat.reduceSub, Nat.reduceAdd, true_and, and_true, Bool.false_eq_true, if_false, if_true, exists_and_left, exists_and_right, exists_eq_left, reduceCtorEq, false_and, exists_false, or_false, false_or, exists_const, ite_true, ite_false, ↓reduceIte, Bool.not_true, Bool.not_false, Bool.true_eq_false, Nat.zero_eq, Nat.succ_eq_add_one, Nat.sub_self, Nat.sub_zero, Nat.reduceEqDiff]
          exact hN3 _ _ ⟨_, rfl, hE.trans hE12⟩
end Sw

set_option Elab.async false
set_option linter.all false
set_option maxRecDepth 100000
set_option maxHeartbeats 0
namespace Sw
open PySem PySem.Spec PyProof.Rows L2 DL
def topS (i : Nat) : Stmt := PySem.Challenge.pw_swaprow_k53_whole_rings_decided.main.body.getD i (.Pass ⟨0, 0, 0, 0⟩)
abbrev s_InvalidRankings_init : Stmt := inClass (topS 2) 0
abbrev s_LimitExceeded_init : Stmt := inClass (topS 3) 0
abbrev s_InvalidDisplacements_init : Stmt := inClass (topS 4) 0
abbrev s_is_integer : Stmt := topS 7
abbrev s_is_number_below : Stmt := topS 8
abbrev s_is_ranking : Stmt := topS 9
abbrev s_check_rankings : Stmt := topS 10
abbrev s_rank_tables : Stmt := topS 11
abbrev s_check_displacements : Stmt := topS 14
abbrev s_check_ring : Stmt := topS 15
abbrev s_check_both : Stmt := topS 16
abbrev s_end_of_copy : Stmt := topS 17
abbrev s_later_copies : Stmt := topS 18
abbrev s_inversions_there : Stmt := topS 19
abbrev s_triple_there : Stmt := topS 20
abbrev s_place_there : Stmt := topS 21
abbrev s_refusals_there : Stmt := topS 22
abbrev s_sequence_for : Stmt := topS 23
abbrev s_decide_there : Stmt := topS 24
abbrev s_decide_ring : Stmt := topS 25
abbrev s_law_mixed : Stmt := topS 27
abbrev s_law_folded : Stmt := topS 28
abbrev s_law_draw : Stmt := topS 29
abbrev s_law_begun : Stmt := topS 30
abbrev s_law_mixed_up : Stmt := topS 31
abbrev s_law_ring_walk : Stmt := topS 32
abbrev s_law_ring_lists : Stmt := topS 33
abbrev s_law_likes_more : Stmt := topS 34
abbrev s_law_ring_may : Stmt := topS 35
abbrev s_law_ring_after : Stmt := topS 36
abbrev s_law_ring_all : Stmt := topS 37
abbrev s_law_ring_ended : Stmt := topS 38
abbrev s_law_ring_pairs : Stmt := topS 39
abbrev s_law_ring_triples : Stmt := topS 40
abbrev s_law_ring_place : Stmt := topS 41
abbrev s_law_ring_refusals : Stmt := topS 42
abbrev s_law_ring_run : Stmt := topS 43
abbrev s_law_ring_choices : Stmt := topS 44
abbrev s_law_ring_word : Stmt := topS 45
abbrev s_law_are_integers : Stmt := topS 46
abbrev s_law_ring_case : Stmt := topS 47
abbrev s_law_right : Stmt := topS 48
abbrev s_law : Stmt := topS 49
abbrev RR : PySem.W.OpenRow := PySem.W.OpenLaw.row PySem.Challenge.rw_swaprow_k53_whole_rings_decided
structure Fx (K : PySem.W.Frag) (mg : Str → Option Value) : Prop where
  f_is_integer : ∃ f fd, mg "is_integer" = some (.ref f) ∧ FunD K "is_integer" "is_integer" (defArgs s_is_integer) (defBody s_is_integer) (defScope s_is_integer) [] [] f fd
  f_is_number_below : ∃ f fd, mg "is_number_below" = some (.ref f) ∧ FunD K "is_number_below" "is_number_below" (defArgs s_is_number_below) (defBody s_is_number_below) (defScope s_is_number_below) [] [] f fd
  f_is_ranking : ∃ f fd, mg "is_ranking" = some (.ref f) ∧ FunD K "is_ranking" "is_ranking" (defArgs s_is_ranking) (defBody s_is_ranking) (defScope s_is_ranking) [] [] f fd
  f_check_rankings : ∃ f fd, mg "check_rankings" = some (.ref f) ∧ FunD K "check_rankings" "check_rankings" (defArgs s_check_rankings) (defBody s_check_rankings) (defScope s_check_rankings) [] [] f fd
  f_rank_tables : ∃ f fd, mg "rank_tables" = some (.ref f) ∧ FunD K "rank_tables" "rank_tables" (defArgs s_rank_tables) (defBody s_rank_tables) (defScope s_rank_tables) [] [] f fd
  f_check_displacements : ∃ f fd, mg "check_displacements" = some (.ref f) ∧ FunD K "check_displacements" "check_displacements" (defArgs s_check_displacements) (defBody s_check_displacements) (defScope s_check_displacements) [] [] f fd
  f_check_ring : ∃ f fd, mg "check_ring" = some (.ref f) ∧ FunD K "check_ring" "check_ring" (defArgs s_check_ring) (defBody s_check_ring) (defScope s_check_ring) [] [] f fd
  f_check_both : ∃ f fd, mg "check_both" = some (.ref f) ∧ FunD K "check_both" "check_both" (defArgs s_check_both) (defBody s_check_both) (defScope s_check_both) [] [] f fd
  f_end_of_copy : ∃ f fd, mg "end_of_copy" = some (.ref f) ∧ FunD K "end_of_copy" "end_of_copy" (defArgs s_end_of_copy) (defBody s_end_of_copy) (defScope s_end_of_copy) [] [] f fd
  f_later_copies : ∃ f fd, mg "later_copies" = some (.ref f) ∧ FunD K "later_copies" "later_copies" (defArgs s_later_copies) (defBody s_later_copies) (defScope s_later_copies) [] [] f fd
  f_inversions_there : ∃ f fd, mg "inversions_there" = some (.ref f) ∧ FunD K "inversions_there" "inversions_there" (defArgs s_inversions_there) (defBody s_inversions_there) (defScope s_inversions_there) [] [] f fd
  f_triple_there : ∃ f fd, mg "triple_there" = some (.ref f) ∧ FunD K "triple_there" "triple_there" (defArgs s_triple_there) (defBody s_triple_there) (defScope s_triple_there) [] [] f fd
  f_place_there : ∃ f fd, mg "place_there" = some (.ref f) ∧ FunD K "place_there" "place_there" (defArgs s_place_there) (defBody s_place_there) (defScope s_place_there) [] [] f fd
  f_refusals_there : ∃ f fd, mg "refusals_there" = some (.ref f) ∧ FunD K "refusals_there" "refusals_there" (defArgs s_refusals_there) (defBody s_refusals_there) (defScope s_refusals_there) [] [] f fd
  f_sequence_for : ∃ f fd, mg "sequence_for" = some (.ref f) ∧ FunD K "sequence_for" "sequence_for" (defArgs s_sequence_for) (defBody s_sequence_for) (defScope s_sequence_for) [] [] f fd
  f_decide_there : ∃ f fd, mg "decide_there" = some (.ref f) ∧ FunD K "decide_there" "decide_there" (defArgs s_decide_there) (defBody s_decide_there) (defScope s_decide_there) [] [] f fd
  f_decide_ring : ∃ f fd, mg "decide_ring" = some (.ref f) ∧ FunD K "decide_ring" "decide_ring" (defArgs s_decide_ring) (defBody s_decide_ring) (defScope s_decide_ring) [] [] f fd
  f_law_mixed : ∃ f fd, mg "_law_mixed" = some (.ref f) ∧ FunD K "_law_mixed" "_law_mixed" (defArgs s_law_mixed) (defBody s_law_mixed) (defScope s_law_mixed) [] [] f fd
  f_law_folded : ∃ f fd, mg "_law_folded" = some (.ref f) ∧ FunD K "_law_folded" "_law_folded" (defArgs s_law_folded) (defBody s_law_folded) (defScope s_law_folded) [] [] f fd
  f_law_draw : ∃ f fd, mg "_law_draw" = some (.ref f) ∧ FunD K "_law_draw" "_law_draw" (defArgs s_law_draw) (defBody s_law_draw) (defScope s_law_draw) [] [] f fd
  f_law_begun : ∃ f fd, mg "_law_begun" = some (.ref f) ∧ FunD K "_law_begun" "_law_begun" (defArgs s_law_begun) (defBody s_law_begun) (defScope s_law_begun) [] [] f fd
  f_law_mixed_up : ∃ f fd, mg "_law_mixed_up" = some (.ref f) ∧ FunD K "_law_mixed_up" "_law_mixed_up" (defArgs s_law_mixed_up) (defBody s_law_mixed_up) (defScope s_law_mixed_up) [] [] f fd
  f_law_ring_walk : ∃ f fd, mg "_law_ring_walk" = some (.ref f) ∧ FunD K "_law_ring_walk" "_law_ring_walk" (defArgs s_law_ring_walk) (defBody s_law_ring_walk) (defScope s_law_ring_walk) [] [] f fd
  f_law_ring_lists : ∃ f fd, mg "_law_ring_lists" = some (.ref f) ∧ FunD K "_law_ring_lists" "_law_ring_lists" (defArgs s_law_ring_lists) (defBody s_law_ring_lists) (defScope s_law_ring_lists) [] [] f fd
  f_law_likes_more : ∃ f fd, mg "_law_likes_more" = some (.ref f) ∧ FunD K "_law_likes_more" "_law_likes_more" (defArgs s_law_likes_more) (defBody s_law_likes_more) (defScope s_law_likes_more) [] [] f fd
  f_law_ring_may : ∃ f fd, mg "_law_ring_may" = some (.ref f) ∧ FunD K "_law_ring_may" "_law_ring_may" (defArgs s_law_ring_may) (defBody s_law_ring_may) (defScope s_law_ring_may) [] [] f fd
  f_law_ring_after : ∃ f fd, mg "_law_ring_after" = some (.ref f) ∧ FunD K "_law_ring_after" "_law_ring_after" (defArgs s_law_ring_after) (defBody s_law_ring_after) (defScope s_law_ring_after) [] [] f fd
  f_law_ring_all : ∃ f fd, mg "_law_ring_all" = some (.ref f) ∧ FunD K "_law_ring_all" "_law_ring_all" (defArgs s_law_ring_all) (defBody s_law_ring_all) (defScope s_law_ring_all) [] [] f fd
  f_law_ring_ended : ∃ f fd, mg "_law_ring_ended" = some (.ref f) ∧ FunD K "_law_ring_ended" "_law_ring_ended" (defArgs s_law_ring_ended) (defBody s_law_ring_ended) (defScope s_law_ring_ended) [] [] f fd
  f_law_ring_pairs : ∃ f fd, mg "_law_ring_pairs" = some (.ref f) ∧ FunD K "_law_ring_pairs" "_law_ring_pairs" (defArgs s_law_ring_pairs) (defBody s_law_ring_pairs) (defScope s_law_ring_pairs) [] [] f fd
  f_law_ring_triples : ∃ f fd, mg "_law_ring_triples" = some (.ref f) ∧ FunD K "_law_ring_triples" "_law_ring_triples" (defArgs s_law_ring_triples) (defBody s_law_ring_triples) (defScope s_law_ring_triples) [] [] f fd
  f_law_ring_place : ∃ f fd, mg "_law_ring_place" = some (.ref f) ∧ FunD K "_law_ring_place" "_law_ring_place" (defArgs s_law_ring_place) (defBody s_law_ring_place) (defScope s_law_ring_place) [] [] f fd
  f_law_ring_refusals : ∃ f fd, mg "_law_ring_refusals" = some (.ref f) ∧ FunD K "_law_ring_refusals" "_law_ring_refusals" (defArgs s_law_ring_refusals) (defBody s_law_ring_refusals) (defScope s_law_ring_refusals) [] [] f fd
  f_law_ring_run : ∃ f fd, mg "_law_ring_run" = some (.ref f) ∧ FunD K "_law_ring_run" "_law_ring_run" (defArgs s_law_ring_run) (defBody s_law_ring_run) (defScope s_law_ring_run) [] [] f fd
  f_law_ring_choices : ∃ f fd, mg "_law_ring_choices" = some (.ref f) ∧ FunD K "_law_ring_choices" "_law_ring_choices" (defArgs s_law_ring_choices) (defBody s_law_ring_choices) (defScope s_law_ring_choices) [] [] f fd
  f_law_are_integers : ∃ f fd, mg "_law_are_integers" = some (.ref f) ∧ FunD K "_law_are_integers" "_law_are_integers" (defArgs s_law_are_integers) (defBody s_law_are_integers) (defScope s_law_are_integers) [] [] f fd
  f_law_ring_word : ∃ f fd, mg "_law_ring_word" = some (.ref f) ∧ FunD K "_law_ring_word" "_law_ring_word" (defArgs s_law_ring_word) (defBody s_law_ring_word) (defScope s_law_ring_word) [] [] f fd
  f_law_ring_case : ∃ f fd, mg "_law_ring_case" = some (.ref f) ∧ FunD K "_law_ring_case" "_law_ring_case" (defArgs s_law_ring_case) (defBody s_law_ring_case) (defScope s_law_ring_case) [] [] f fd
  f_law_right : ∃ f fd, mg "_law_right" = some (.ref f) ∧ FunD K "_law_right" "_law_right" (defArgs s_law_right) (defBody s_law_right) (defScope s_law_right) [] [] f fd
  f_law : ∃ f fd, mg "law" = some (.ref f) ∧ FunD K "law" "law" (defArgs s_law) (defBody s_law) (defScope s_law) [] [] f fd
  n_ValueError : mg "ValueError" = none
  n_all : mg "all" = none
  n_any : mg "any" = none
  n_bool : mg "bool" = none
  n_enumerate : mg "enumerate" = none
  n_int : mg "int" = none
  n_isinstance : mg "isinstance" = none
  n_len : mg "len" = none
  n_list : mg "list" = none
  n_range : mg "range" = none
  n_set : mg "set" = none
  n_sorted : mg "sorted" = none
  n_str : mg "str" = none
  n_sum : mg "sum" = none
  n_tuple : mg "tuple" = none
  g_MAX_PEOPLE : ∃ t, mg "MAX_PEOPLE" = some (.int 40 t)
  g_MAX_RING : ∃ t, mg "MAX_RING" = some (.int 20 t)
theorem sc_is_integer : FnScope N_is_integer P_is_integer (defScope s_is_integer) := ⟨rfl, rfl, rfl, by decide +kernel, rfl, by decide +kernel, by decide +kernel⟩
theorem ok_is_integer {w : World} {K : PySem.W.Frag} {mg : Str → Option Value} {base : Heap} {f : Addr} {fd : FuncData} (F : Fx K mg) (FD : FunD K "is_integer" "is_integer" (defArgs s_is_integer) (defBody s_is_integer) (defScope s_is_integer) [] [] f fd) :
    FnOk RR.prog w K mg base (L2.CX RR.prog w) 2 f fd P_is_integer (upSp K sp_is_integer) :=
  fnOk_of (m := 0) FD sc_is_integer (fun cdv A outer s H E c =>
  (mss_one (ms_ret (me_and (me_isi F.n_isinstance (ma_cons (me_v 0) (ma_cons (me_bty F.n_int (by decide +kernel)) ma_nil))) (me_one (me_not (me_isi F.n_isinstance (ma_cons (me_v 0) (ma_cons (me_bty F.n_bool (by decide +kernel)) ma_nil))))))))) law_is_integer
theorem fn_is_integer {w : World} {K : PySem.W.Frag} {mg : Str → Option Value} {base : Heap} (F : Fx K mg) : Fnc RR.prog w K mg base "is_integer" 2 P_is_integer [] sp_is_integer := by
  obtain ⟨f, fd, hm, FD⟩ := F.f_is_integer
  exact ⟨f, fd, [], [], hm, FD.kp, FD.bindsN (fun _ _ _ _ _ _ us hl => match us, hl with | [_], _ => rfl), .nil, fun _ => Dens.nil.mpr rfl, ok_is_integer F FD⟩
theorem sc_is_number_below : FnScope N_is_number_below P_is_number_below (defScope s_is_number_below) := ⟨rfl, rfl, rfl, by decide +kernel, rfl, by decide +kernel, by decide +kernel⟩
theorem ok_is_number_below {w : World} {K : PySem.W.Frag} {mg : Str → Option Value} {base : Heap} {f : Addr} {fd : FuncData} (F : Fx K mg) (FD : FunD K "is_number_below" "is_number_below" (defArgs s_is_number_below) (defBody s_is_number_below) (defScope s_is_number_below) [] [] f fd) :
    FnOk RR.prog w K mg base (L2.CX RR.prog w) 3 f fd P_is_number_below (upSp K sp_is_number_below) :=
  fnOk_of (m := 1) FD sc_is_number_below (fun cdv A outer s H E c =>
  (mss_one (ms_ret (me_and (me_call c (fn_is_integer F) (ma_cons (me_v 0) ma_nil)) (me_one (me_chain opd_le opd_lt me_int (me_v 0) (me_v 1))))))) law_is_number_below
theorem fn_is_number_below {w : World} {K : PySem.W.Frag} {mg : Str → Option Value} {base : Heap} (F : Fx K mg) : Fnc RR.prog w K mg base "is_number_below" 3 P_is_number_below [] sp_is_number_below := by
  obtain ⟨f, fd, hm, FD⟩ := F.f_is_number_below
  exact ⟨f, fd, [], [], hm, FD.kp, FD.bindsN (fun _ _ _ _ _ _ us hl => match us, hl with | [_, _], _ => rfl), .nil, fun _ => Dens.nil.mpr rfl, ok_is_number_below F FD⟩
theorem sc_is_ranking : FnScope N_is_ranking P_is_ranking (defScope s_is_ranking) := ⟨rfl, rfl, rfl, by decide +kernel, rfl, by decide +kernel, by decide +kernel⟩
theorem ok_is_ranking {w : World} {K : PySem.W.Frag} {mg : Str → Option Value} {base : Heap} {f : Addr} {fd : FuncData} (F : Fx K mg) (FD : FunD K "is_ranking" "is_ranking" (defArgs s_is_ranking) (defBody s_is_ranking) (defScope s_is_ranking) [] [] f fd) :
    FnOk RR.prog w K mg base (L2.CX RR.prog w) 4 f fd P_is_ranking (upSp K sp_is_ranking) :=
  fnOk_of (m := 2) FD sc_is_ranking (fun cdv A outer s H E c =>
  (mss_cons (ms_if (MW.mt (mw_or (mt_not (mt_val (me_isi F.n_isinstance (ma_cons (me_v 0) (ma_cons (me_bty F.n_tuple (by decide +kernel)) ma_nil))))) (mw_or (mt_cmp (opd_ne c) (me_len F.n_len (me_v 0)) (me_v 1) (by with_unfolding_all rfl)) (mw_or1 (mt_not (mt_val (me_all c F.n_all (me_lc (own := [("item", 2)]) c (blkOk_by (by kernel_rfl)) (mi_it (me_v 0)) (fun _ _ _ _ _ => (mg_nm (c.blk) 2)) (fun _ _ _ _ _ => mts_nil) (fun _ _ _ _ _ => (me_call (c.blk) (fn_is_number_below F) (ma_cons (me_v 2) (ma_cons (me_v 1) ma_nil))))))))))))
  (mss_one (ms_ret me_bl))
  mss_nil)
  (mss_one (ms_ret (me_cmp (opd_eq c) (me_lenSet c F.n_len F.n_set (me_v 0)) (me_v 1) (by with_unfolding_all rfl)))))) law_is_ranking
theorem fn_is_ranking {w : World} {K : PySem.W.Frag} {mg : Str → Option Value} {base : Heap} (F : Fx K mg) : Fnc RR.prog w K mg base "is_ranking" 4 P_is_ranking [] sp_is_ranking := by
  obtain ⟨f, fd, hm, FD⟩ := F.f_is_ranking
  exact ⟨f, fd, [], [], hm, FD.kp, FD.bindsN (fun _ _ _ _ _ _ us hl => match us, hl with | [_, _], _ => rfl), .nil, fun _ => Dens.nil.mpr rfl, ok_is_ranking F FD⟩
theorem sc_check_rankings : FnScope N_check_rankings P_check_rankings (defScope s_check_rankings) := ⟨rfl, rfl, rfl, by decide +kernel, rfl, by decide +kernel, by decide +kernel⟩
theorem ok_check_rankings {w : World} {K : PySem.W.Frag} {mg : Str → Option Value} {base : Heap} {f : Addr} {fd : FuncData} (F : Fx K mg) (FD : FunD K "check_rankings" "check_rankings" (defArgs s_check_rankings) (defBody s_check_rankings) (defScope s_check_rankings) [] [] f fd) :
    FnOk RR.prog w K mg base (L2.CX RR.prog w) 5 f fd P_check_rankings (upSp K sp_check_rankings) :=
  fnOk_of (m := 3) FD sc_check_rankings (fun cdv A outer s H E c =>
  (mss_cons (ms_if (MW.mt (mw_or (mt_not (mt_val (me_isi F.n_isinstance (ma_cons (me_v 0) (ma_cons (me_bty F.n_tuple (by decide +kernel)) ma_nil))))) (mw_or1 (mt_not (mt_chain opd_le opd_le me_int (me_len F.n_len (me_v 0)) (me_gint F.g_MAX_PEOPLE))))))
  (mss_one ms_never)
  mss_nil)
  (mss_one (ms_for c (mi_enum F.n_enumerate (me_v 0)) (mg_tp c (mgs_cons (mg_nm c 1) (mgs_cons (mg_nm c 2) mgs_nil)))
  (mss_one (ms_if (mt_not (mt_val (me_call c (fn_is_ranking F) (ma_cons (me_v 2) (ma_cons (me_len F.n_len (me_v 0)) ma_nil)))))
  (mss_one ms_never)
  mss_nil)))))) law_check_rankings
theorem fn_check_rankings {w : World} {K : PySem.W.Frag} {mg : Str → Option Value} {base : Heap} (F : Fx K mg) : Fnc RR.prog w K mg base "check_rankings" 5 P_check_rankings [] sp_check_rankings := by
  obtain ⟨f, fd, hm, FD⟩ := F.f_check_rankings
  exact ⟨f, fd, [], [], hm, FD.kp, FD.bindsN (fun _ _ _ _ _ _ us hl => match us, hl with | [_], _ => rfl), .nil, fun _ => Dens.nil.mpr rfl, ok_check_rankings F FD⟩
theorem sc_rank_tables : FnScope N_rank_tables P_rank_tables (defScope s_rank_tables) := ⟨rfl, rfl, rfl, by decide +kernel, rfl, by decide +kernel, by decide +kernel⟩
theorem ok_rank_tables {w : World} {K : PySem.W.Frag} {mg : Str → Option Value} {base : Heap} {f : Addr} {fd : FuncData} (F : Fx K mg) (FD : FunD K "rank_tables" "rank_tables" (defArgs s_rank_tables) (defBody s_rank_tables) (defScope s_rank_tables) [] [] f fd) :
    FnOk RR.prog w K mg base (L2.CX RR.prog w) 2 f fd P_rank_tables (upSp K sp_rank_tables) :=
  fnOk_of (m := 0) FD sc_rank_tables (fun cdv A outer s H E c =>
  (mss_one (ms_ret (me_lc (own := [("ranking", 1)]) c (blkOk_by (by kernel_rfl)) (mi_it (me_v 0)) (fun _ _ _ _ _ => (mg_nm (c.blk) 1)) (fun _ _ _ _ _ => mts_nil) (fun _ _ _ _ _ => (me_dc (own := [("place", 2), ("item", 3)]) (c.blk) (blkOk_by (by kernel_rfl)) (mi_enum F.n_enumerate (me_v 1)) (fun _ _ _ _ _ => (mg_tp ((c.blk).blk) (mgs_cons (mg_nm ((c.blk).blk) 2) (mgs_cons (mg_nm ((c.blk).blk) 3) mgs_nil)))) (fun _ _ _ _ _ => mts_nil) (fun _ _ _ _ _ => (me_v 3)) (fun _ _ _ _ _ => (me_v 2)))))))) law_rank_tables
theorem fn_rank_tables {w : World} {K : PySem.W.Frag} {mg : Str → Option Value} {base : Heap} (F : Fx K mg) : Fnc RR.prog w K mg base "rank_tables" 2 P_rank_tables [] sp_rank_tables := by
  obtain ⟨f, fd, hm, FD⟩ := F.f_rank_tables
  exact ⟨f, fd, [], [], hm, FD.kp, FD.bindsN (fun _ _ _ _ _ _ us hl => match us, hl with | [_], _ => rfl), .nil, fun _ => Dens.nil.mpr rfl, ok_rank_tables F FD⟩
theorem sc_check_displacements : FnScope N_check_displacements P_check_displacements (defScope s_check_displacements) := ⟨rfl, rfl, rfl, by decide +kernel, rfl, by decide +kernel, by decide +kernel⟩
theorem ok_check_displacements {w : World} {K : PySem.W.Frag} {mg : Str → Option Value} {base : Heap} {f : Addr} {fd : FuncData} (F : Fx K mg) (FD : FunD K "check_displacements" "check_displacements" (defArgs s_check_displacements) (defBody s_check_displacements) (defScope s_check_displacements) [] [] f fd) :
    FnOk RR.prog w K mg base (L2.CX RR.prog w) 3 f fd P_check_displacements (upSp K sp_check_displacements) :=
  fnOk_of (m := 1) FD sc_check_displacements (fun cdv A outer s H E c =>
  (mss_cons (ms_if (MW.mt (mw_or (mt_not (mt_val (me_isi F.n_isinstance (ma_cons (me_v 0) (ma_cons (me_bty F.n_tuple (by decide +kernel)) ma_nil))))) (mw_or1 (mt_not (mt_chain opd_le opd_le me_int (me_len F.n_len (me_v 0)) (me_gint F.g_MAX_RING))))))
  (mss_one ms_never)
  mss_nil)
  (mss_cons (ms_set c 1 (me_len F.n_len (me_v 0)))
  (mss_cons (ms_for c (mi_enum F.n_enumerate (me_v 0)) (mg_tp c (mgs_cons (mg_nm c 2) (mgs_cons (mg_nm c 3) mgs_nil)))
  (mss_one (ms_if (MW.mt (mw_or (mt_not (mt_val (me_call c (fn_is_integer F) (ma_cons (me_v 3) ma_nil)))) (mw_or1 (mt_not (mt_chain opd_lt opd_lt (me_neg (me_v 1)) (me_v 3) (me_v 1))))))
  (mss_one ms_never)
  mss_nil)))
  (mss_one (ms_if (MW.mt (mw_or (mt_cmp (opd_ne c) (me_sum c F.n_sum (me_v 0)) me_int (by with_unfolding_all rfl)) (mw_or1 (mt_cmp (opd_ne c) (me_lenSet c F.n_len F.n_set (me_lc (own := [("item", 3), ("move", 4)]) c (blkOk_by (by kernel_rfl)) (mi_enum F.n_enumerate (me_v 0)) (fun _ _ _ _ _ => (mg_tp (c.blk) (mgs_cons (mg_nm (c.blk) 3) (mgs_cons (mg_nm (c.blk) 4) mgs_nil)))) (fun _ _ _ _ _ => mts_nil) (fun _ _ _ _ _ => (me_op opd_mod (me_op opd_add (me_v 3) (me_v 4)) (me_v 1))))) (me_v 1) (by with_unfolding_all rfl)))))
  (mss_one ms_never)
  mss_nil)))))) law_check_displacements
theorem fn_check_displacements {w : World} {K : PySem.W.Frag} {mg : Str → Option Value} {base : Heap} (F : Fx K mg) : Fnc RR.prog w K mg base "check_displacements" 3 P_check_displacements [] sp_check_displacements := by
  obtain ⟨f, fd, hm, FD⟩ := F.f_check_displacements
  exact ⟨f, fd, [], [], hm, FD.kp, FD.bindsN (fun _ _ _ _ _ _ us hl => match us, hl with | [_], _ => rfl), .nil, fun _ => Dens.nil.mpr rfl, ok_check_displacements F FD⟩
theorem sc_check_ring : FnScope N_check_ring P_check_ring (defScope s_check_ring) := ⟨rfl, rfl, rfl, by decide +kernel, rfl, by decide +kernel, by decide +kernel⟩
theorem ok_check_ring {w : World} {K : PySem.W.Frag} {mg : Str → Option Value} {base : Heap} {f : Addr} {fd : FuncData} (F : Fx K mg) (FD : FunD K "check_ring" "check_ring" (defArgs s_check_ring) (defBody s_check_ring) (defScope s_check_ring) [] [] f fd) :
    FnOk RR.prog w K mg base (L2.CX RR.prog w) 6 f fd P_check_ring (upSp K sp_check_ring) :=
  fnOk_of (m := 4) FD sc_check_ring (fun cdv A outer s H E c =>
  (mss_cons (ms_exp (me_call c (fn_check_rankings F) (ma_cons (me_v 0) ma_nil)))
  (mss_one (ms_if (mt_not (mt_chain opd_le opd_le me_int (me_len F.n_len (me_v 0)) (me_gint F.g_MAX_RING)))
  (mss_one ms_never)
  mss_nil)))) law_check_ring
theorem fn_check_ring {w : World} {K : PySem.W.Frag} {mg : Str → Option Value} {base : Heap} (F : Fx K mg) : Fnc RR.prog w K mg base "check_ring" 6 P_check_ring [] sp_check_ring := by
  obtain ⟨f, fd, hm, FD⟩ := F.f_check_ring
  exact ⟨f, fd, [], [], hm, FD.kp, FD.bindsN (fun _ _ _ _ _ _ us hl => match us, hl with | [_], _ => rfl), .nil, fun _ => Dens.nil.mpr rfl, ok_check_ring F FD⟩
theorem sc_check_both : FnScope N_check_both P_check_both (defScope s_check_both) := ⟨rfl, rfl, rfl, by decide +kernel, rfl, by decide +kernel, by decide +kernel⟩
theorem ok_check_both {w : World} {K : PySem.W.Frag} {mg : Str → Option Value} {base : Heap} {f : Addr} {fd : FuncData} (F : Fx K mg) (FD : FunD K "check_both" "check_both" (defArgs s_check_both) (defBody s_check_both) (defScope s_check_both) [] [] f fd) :
    FnOk RR.prog w K mg base (L2.CX RR.prog w) 7 f fd P_check_both (upSp K sp_check_both) :=
  fnOk_of (m := 5) FD sc_check_both (fun cdv A outer s H E c =>
  (mss_cons (ms_exp (me_call c (fn_check_ring F) (ma_cons (me_v 0) ma_nil)))
  (mss_cons (ms_exp (me_call c (fn_check_displacements F) (ma_cons (me_v 1) ma_nil)))
  (mss_one (ms_if (mt_cmp (opd_ne c) (me_len F.n_len (me_v 1)) (me_len F.n_len (me_v 0)) (by with_unfolding_all rfl))
  (mss_one ms_never)
  mss_nil))))) law_check_both
theorem fn_check_both {w : World} {K : PySem.W.Frag} {mg : Str → Option Value} {base : Heap} (F : Fx K mg) : Fnc RR.prog w K mg base "check_both" 7 P_check_both [] sp_check_both := by
  obtain ⟨f, fd, hm, FD⟩ := F.f_check_both
  exact ⟨f, fd, [], [], hm, FD.kp, FD.bindsN (fun _ _ _ _ _ _ us hl => match us, hl with | [_, _], _ => rfl), .nil, fun _ => Dens.nil.mpr rfl, ok_check_both F FD⟩
theorem sc_end_of_copy : FnScope N_end_of_copy P_end_of_copy (defScope s_end_of_copy) := ⟨rfl, rfl, rfl, by decide +kernel, rfl, by decide +kernel, by decide +kernel⟩
theorem ok_end_of_copy {w : World} {K : PySem.W.Frag} {mg : Str → Option Value} {base : Heap} {f : Addr} {fd : FuncData} (F : Fx K mg) (FD : FunD K "end_of_copy" "end_of_copy" (defArgs s_end_of_copy) (defBody s_end_of_copy) (defScope s_end_of_copy) [] [] f fd) :
    FnOk RR.prog w K mg base (L2.CX RR.prog w) 2 f fd P_end_of_copy (upSp K sp_end_of_copy) :=
  fnOk_of (m := 0) FD sc_end_of_copy (fun cdv A outer s H E c =>
  (mss_one (ms_ret (me_op opd_add (me_v 1) (me_ix c (me_v 0) (me_op opd_mod (me_v 1) (me_len F.n_len (me_v 0)))))))) law_end_of_copy
theorem fn_end_of_copy {w : World} {K : PySem.W.Frag} {mg : Str → Option Value} {base : Heap} (F : Fx K mg) : Fnc RR.prog w K mg base "end_of_copy" 2 P_end_of_copy [] sp_end_of_copy := by
  obtain ⟨f, fd, hm, FD⟩ := F.f_end_of_copy
  exact ⟨f, fd, [], [], hm, FD.kp, FD.bindsN (fun _ _ _ _ _ _ us hl => match us, hl with | [_, _], _ => rfl), .nil, fun _ => Dens.nil.mpr rfl, ok_end_of_copy F FD⟩
theorem sc_later_copies : FnScope N_later_copies P_later_copies (defScope s_later_copies) := ⟨rfl, rfl, rfl, by decide +kernel, rfl, by decide +kernel, by decide +kernel⟩
theorem ok_later_copies {w : World} {K : PySem.W.Frag} {mg : Str → Option Value} {base : Heap} {f : Addr} {fd : FuncData} (F : Fx K mg) (FD : FunD K "later_copies" "later_copies" (defArgs s_later_copies) (defBody s_later_copies) (defScope s_later_copies) [] [] f fd) :
    FnOk RR.prog w K mg base (L2.CX RR.prog w) 3 f fd P_later_copies (upSp K sp_later_copies) :=
  fnOk_of (m := 1) FD sc_later_copies (fun cdv A outer s H E c =>
  (mss_cons (ms_asg (me_tup (ma_cons (me_call c (fn_end_of_copy F) (ma_cons (me_v 0) (ma_cons (me_v 1) ma_nil))) (ma_cons (me_len F.n_len (me_v 0)) ma_nil))) (mg_tp c (mgs_cons (mg_nm c 2) (mgs_cons (mg_nm c 3) mgs_nil))))
  (mss_one (ms_ret (me_lc (own := [("other", 4)]) c (blkOk_by (by kernel_rfl)) (mi_r2 F.n_range (me_op opd_add (me_v 1) me_int) (me_op opd_sub (me_op opd_add (me_v 1) (me_op opd_mul me_int (me_v 3))) me_int)) (fun _ _ _ _ _ => (mg_nm (c.blk) 4)) (fun _ _ _ _ _ => (mts_one (mt_cmp opd_lt (me_call (c.blk) (fn_end_of_copy F) (ma_cons (me_v 0) (ma_cons (me_v 4) ma_nil))) (me_v 2) (by with_unfolding_all rfl)))) (fun _ _ _ _ _ => (me_v 4))))))) law_later_copies
theorem fn_later_copies {w : World} {K : PySem.W.Frag} {mg : Str → Option Value} {base : Heap} (F : Fx K mg) : Fnc RR.prog w K mg base "later_copies" 3 P_later_copies [] sp_later_copies := by
  obtain ⟨f, fd, hm, FD⟩ := F.f_later_copies
  exact ⟨f, fd, [], [], hm, FD.kp, FD.bindsN (fun _ _ _ _ _ _ us hl => match us, hl with | [_, _], _ => rfl), .nil, fun _ => Dens.nil.mpr rfl, ok_later_copies F FD⟩
theorem sc_inversions_there : FnScope N_inversions_there P_inversions_there (defScope s_inversions_there) := ⟨rfl, rfl, rfl, by decide +kernel, rfl, by decide +kernel, by decide +kernel⟩
theorem ok_inversions_there {w : World} {K : PySem.W.Frag} {mg : Str → Option Value} {base : Heap} {f : Addr} {fd : FuncData} (F : Fx K mg) (FD : FunD K "inversions_there" "inversions_there" (defArgs s_inversions_there) (defBody s_inversions_there) (defScope s_inversions_there) [] [] f fd) :
    FnOk RR.prog w K mg base (L2.CX RR.prog w) 4 f fd P_inversions_there (upSp K sp_inversions_there) :=
  fnOk_of (m := 2) FD sc_inversions_there (fun cdv A outer s H E c =>
  (mss_cons (ms_set c 1 (me_lst ma_nil))
  (mss_cons (ms_for c (mi_r1 F.n_range (me_len F.n_len (me_v 0))) (mg_nm c 2)
  (mss_one (ms_aug c 1 ip_addD (me_lc (own := [("z", 3)]) c (blkOk_by (by kernel_rfl)) (mi_it (me_call c (fn_later_copies F) (ma_cons (me_v 0) (ma_cons (me_v 2) ma_nil)))) (fun _ _ _ _ _ => (mg_nm (c.blk) 3)) (fun _ _ _ _ _ => mts_nil) (fun _ _ _ _ _ => (me_tup (ma_cons (me_v 2) (ma_cons (me_v 3) ma_nil))))))))
  (mss_one (ms_ret (me_v 1)))))) law_inversions_there
theorem fn_inversions_there {w : World} {K : PySem.W.Frag} {mg : Str → Option Value} {base : Heap} (F : Fx K mg) : Fnc RR.prog w K mg base "inversions_there" 4 P_inversions_there [] sp_inversions_there := by
  obtain ⟨f, fd, hm, FD⟩ := F.f_inversions_there
  exact ⟨f, fd, [], [], hm, FD.kp, FD.bindsN (fun _ _ _ _ _ _ us hl => match us, hl with | [_], _ => rfl), .nil, fun _ => Dens.nil.mpr rfl, ok_inversions_there F FD⟩
theorem sc_triple_there : FnScope N_triple_there P_triple_there (defScope s_triple_there) := ⟨rfl, rfl, rfl, by decide +kernel, rfl, by decide +kernel, by decide +kernel⟩
theorem ok_triple_there {w : World} {K : PySem.W.Frag} {mg : Str → Option Value} {base : Heap} {f : Addr} {fd : FuncData} (F : Fx K mg) (FD : FunD K "triple_there" "triple_there" (defArgs s_triple_there) (defBody s_triple_there) (defScope s_triple_there) [] [] f fd) :
    FnOk RR.prog w K mg base (L2.CX RR.prog w) 5 f fd P_triple_there (upSp K sp_triple_there) :=
  fnOk_of (m := 3) FD sc_triple_there (fun cdv A outer s H E c =>
  (mss_cons (ms_for c (mi_it (me_call c (fn_inversions_there F) (ma_cons (me_v 0) ma_nil))) (mg_tp c (mgs_cons (mg_nm c 1) (mgs_cons (mg_nm c 2) mgs_nil)))
  (mss_cons (ms_set c 3 (me_call c (fn_later_copies F) (ma_cons (me_v 0) (ma_cons (me_v 2) ma_nil))))
  (mss_one (ms_if (mt_cmp (opd_ne c) (me_v 3) (me_lst ma_nil) (by with_unfolding_all rfl))
  (mss_one (ms_ret (me_tup (ma_cons (me_v 1) (ma_cons (me_v 2) (ma_cons (me_ix c (me_v 3) me_int) ma_nil))))))
  mss_nil))))
  (mss_one (ms_ret me_non)))) law_triple_there
theorem fn_triple_there {w : World} {K : PySem.W.Frag} {mg : Str → Option Value} {base : Heap} (F : Fx K mg) : Fnc RR.prog w K mg base "triple_there" 5 P_triple_there [] sp_triple_there := by
  obtain ⟨f, fd, hm, FD⟩ := F.f_triple_there
  exact ⟨f, fd, [], [], hm, FD.kp, FD.bindsN (fun _ _ _ _ _ _ us hl => match us, hl with | [_], _ => rfl), .nil, fun _ => Dens.nil.mpr rfl, ok_triple_there F FD⟩
theorem sc_place_there : FnScope N_place_there P_place_there (defScope s_place_there) := ⟨rfl, rfl, rfl, by decide +kernel, rfl, by decide +kernel, by decide +kernel⟩
theorem ok_place_there {w : World} {K : PySem.W.Frag} {mg : Str → Option Value} {base : Heap} {f : Addr} {fd : FuncData} (F : Fx K mg) (FD : FunD K "place_there" "place_there" (defArgs s_place_there) (defBody s_place_there) (defScope s_place_there) [] [] f fd) :
    FnOk RR.prog w K mg base (L2.CX RR.prog w) 3 f fd P_place_there (upSp K sp_place_there) :=
  fnOk_of (m := 1) FD sc_place_there (fun cdv A outer s H E c =>
  (mss_cons (ms_setLc (own := [("y", 4)]) c 3 (blkOk_by (by kernel_rfl)) (mi_r2 F.n_range (me_op opd_add (me_v 1) me_int) (me_v 2)) (fun _ _ _ _ _ => (mg_nm (c.blk) 4)) (fun _ _ _ _ _ => (mts_one (mt_cmp opd_lt (me_call (c.blk) (fn_end_of_copy F) (ma_cons (me_v 0) (ma_cons (me_v 4) ma_nil))) (me_v 4) (by with_unfolding_all rfl)))) (fun _ _ _ _ _ => (me_v 4)))
  (mss_one (ms_ret (me_op opd_mod (me_op opd_add (me_v 1) (me_len F.n_len (me_v 3))) (me_len F.n_len (me_v 0))))))) law_place_there
theorem fn_place_there {w : World} {K : PySem.W.Frag} {mg : Str → Option Value} {base : Heap} (F : Fx K mg) : Fnc RR.prog w K mg base "place_there" 3 P_place_there [] sp_place_there := by
  obtain ⟨f, fd, hm, FD⟩ := F.f_place_there
  exact ⟨f, fd, [], [], hm, FD.kp, FD.bindsN (fun _ _ _ _ _ _ us hl => match us, hl with | [_, _, _], _ => rfl), .nil, fun _ => Dens.nil.mpr rfl, ok_place_there F FD⟩
theorem sc_refusals_there : FnScope N_refusals_there P_refusals_there (defScope s_refusals_there) := ⟨rfl, rfl, rfl, by decide +kernel, rfl, by decide +kernel, by decide +kernel⟩
theorem ok_refusals_there {w : World} {K : PySem.W.Frag} {mg : Str → Option Value} {base : Heap} {f : Addr} {fd : FuncData} (F : Fx K mg) (FD : FunD K "refusals_there" "refusals_there" (defArgs s_refusals_there) (defBody s_refusals_there) (defScope s_refusals_there) [] [] f fd) :
    FnOk RR.prog w K mg base (L2.CX RR.prog w) 4 f fd P_refusals_there (upSp K sp_refusals_there) :=
  fnOk_of (m := 2) FD sc_refusals_there (fun cdv A outer s H E c =>
  (mss_cons (ms_par c 4 5 (ma_cons (me_len F.n_len (me_v 1)) (ma_cons (me_call c (fn_place_there F) (ma_cons (me_v 1) (ma_cons (me_v 2) (ma_cons (me_v 3) ma_nil)))) ma_nil)))
  (mss_cons (ms_par c 6 7 (ma_cons (me_op opd_mod (me_op opd_add (me_v 5) me_int) (me_v 4)) (ma_cons (me_lst ma_nil) ma_nil)))
  (mss_cons (ms_if (mt_cmp opd_gt (me_ix c (me_ix c (me_v 0) (me_v 5)) (me_op opd_mod (me_v 3) (me_v 4))) (me_ix c (me_ix c (me_v 0) (me_v 5)) (me_op opd_mod (me_v 2) (me_v 4))) (by with_unfolding_all rfl))
  (mss_one (ms_exp (me_append (me_v 7) (ma_cons (me_tup (ma_cons (me_v 5) (ma_cons (me_v 2) (ma_cons (me_v 3) (ma_cons (me_v 5) ma_nil))))) ma_nil))))
  mss_nil)
  (mss_cons (ms_if (mt_cmp opd_gt (me_ix c (me_ix c (me_v 0) (me_v 6)) (me_op opd_mod (me_v 2) (me_v 4))) (me_ix c (me_ix c (me_v 0) (me_v 6)) (me_op opd_mod (me_v 3) (me_v 4))) (by with_unfolding_all rfl))
  (mss_one (ms_exp (me_append (me_v 7) (ma_cons (me_tup (ma_cons (me_v 5) (ma_cons (me_v 2) (ma_cons (me_v 3) (ma_cons (me_v 6) ma_nil))))) ma_nil))))
  mss_nil)
  (mss_one (ms_ret (me_v 7)))))))) law_refusals_there
theorem fn_refusals_there {w : World} {K : PySem.W.Frag} {mg : Str → Option Value} {base : Heap} (F : Fx K mg) : Fnc RR.prog w K mg base "refusals_there" 4 P_refusals_there [] sp_refusals_there := by
  obtain ⟨f, fd, hm, FD⟩ := F.f_refusals_there
  exact ⟨f, fd, [], [], hm, FD.kp, FD.bindsN (fun _ _ _ _ _ _ us hl => match us, hl with | [_, _, _, _], _ => rfl), .nil, fun _ => Dens.nil.mpr rfl, ok_refusals_there F FD⟩
theorem sc_sequence_for : FnScope N_sequence_for P_sequence_for (defScope s_sequence_for) := ⟨rfl, rfl, rfl, by decide +kernel, rfl, by decide +kernel, by decide +kernel⟩
theorem ok_sequence_for {w : World} {K : PySem.W.Frag} {mg : Str → Option Value} {base : Heap} {f : Addr} {fd : FuncData} (F : Fx K mg) (FD : FunD K "sequence_for" "sequence_for" (defArgs s_sequence_for) (defBody s_sequence_for) (defScope s_sequence_for) [] [] f fd) :
    FnOk RR.prog w K mg base (L2.CX RR.prog w) 2 f fd P_sequence_for (upSp K sp_sequence_for) :=
  fnOk_of (m := 0) FD sc_sequence_for (fun cdv A outer s H E c =>
  (mss_cons (ms_par3 c 1 2 3 (ma_cons (me_len F.n_len (me_v 0)) (ma_cons (me_list F.n_list (me_v 0)) (ma_cons (me_lst ma_nil) ma_nil))))
  (mss_cons (ms_set c 4 (me_listRg c F.n_list (mrg_1 F.n_range (me_v 1))))
  (mss_cons (ms_while c (mt_val (me_any c F.n_any (me_lc (own := [("move", 9)]) c (blkOk_by (by kernel_rfl)) (mi_it (me_v 2)) (fun _ _ _ _ _ => (mg_nm (c.blk) 9)) (fun _ _ _ _ _ => mts_nil) (fun _ _ _ _ _ => (me_cmp (opd_ne (c.blk)) (me_v 9) me_int (by with_unfolding_all rfl))))))
  (mss_one (ms_for c (mi_r1 F.n_range (me_v 1)) (mg_nm c 5)
  (mss_cons (ms_set c 6 (me_op opd_mod (me_op opd_add (me_v 5) me_int) (me_v 1)))
  (mss_cons (ms_par c 7 8 (ma_cons (me_ix c (me_v 4) (me_v 5)) (ma_cons (me_ix c (me_v 4) (me_v 6)) ma_nil)))
  (mss_one (ms_if (MW.mt (mw_and (mt_cmp opd_gt (me_ix c (me_v 2) (me_v 7)) me_int (by with_unfolding_all rfl)) (mw_and1 (mt_cmp opd_lt (me_ix c (me_v 2) (me_v 8)) me_int (by with_unfolding_all rfl)))))
  (mss_cons (ms_augS c ip_subD (me_v 2) (me_v 7) me_int)
  (mss_cons (ms_augS c ip_addD (me_v 2) (me_v 8) me_int)
  (mss_cons (ms_asg (me_tup (ma_cons (me_v 8) (ma_cons (me_v 7) ma_nil))) (mg_tp c (mgs_cons (mg_sb c (me_v 4) (me_v 5)) (mgs_cons (mg_sb c (me_v 4) (me_v 6)) mgs_nil))))
  (mss_one (ms_exp (me_append (me_v 3) (ma_cons (me_v 5) ma_nil)))))))
  mss_nil)))))))
  (mss_one (ms_ret (me_tuple F.n_tuple (me_v 3)))))))) law_sequence_for
theorem fn_sequence_for {w : World} {K : PySem.W.Frag} {mg : Str → Option Value} {base : Heap} (F : Fx K mg) : Fnc RR.prog w K mg base "sequence_for" 2 P_sequence_for [] sp_sequence_for := by
  obtain ⟨f, fd, hm, FD⟩ := F.f_sequence_for
  exact ⟨f, fd, [], [], hm, FD.kp, FD.bindsN (fun _ _ _ _ _ _ us hl => match us, hl with | [_], _ => rfl), .nil, fun _ => Dens.nil.mpr rfl, ok_sequence_for F FD⟩
theorem sc_decide_there : FnScope N_decide_there P_decide_there (defScope s_decide_there) := ⟨rfl, rfl, rfl, by decide +kernel, rfl, by decide +kernel, by decide +kernel⟩
theorem ok_decide_there {w : World} {K : PySem.W.Frag} {mg : Str → Option Value} {base : Heap} {f : Addr} {fd : FuncData} (F : Fx K mg) (FD : FunD K "decide_there" "decide_there" (defArgs s_decide_there) (defBody s_decide_there) (defScope s_decide_there) [] [] f fd) :
    FnOk RR.prog w K mg base (L2.CX RR.prog w) 6 f fd P_decide_there (upSp K sp_decide_there) :=
  fnOk_of (m := 4) FD sc_decide_there (fun cdv A outer s H E c =>
  (mss_cons (ms_set c 2 (me_call c (fn_triple_there F) (ma_cons (me_v 1) ma_nil)))
  (mss_cons (ms_if (mt_cmp opd_notN (me_v 2) me_non (by with_unfolding_all rfl))
  (mss_one (ms_ret (me_tup (ma_cons me_str (ma_cons (me_v 2) ma_nil)))))
  mss_nil)
  (mss_cons (ms_set c 3 (me_call c (fn_rank_tables F) (ma_cons (me_v 0) ma_nil)))
  (mss_cons (ms_for c (mi_it (me_call c (fn_inversions_there F) (ma_cons (me_v 1) ma_nil))) (mg_tp c (mgs_cons (mg_nm c 4) (mgs_cons (mg_nm c 5) mgs_nil)))
  (mss_cons (ms_set c 6 (me_call c (fn_refusals_there F) (ma_cons (me_v 3) (ma_cons (me_v 1) (ma_cons (me_v 4) (ma_cons (me_v 5) ma_nil))))))
  (mss_one (ms_if (mt_cmp (opd_ne c) (me_v 6) (me_lst ma_nil) (by with_unfolding_all rfl))
  (mss_one (ms_ret (me_tup (ma_cons me_str (ma_cons (me_ix c (me_v 6) me_int) ma_nil)))))
  mss_nil))))
  (mss_one (ms_ret (me_tup (ma_cons me_str (ma_cons (me_call c (fn_sequence_for F) (ma_cons (me_v 1) ma_nil)) ma_nil)))))))))) law_decide_there
theorem fn_decide_there {w : World} {K : PySem.W.Frag} {mg : Str → Option Value} {base : Heap} (F : Fx K mg) : Fnc RR.prog w K mg base "decide_there" 6 P_decide_there [] sp_decide_there := by
  obtain ⟨f, fd, hm, FD⟩ := F.f_decide_there
  exact ⟨f, fd, [], [], hm, FD.kp, FD.bindsN (fun _ _ _ _ _ _ us hl => match us, hl with | [_, _], _ => rfl), .nil, fun _ => Dens.nil.mpr rfl, ok_decide_there F FD⟩
theorem sc_decide_ring : FnScope N_decide_ring P_decide_ring (defScope s_decide_ring) := ⟨rfl, rfl, rfl, by decide +kernel, rfl, by decide +kernel, by decide +kernel⟩
theorem ok_decide_ring {w : World} {K : PySem.W.Frag} {mg : Str → Option Value} {base : Heap} {f : Addr} {fd : FuncData} (F : Fx K mg) (FD : FunD K "decide_ring" "decide_ring" (defArgs s_decide_ring) (defBody s_decide_ring) (defScope s_decide_ring) [] [] f fd) :
    FnOk RR.prog w K mg base (L2.CX RR.prog w) 8 f fd P_decide_ring (upSp K sp_decide_ring) :=
  fnOk_of (m := 6) FD sc_decide_ring (fun cdv A outer s H E c =>
  (mss_cons (ms_exp (me_call c (fn_check_both F) (ma_cons (me_v 0) (ma_cons (me_v 1) ma_nil))))
  (mss_one (ms_ret (me_call c (fn_decide_there F) (ma_cons (me_v 0) (ma_cons (me_v 1) ma_nil))))))) law_decide_ring
theorem fn_decide_ring {w : World} {K : PySem.W.Frag} {mg : Str → Option Value} {base : Heap} (F : Fx K mg) : Fnc RR.prog w K mg base "decide_ring" 8 P_decide_ring [] sp_decide_ring := by
  obtain ⟨f, fd, hm, FD⟩ := F.f_decide_ring
  exact ⟨f, fd, [], [], hm, FD.kp, FD.bindsN (fun _ _ _ _ _ _ us hl => match us, hl with | [_, _], _ => rfl), .nil, fun _ => Dens.nil.mpr rfl, ok_decide_ring F FD⟩
theorem fnk_0 {w : World} {K : PySem.W.Frag} {mg : Str → Option Value} {base : Heap} (F : Fx K mg) : FncK RR.prog w K mg base "decide_ring" 8 P_decide_ring 0 ["displacements", "rankings"] [1, 0] sp_decide_ring := by
  obtain ⟨f, fd, hm, FD⟩ := F.f_decide_ring
  exact fnck_of hm FD (fun _ _ _ _ _ _ us ws hl hw => match us, ws, hl, hw with | [], [_, _], _, _ => rfl) (ok_decide_ring F FD)
theorem sc_law_mixed : FnScope N_law_mixed P_law_mixed (defScope s_law_mixed) := ⟨rfl, rfl, rfl, by decide +kernel, rfl, by decide +kernel, by decide +kernel⟩
theorem ok_law_mixed {w : World} {K : PySem.W.Frag} {mg : Str → Option Value} {base : Heap} {f : Addr} {fd : FuncData} (F : Fx K mg) (FD : FunD K "_law_mixed" "_law_mixed" (defArgs s_law_mixed) (defBody s_law_mixed) (defScope s_law_mixed) [] [] f fd) :
    FnOk RR.prog w K mg base (L2.CX RR.prog w) 2 f fd P_law_mixed (upSp K sp_law_mixed) :=
  fnOk_of (m := 0) FD sc_law_mixed (fun cdv A outer s H E c =>
  (mss_cons (ms_set c 2 (me_op opd_add (me_op opd_add (me_op opd_mod (me_op opd_mul (me_op opd_mul (me_v 0) (me_op opd_add me_int (me_op opd_mul me_int (me_v 1)))) me_int) me_int) (me_op opd_mul (me_op opd_mul me_int (me_v 1)) (me_v 1))) (me_op opd_mul me_int (me_v 1))))
  (mss_one (ms_ret (me_op opd_div (me_op opd_mod (me_op opd_mul (me_v 2) me_int) me_int) me_int))))) law_law_mixed
theorem fn_law_mixed {w : World} {K : PySem.W.Frag} {mg : Str → Option Value} {base : Heap} (F : Fx K mg) : Fnc RR.prog w K mg base "_law_mixed" 2 P_law_mixed [] sp_law_mixed := by
  obtain ⟨f, fd, hm, FD⟩ := F.f_law_mixed
  exact ⟨f, fd, [], [], hm, FD.kp, FD.bindsN (fun _ _ _ _ _ _ us hl => match us, hl with | [_, _], _ => rfl), .nil, fun _ => Dens.nil.mpr rfl, ok_law_mixed F FD⟩
theorem sc_law_folded : FnScope N_law_folded P_law_folded (defScope s_law_folded) := ⟨rfl, rfl, rfl, by decide +kernel, rfl, by decide +kernel, by decide +kernel⟩
theorem ok_law_folded {w : World} {K : PySem.W.Frag} {mg : Str → Option Value} {base : Heap} {f : Addr} {fd : FuncData} (F : Fx K mg) (FD : FunD K "_law_folded" "_law_folded" (defArgs s_law_folded) (defBody s_law_folded) (defScope s_law_folded) [] [] f fd) :
    FnOk RR.prog w K mg base (L2.CX RR.prog w) 2 f fd P_law_folded (upSp K sp_law_folded) :=
  fnOk_of (m := 0) FD sc_law_folded (fun cdv A outer s H E c =>
  (mss_cons (ms_setLc (own := [("_law_n", 2)]) c 1 (blkOk_by (by kernel_rfl)) (mi_r1 F.n_range me_int) (fun _ _ _ _ _ => (mg_nm (c.blk) 2)) (fun _ _ _ _ _ => mts_nil) (fun _ _ _ _ _ => (me_op opd_add me_int (me_v 2))))
  (mss_cons (ms_for c (mi_enum F.n_enumerate (me_v 0)) (mg_tp c (mgs_cons (mg_nm c 2) (mgs_cons (mg_nm c 3) mgs_nil)))
  (mss_one (ms_asg (me_op opd_mod (me_op opd_add (me_op opd_mul (me_ix c (me_v 1) (me_op opd_mod (me_v 2) me_int)) me_int) (me_v 3)) me_int) (mg_sb c (me_v 1) (me_op opd_mod (me_v 2) me_int)))))
  (mss_cons (ms_for c (mi_r2 F.n_range me_int me_int) (mg_nm c 2)
  (mss_one (ms_asg (me_op opd_mod (me_op opd_add (me_ix c (me_v 1) (me_v 2)) (me_op opd_mul (me_ix c (me_v 1) (me_op opd_sub (me_v 2) me_int)) me_int)) me_int) (mg_sb c (me_v 1) (me_v 2)))))
  (mss_one (ms_ret (me_v 1))))))) law_law_folded
theorem fn_law_folded {w : World} {K : PySem.W.Frag} {mg : Str → Option Value} {base : Heap} (F : Fx K mg) : Fnc RR.prog w K mg base "_law_folded" 2 P_law_folded [] sp_law_folded := by
  obtain ⟨f, fd, hm, FD⟩ := F.f_law_folded
  exact ⟨f, fd, [], [], hm, FD.kp, FD.bindsN (fun _ _ _ _ _ _ us hl => match us, hl with | [_], _ => rfl), .nil, fun _ => Dens.nil.mpr rfl, ok_law_folded F FD⟩
theorem sc_law_draw : FnScope N_law_draw P_law_draw (defScope s_law_draw) := ⟨rfl, rfl, rfl, by decide +kernel, rfl, by decide +kernel, by decide +kernel⟩
theorem ok_law_draw {w : World} {K : PySem.W.Frag} {mg : Str → Option Value} {base : Heap} {f : Addr} {fd : FuncData} (F : Fx K mg) (FD : FunD K "_law_draw" "_law_draw" (defArgs s_law_draw) (defBody s_law_draw) (defScope s_law_draw) [] [] f fd) :
    FnOk RR.prog w K mg base (L2.CX RR.prog w) 3 f fd P_law_draw (upSp K sp_law_draw) :=
  fnOk_of (m := 1) FD sc_law_draw (fun cdv A outer s H E c =>
  (mss_cons (ms_set c 2 (me_ix c (me_v 0) me_str))
  (mss_cons (ms_asg (me_op opd_add (me_v 2) me_int) (mg_sb c (me_v 0) me_str))
  (mss_cons (ms_if (mt_cmp (opd_ne c) (me_ix c (me_v 0) me_str) (me_lst ma_nil) (by with_unfolding_all rfl))
  (mss_cons (ms_set c 3 (me_op opd_mod (me_v 2) (me_len F.n_len (me_ix c (me_v 0) me_str))))
  (mss_cons (ms_set c 4 (me_ix c (me_ix c (me_v 0) me_str) (me_v 3)))
  (mss_one (ms_if (mt_cmp opd_gt (me_v 4) me_int (by with_unfolding_all rfl))
  (mss_cons (ms_asg (me_op opd_div (me_v 4) (me_v 1)) (mg_sb c (me_ix c (me_v 0) me_str) (me_v 3)))
  (mss_one (ms_ret (me_op opd_mod (me_v 4) (me_v 1)))))
  mss_nil))))
  mss_nil)
  (mss_one (ms_ret (me_op opd_mod (me_call c (fn_law_mixed F) (ma_cons (me_call c (fn_law_mixed F) (ma_cons (me_op opd_add (me_ix c (me_ix c (me_v 0) me_str) (me_op opd_mod (me_v 2) me_int)) (me_op opd_mul me_int (me_op opd_div (me_v 2) me_int))) (ma_cons (me_v 2) ma_nil))) (ma_cons (me_op opd_add (me_v 2) me_int) ma_nil))) (me_v 1)))))))) law_law_draw
theorem fn_law_draw {w : World} {K : PySem.W.Frag} {mg : Str → Option Value} {base : Heap} (F : Fx K mg) : Fnc RR.prog w K mg base "_law_draw" 3 P_law_draw [] sp_law_draw := by
  obtain ⟨f, fd, hm, FD⟩ := F.f_law_draw
  exact ⟨f, fd, [], [], hm, FD.kp, FD.bindsN (fun _ _ _ _ _ _ us hl => match us, hl with | [_, _], _ => rfl), .nil, fun _ => Dens.nil.mpr rfl, ok_law_draw F FD⟩
theorem sc_law_begun : FnScope N_law_begun P_law_begun (defScope s_law_begun) := ⟨rfl, rfl, rfl, by decide +kernel, rfl, by decide +kernel, by decide +kernel⟩
theorem ok_law_begun {w : World} {K : PySem.W.Frag} {mg : Str → Option Value} {base : Heap} {f : Addr} {fd : FuncData} (F : Fx K mg) (FD : FunD K "_law_begun" "_law_begun" (defArgs s_law_begun) (defBody s_law_begun) (defScope s_law_begun) [] [] f fd) :
    FnOk RR.prog w K mg base (L2.CX RR.prog w) 3 f fd P_law_begun (upSp K sp_law_begun) :=
  fnOk_of (m := 1) FD sc_law_begun (fun cdv A outer s H E c =>
  (mss_cons (ms_set c 1 (me_disp (mps_cons (me_call c (fn_law_folded F) (ma_cons (me_v 0) ma_nil)) (mps_cons (me_lst ma_nil) (mps_cons me_int mps_nil)))))
  (mss_cons (ms_asg (me_lc (own := [("_law_cell", 2)]) c (blkOk_by (by kernel_rfl)) (mi_it (me_v 0)) (fun _ _ _ _ _ => (mg_nm (c.blk) 2)) (fun _ _ _ _ _ => mts_nil) (fun _ _ _ _ _ => (me_if (mt_cmp opd_ge (me_v 2) (me_op opd_pow me_int me_int) (by with_unfolding_all rfl)) (me_v 2) me_int))) (mg_sb c (me_v 1) me_str))
  (mss_one (ms_ret (me_v 1)))))) law_law_begun
theorem fn_law_begun {w : World} {K : PySem.W.Frag} {mg : Str → Option Value} {base : Heap} (F : Fx K mg) : Fnc RR.prog w K mg base "_law_begun" 3 P_law_begun [] sp_law_begun := by
  obtain ⟨f, fd, hm, FD⟩ := F.f_law_begun
  exact ⟨f, fd, [], [], hm, FD.kp, FD.bindsN (fun _ _ _ _ _ _ us hl => match us, hl with | [_], _ => rfl), .nil, fun _ => Dens.nil.mpr rfl, ok_law_begun F FD⟩
theorem sc_law_mixed_up : FnScope N_law_mixed_up P_law_mixed_up (defScope s_law_mixed_up) := ⟨rfl, rfl, rfl, by decide +kernel, rfl, by decide +kernel, by decide +kernel⟩
theorem ok_law_mixed_up {w : World} {K : PySem.W.Frag} {mg : Str → Option Value} {base : Heap} {f : Addr} {fd : FuncData} (F : Fx K mg) (FD : FunD K "_law_mixed_up" "_law_mixed_up" (defArgs s_law_mixed_up) (defBody s_law_mixed_up) (defScope s_law_mixed_up) [] [] f fd) :
    FnOk RR.prog w K mg base (L2.CX RR.prog w) 4 f fd P_law_mixed_up (upSp K sp_law_mixed_up) :=
  fnOk_of (m := 2) FD sc_law_mixed_up (fun cdv A outer s H E c =>
  (mss_cons (ms_par c 2 3 (ma_cons (me_list F.n_list (me_v 1)) (ma_cons (me_lst ma_nil) ma_nil)))
  (mss_cons (ms_for c (mi_r1 F.n_range (me_len F.n_len (me_v 2))) (mg_nm c 4)
  (mss_one (ms_exp (me_append (me_v 3) (ma_cons (me_pop (me_v 2) (ma_cons (me_call c (fn_law_draw F) (ma_cons (me_v 0) (ma_cons (me_len F.n_len (me_v 2)) ma_nil))) ma_nil)) ma_nil)))))
  (mss_one (ms_ret (me_v 3)))))) law_law_mixed_up
theorem fn_law_mixed_up {w : World} {K : PySem.W.Frag} {mg : Str → Option Value} {base : Heap} (F : Fx K mg) : Fnc RR.prog w K mg base "_law_mixed_up" 4 P_law_mixed_up [] sp_law_mixed_up := by
  obtain ⟨f, fd, hm, FD⟩ := F.f_law_mixed_up
  exact ⟨f, fd, [], [], hm, FD.kp, FD.bindsN (fun _ _ _ _ _ _ us hl => match us, hl with | [_, _], _ => rfl), .nil, fun _ => Dens.nil.mpr rfl, ok_law_mixed_up F FD⟩
theorem sc_law_ring_walk : FnScope N_law_ring_walk P_law_ring_walk (defScope s_law_ring_walk) := ⟨rfl, rfl, rfl, by decide +kernel, rfl, by decide +kernel, by decide +kernel⟩
theorem ok_law_ring_walk {w : World} {K : PySem.W.Frag} {mg : Str → Option Value} {base : Heap} {f : Addr} {fd : FuncData} (F : Fx K mg) (FD : FunD K "_law_ring_walk" "_law_ring_walk" (defArgs s_law_ring_walk) (defBody s_law_ring_walk) (defScope s_law_ring_walk) [] [] f fd) :
    FnOk RR.prog w K mg base (L2.CX RR.prog w) 4 f fd P_law_ring_walk (upSp K sp_law_ring_walk) :=
  fnOk_of (m := 2) FD sc_law_ring_walk (fun cdv A outer s H E c =>
  (mss_cons (ms_par3 c 2 3 4 (ma_cons (me_listRg c F.n_list (mrg_1 F.n_range (me_v 1))) (ma_cons (me_lc (own := [("_law_who", 10)]) c (blkOk_by (by kernel_rfl)) (mi_r1 F.n_range (me_v 1)) (fun _ _ _ _ _ => (mg_nm (c.blk) 10)) (fun _ _ _ _ _ => mts_nil) (fun _ _ _ _ _ => (me_lst (ma_cons (me_v 10) ma_nil)))) (ma_cons (me_op opd_mul (me_lst (ma_cons me_int ma_nil)) (me_v 1)) ma_nil))))
  (mss_cons (ms_for c (mi_r1 F.n_range (me_call c (fn_law_draw F) (ma_cons (me_v 0) (ma_cons (me_op opd_mul me_int (me_v 1)) ma_nil)))) (mg_nm c 5)
  (mss_cons (ms_set c 6 (me_call c (fn_law_draw F) (ma_cons (me_v 0) (ma_cons (me_v 1) ma_nil))))
  (mss_cons (ms_set c 7 (me_op opd_mod (me_op opd_add (me_v 6) me_int) (me_v 1)))
  (mss_cons (ms_par c 8 9 (ma_cons (me_ix c (me_v 2) (me_v 6)) (ma_cons (me_ix c (me_v 2) (me_v 7)) ma_nil)))
  (mss_one (ms_if (MW.mt (mw_and (mt_cmp opd_ge (me_ix c (me_v 4) (me_v 8)) me_int (by with_unfolding_all rfl)) (mw_and (mt_cmp opd_le (me_ix c (me_v 4) (me_v 9)) me_int (by with_unfolding_all rfl)) (mw_and (mt_cmp (opd_notIn c) (me_v 9) (me_ix c (me_v 3) (me_v 6)) (by with_unfolding_all rfl)) (mw_and1 (mt_cmp (opd_notIn c) (me_v 8) (me_ix c (me_v 3) (me_v 7)) (by with_unfolding_all rfl)))))))
  (mss_cons (ms_asg (me_tup (ma_cons (me_op opd_add (me_ix c (me_v 4) (me_v 8)) me_int) (ma_cons (me_op opd_sub (me_ix c (me_v 4) (me_v 9)) me_int) ma_nil))) (mg_tp c (mgs_cons (mg_sb c (me_v 4) (me_v 8)) (mgs_cons (mg_sb c (me_v 4) (me_v 9)) mgs_nil))))
  (mss_cons (ms_asg (me_tup (ma_cons (me_v 9) (ma_cons (me_v 8) ma_nil))) (mg_tp c (mgs_cons (mg_sb c (me_v 2) (me_v 6)) (mgs_cons (mg_sb c (me_v 2) (me_v 7)) mgs_nil))))
  (mss_cons (ms_exp (me_append (me_ix c (me_v 3) (me_v 6)) (ma_cons (me_v 9) ma_nil)))
  (mss_one (ms_exp (me_append (me_ix c (me_v 3) (me_v 7)) (ma_cons (me_v 8) ma_nil)))))))
  mss_nil))))))
  (mss_one (ms_ret (me_tup (ma_cons (me_v 3) (ma_cons (me_tuple F.n_tuple (me_v 4)) ma_nil)))))))) law_law_ring_walk
theorem fn_law_ring_walk {w : World} {K : PySem.W.Frag} {mg : Str → Option Value} {base : Heap} (F : Fx K mg) : Fnc RR.prog w K mg base "_law_ring_walk" 4 P_law_ring_walk [] sp_law_ring_walk := by
  obtain ⟨f, fd, hm, FD⟩ := F.f_law_ring_walk
  exact ⟨f, fd, [], [], hm, FD.kp, FD.bindsN (fun _ _ _ _ _ _ us hl => match us, hl with | [_, _], _ => rfl), .nil, fun _ => Dens.nil.mpr rfl, ok_law_ring_walk F FD⟩
theorem sc_law_ring_lists : FnScope N_law_ring_lists P_law_ring_lists (defScope s_law_ring_lists) := ⟨rfl, rfl, rfl, by decide +kernel, rfl, by decide +kernel, by decide +kernel⟩
theorem ok_law_ring_lists {w : World} {K : PySem.W.Frag} {mg : Str → Option Value} {base : Heap} {f : Addr} {fd : FuncData} (F : Fx K mg) (FD : FunD K "_law_ring_lists" "_law_ring_lists" (defArgs s_law_ring_lists) (defBody s_law_ring_lists) (defScope s_law_ring_lists) [] [] f fd) :
    FnOk RR.prog w K mg base (L2.CX RR.prog w) 5 f fd P_law_ring_lists (upSp K sp_law_ring_lists) :=
  fnOk_of (m := 3) FD sc_law_ring_lists (fun cdv A outer s H E c =>
  (mss_cons (ms_par c 3 4 (ma_cons (me_call c (fn_law_draw F) (ma_cons (me_v 0) (ma_cons me_int ma_nil))) (ma_cons (me_lst ma_nil) ma_nil)))
  (mss_cons (ms_for c (mi_r1 F.n_range (me_v 1)) (mg_nm c 5)
  (mss_cons (ms_set c 6 (me_call c (fn_law_mixed_up F) (ma_cons (me_v 0) (ma_cons (me_lc (own := [("_law_thing", 9)]) c (blkOk_by (by kernel_rfl)) (mi_r1 F.n_range (me_v 1)) (fun _ _ _ _ _ => (mg_nm (c.blk) 9)) (fun _ _ _ _ _ => (mts_one (mt_cmp (opd_notIn (c.blk)) (me_v 9) (me_ix (c.blk) (me_v 2) (me_v 5)) (by with_unfolding_all rfl)))) (fun _ _ _ _ _ => (me_v 9))) ma_nil))))
  (mss_cons (ms_set c 7 (me_rev (me_ix c (me_v 2) (me_v 5))))
  (mss_cons (ms_if (MW.mt (mw_or (mt_cmp (opd_eq c) (me_v 3) me_int (by with_unfolding_all rfl)) (mw_or1 (MW.mt (mw_and (mt_cmp (opd_eq c) (me_v 3) me_int (by with_unfolding_all rfl)) (mw_and1 (mt_cmp (opd_eq c) (me_call c (fn_law_draw F) (ma_cons (me_v 0) (ma_cons me_int ma_nil))) me_int (by with_unfolding_all rfl))))))))
  (mss_one (ms_set c 7 (me_call c (fn_law_mixed_up F) (ma_cons (me_v 0) (ma_cons (me_v 7) ma_nil)))))
  mss_nil)
  (mss_cons (ms_set c 8 (me_if (mt_cmp (opd_eq c) (me_v 3) me_int (by with_unfolding_all rfl)) (me_call c (fn_law_draw F) (ma_cons (me_v 0) (ma_cons (me_op opd_add (me_len F.n_len (me_v 6)) me_int) ma_nil))) (me_len F.n_len (me_v 6))))
  (mss_one (ms_exp (me_append (me_v 4) (ma_cons (me_tuple F.n_tuple (me_op opd_add (me_op opd_add (me_slice (me_v 6) (mo_some (me_v 8)) mo_none) (me_v 7)) (me_slice (me_v 6) mo_none (mo_some (me_v 8))))) ma_nil)))))))))
  (mss_one (ms_ret (me_tuple F.n_tuple (me_v 4))))))) law_law_ring_lists
theorem fn_law_ring_lists {w : World} {K : PySem.W.Frag} {mg : Str → Option Value} {base : Heap} (F : Fx K mg) : Fnc RR.prog w K mg base "_law_ring_lists" 5 P_law_ring_lists [] sp_law_ring_lists := by
  obtain ⟨f, fd, hm, FD⟩ := F.f_law_ring_lists
  exact ⟨f, fd, [], [], hm, FD.kp, FD.bindsN (fun _ _ _ _ _ _ us hl => match us, hl with | [_, _, _], _ => rfl), .nil, fun _ => Dens.nil.mpr rfl, ok_law_ring_lists F FD⟩
theorem sc_law_likes_more : FnScope N_law_likes_more P_law_likes_more (defScope s_law_likes_more) := ⟨rfl, rfl, rfl, by decide +kernel, rfl, by decide +kernel, by decide +kernel⟩
theorem ok_law_likes_more {w : World} {K : PySem.W.Frag} {mg : Str → Option Value} {base : Heap} {f : Addr} {fd : FuncData} (F : Fx K mg) (FD : FunD K "_law_likes_more" "_law_likes_more" (defArgs s_law_likes_more) (defBody s_law_likes_more) (defScope s_law_likes_more) [] [] f fd) :
    FnOk RR.prog w K mg base (L2.CX RR.prog w) 2 f fd P_law_likes_more (upSp K sp_law_likes_more) :=
  fnOk_of (m := 0) FD sc_law_likes_more (fun cdv A outer s H E c =>
  (mss_one (ms_ret (me_cmp opd_lt (me_tindex (me_ix c (me_v 0) (me_v 1)) (ma_cons (me_v 2) ma_nil)) (me_tindex (me_ix c (me_v 0) (me_v 1)) (ma_cons (me_v 3) ma_nil)) (by with_unfolding_all rfl))))) law_law_likes_more
theorem fn_law_likes_more {w : World} {K : PySem.W.Frag} {mg : Str → Option Value} {base : Heap} (F : Fx K mg) : Fnc RR.prog w K mg base "_law_likes_more" 2 P_law_likes_more [] sp_law_likes_more := by
  obtain ⟨f, fd, hm, FD⟩ := F.f_law_likes_more
  exact ⟨f, fd, [], [], hm, FD.kp, FD.bindsN (fun _ _ _ _ _ _ us hl => match us, hl with | [_, _, _, _], _ => rfl), .nil, fun _ => Dens.nil.mpr rfl, ok_law_likes_more F FD⟩
theorem sc_law_ring_may : FnScope N_law_ring_may P_law_ring_may (defScope s_law_ring_may) := ⟨rfl, rfl, rfl, by decide +kernel, rfl, by decide +kernel, by decide +kernel⟩
theorem ok_law_ring_may {w : World} {K : PySem.W.Frag} {mg : Str → Option Value} {base : Heap} {f : Addr} {fd : FuncData} (F : Fx K mg) (FD : FunD K "_law_ring_may" "_law_ring_may" (defArgs s_law_ring_may) (defBody s_law_ring_may) (defScope s_law_ring_may) [] [] f fd) :
    FnOk RR.prog w K mg base (L2.CX RR.prog w) 3 f fd P_law_ring_may (upSp K sp_law_ring_may) :=
  fnOk_of (m := 1) FD sc_law_ring_may (fun cdv A outer s H E c =>
  (mss_cons (ms_set c 3 (me_op opd_mod (me_op opd_add (me_v 2) me_int) (me_len F.n_len (me_v 1))))
  (mss_one (ms_ret (me_and (me_call c (fn_law_likes_more F) (ma_cons (me_v 0) (ma_cons (me_v 2) (ma_cons (me_ix c (me_v 1) (me_v 3)) (ma_cons (me_ix c (me_v 1) (me_v 2)) ma_nil))))) (me_one (me_call c (fn_law_likes_more F) (ma_cons (me_v 0) (ma_cons (me_v 3) (ma_cons (me_ix c (me_v 1) (me_v 2)) (ma_cons (me_ix c (me_v 1) (me_v 3)) ma_nil))))))))))) law_law_ring_may
theorem fn_law_ring_may {w : World} {K : PySem.W.Frag} {mg : Str → Option Value} {base : Heap} (F : Fx K mg) : Fnc RR.prog w K mg base "_law_ring_may" 3 P_law_ring_may [] sp_law_ring_may := by
  obtain ⟨f, fd, hm, FD⟩ := F.f_law_ring_may
  exact ⟨f, fd, [], [], hm, FD.kp, FD.bindsN (fun _ _ _ _ _ _ us hl => match us, hl with | [_, _, _], _ => rfl), .nil, fun _ => Dens.nil.mpr rfl, ok_law_ring_may F FD⟩
theorem sc_law_ring_after : FnScope N_law_ring_after P_law_ring_after (defScope s_law_ring_after) := ⟨rfl, rfl, rfl, by decide +kernel, rfl, by decide +kernel, by decide +kernel⟩
theorem ok_law_ring_after {w : World} {K : PySem.W.Frag} {mg : Str → Option Value} {base : Heap} {f : Addr} {fd : FuncData} (F : Fx K mg) (FD : FunD K "_law_ring_after" "_law_ring_after" (defArgs s_law_ring_after) (defBody s_law_ring_after) (defScope s_law_ring_after) [] [] f fd) :
    FnOk RR.prog w K mg base (L2.CX RR.prog w) 2 f fd P_law_ring_after (upSp K sp_law_ring_after) :=
  fnOk_of (m := 0) FD sc_law_ring_after (fun cdv A outer s H E c =>
  (mss_cons (ms_par3 c 3 4 5 (ma_cons (me_op opd_mod (me_op opd_add (me_v 2) me_int) (me_len F.n_len (me_v 0))) (ma_cons (me_list F.n_list (me_v 0)) (ma_cons (me_list F.n_list (me_v 1)) ma_nil))))
  (mss_cons (ms_asg (me_tup (ma_cons (me_ix c (me_v 0) (me_v 3)) (ma_cons (me_ix c (me_v 0) (me_v 2)) ma_nil))) (mg_tp c (mgs_cons (mg_sb c (me_v 4) (me_v 2)) (mgs_cons (mg_sb c (me_v 4) (me_v 3)) mgs_nil))))
  (mss_cons (ms_asg (me_op opd_add (me_ix c (me_v 5) (me_ix c (me_v 0) (me_v 2))) me_int) (mg_sb c (me_v 5) (me_ix c (me_v 0) (me_v 2))))
  (mss_cons (ms_asg (me_op opd_sub (me_ix c (me_v 5) (me_ix c (me_v 0) (me_v 3))) me_int) (mg_sb c (me_v 5) (me_ix c (me_v 0) (me_v 3))))
  (mss_one (ms_ret (me_tup (ma_cons (me_tuple F.n_tuple (me_v 4)) (ma_cons (me_tuple F.n_tuple (me_v 5)) ma_nil)))))))))) law_law_ring_after
theorem fn_law_ring_after {w : World} {K : PySem.W.Frag} {mg : Str → Option Value} {base : Heap} (F : Fx K mg) : Fnc RR.prog w K mg base "_law_ring_after" 2 P_law_ring_after [] sp_law_ring_after := by
  obtain ⟨f, fd, hm, FD⟩ := F.f_law_ring_after
  exact ⟨f, fd, [], [], hm, FD.kp, FD.bindsN (fun _ _ _ _ _ _ us hl => match us, hl with | [_, _, _], _ => rfl), .nil, fun _ => Dens.nil.mpr rfl, ok_law_ring_after F FD⟩
theorem sc_law_ring_all : FnScope N_law_ring_all P_law_ring_all (defScope s_law_ring_all) := ⟨rfl, rfl, rfl, by decide +kernel, rfl, by decide +kernel, by decide +kernel⟩
theorem ok_law_ring_all {w : World} {K : PySem.W.Frag} {mg : Str → Option Value} {base : Heap} {f : Addr} {fd : FuncData} (F : Fx K mg) (FD : FunD K "_law_ring_all" "_law_ring_all" (defArgs s_law_ring_all) (defBody s_law_ring_all) (defScope s_law_ring_all) [] [] f fd) :
    FnOk RR.prog w K mg base (L2.CX RR.prog w) 4 f fd P_law_ring_all (upSp K sp_law_ring_all) :=
  fnOk_of (m := 2) FD sc_law_ring_all (fun cdv A outer s H E c =>
  (mss_cons (ms_set c 1 (me_len F.n_len (me_v 0)))
  (mss_cons (ms_set c 2 (me_lst (ma_cons (me_tup (ma_cons (me_tupRg c F.n_tuple (mrg_1 F.n_range (me_v 1))) (ma_cons (me_op opd_mul (me_tup (ma_cons me_int ma_nil)) (me_v 1)) ma_nil))) ma_nil)))
  (mss_cons (ms_set c 3 (me_list F.n_list (me_v 2)))
  (mss_cons (ms_while c (mt_cmp (opd_ne c) (me_v 3) (me_lst ma_nil) (by with_unfolding_all rfl))
  (mss_cons (ms_set c 4 (me_lst ma_nil))
  (mss_cons (ms_for c (mi_it (me_v 3)) (mg_tp c (mgs_cons (mg_nm c 5) (mgs_cons (mg_nm c 6) mgs_nil)))
  (mss_one (ms_for c (mi_it (me_lc (own := [("_law_step", 9)]) c (blkOk_by (by kernel_rfl)) (mi_r1 F.n_range (me_v 1)) (fun _ _ _ _ _ => (mg_nm (c.blk) 9)) (fun _ _ _ _ _ => (mts_one (mt_val (me_call (c.blk) (fn_law_ring_may F) (ma_cons (me_v 0) (ma_cons (me_v 5) (ma_cons (me_v 9) ma_nil))))))) (fun _ _ _ _ _ => (me_v 9)))) (mg_nm c 7)
  (mss_cons (ms_set c 8 (me_call c (fn_law_ring_after F) (ma_cons (me_v 5) (ma_cons (me_v 6) (ma_cons (me_v 7) ma_nil)))))
  (mss_one (ms_if (mt_cmp (opd_notIn c) (me_v 8) (me_v 2) (by with_unfolding_all rfl))
  (mss_cons (ms_exp (me_append (me_v 2) (ma_cons (me_v 8) ma_nil)))
  (mss_one (ms_exp (me_append (me_v 4) (ma_cons (me_v 8) ma_nil)))))
  mss_nil))))))
  (mss_one (ms_set c 3 (me_v 4))))))
  (mss_one (ms_ret (me_v 2)))))))) law_law_ring_all
theorem fn_law_ring_all {w : World} {K : PySem.W.Frag} {mg : Str → Option Value} {base : Heap} (F : Fx K mg) : Fnc RR.prog w K mg base "_law_ring_all" 4 P_law_ring_all [] sp_law_ring_all := by
  obtain ⟨f, fd, hm, FD⟩ := F.f_law_ring_all
  exact ⟨f, fd, [], [], hm, FD.kp, FD.bindsN (fun _ _ _ _ _ _ us hl => match us, hl with | [_], _ => rfl), .nil, fun _ => Dens.nil.mpr rfl, ok_law_ring_all F FD⟩
theorem sc_law_ring_ended : FnScope N_law_ring_ended P_law_ring_ended (defScope s_law_ring_ended) := ⟨rfl, rfl, rfl, by decide +kernel, rfl, by decide +kernel, by decide +kernel⟩
theorem ok_law_ring_ended {w : World} {K : PySem.W.Frag} {mg : Str → Option Value} {base : Heap} {f : Addr} {fd : FuncData} (F : Fx K mg) (FD : FunD K "_law_ring_ended" "_law_ring_ended" (defArgs s_law_ring_ended) (defBody s_law_ring_ended) (defScope s_law_ring_ended) [] [] f fd) :
    FnOk RR.prog w K mg base (L2.CX RR.prog w) 2 f fd P_law_ring_ended (upSp K sp_law_ring_ended) :=
  fnOk_of (m := 0) FD sc_law_ring_ended (fun cdv A outer s H E c =>
  (mss_one (ms_ret (me_op opd_add (me_v 1) (me_ix c (me_v 0) (me_op opd_mod (me_v 1) (me_len F.n_len (me_v 0)))))))) law_law_ring_ended
theorem fn_law_ring_ended {w : World} {K : PySem.W.Frag} {mg : Str → Option Value} {base : Heap} (F : Fx K mg) : Fnc RR.prog w K mg base "_law_ring_ended" 2 P_law_ring_ended [] sp_law_ring_ended := by
  obtain ⟨f, fd, hm, FD⟩ := F.f_law_ring_ended
  exact ⟨f, fd, [], [], hm, FD.kp, FD.bindsN (fun _ _ _ _ _ _ us hl => match us, hl with | [_, _], _ => rfl), .nil, fun _ => Dens.nil.mpr rfl, ok_law_ring_ended F FD⟩
theorem sc_law_ring_pairs : FnScope N_law_ring_pairs P_law_ring_pairs (defScope s_law_ring_pairs) := ⟨rfl, rfl, rfl, by decide +kernel, rfl, by decide +kernel, by decide +kernel⟩
theorem ok_law_ring_pairs {w : World} {K : PySem.W.Frag} {mg : Str → Option Value} {base : Heap} {f : Addr} {fd : FuncData} (F : Fx K mg) (FD : FunD K "_law_ring_pairs" "_law_ring_pairs" (defArgs s_law_ring_pairs) (defBody s_law_ring_pairs) (defScope s_law_ring_pairs) [] [] f fd) :
    FnOk RR.prog w K mg base (L2.CX RR.prog w) 3 f fd P_law_ring_pairs (upSp K sp_law_ring_pairs) :=
  fnOk_of (m := 1) FD sc_law_ring_pairs (fun cdv A outer s H E c =>
  (mss_cons (ms_par c 1 2 (ma_cons (me_len F.n_len (me_v 0)) (ma_cons (me_lst ma_nil) ma_nil)))
  (mss_cons (ms_for c (mi_r1 F.n_range (me_v 1)) (mg_nm c 3)
  (mss_cons (ms_set c 4 (me_call c (fn_law_ring_ended F) (ma_cons (me_v 0) (ma_cons (me_v 3) ma_nil))))
  (mss_one (ms_set c 2 (me_op opd_add (me_v 2) (me_lc (own := [("_law_z", 5)]) c (blkOk_by (by kernel_rfl)) (mi_r2 F.n_range (me_op opd_add (me_v 3) me_int) (me_op opd_add (me_op opd_add (me_v 3) (me_op opd_mul me_int (me_v 1))) me_int)) (fun _ _ _ _ _ => (mg_nm (c.blk) 5)) (fun _ _ _ _ _ => (mts_one (mt_cmp opd_lt (me_call (c.blk) (fn_law_ring_ended F) (ma_cons (me_v 0) (ma_cons (me_v 5) ma_nil))) (me_v 4) (by with_unfolding_all rfl)))) (fun _ _ _ _ _ => (me_tup (ma_cons (me_v 3) (ma_cons (me_v 5) ma_nil))))))))))
  (mss_one (ms_ret (me_v 2)))))) law_law_ring_pairs
theorem fn_law_ring_pairs {w : World} {K : PySem.W.Frag} {mg : Str → Option Value} {base : Heap} (F : Fx K mg) : Fnc RR.prog w K mg base "_law_ring_pairs" 3 P_law_ring_pairs [] sp_law_ring_pairs := by
  obtain ⟨f, fd, hm, FD⟩ := F.f_law_ring_pairs
  exact ⟨f, fd, [], [], hm, FD.kp, FD.bindsN (fun _ _ _ _ _ _ us hl => match us, hl with | [_], _ => rfl), .nil, fun _ => Dens.nil.mpr rfl, ok_law_ring_pairs F FD⟩
theorem sc_law_ring_triples : FnScope N_law_ring_triples P_law_ring_triples (defScope s_law_ring_triples) := ⟨rfl, rfl, rfl, by decide +kernel, rfl, by decide +kernel, by decide +kernel⟩
theorem ok_law_ring_triples {w : World} {K : PySem.W.Frag} {mg : Str → Option Value} {base : Heap} {f : Addr} {fd : FuncData} (F : Fx K mg) (FD : FunD K "_law_ring_triples" "_law_ring_triples" (defArgs s_law_ring_triples) (defBody s_law_ring_triples) (defScope s_law_ring_triples) [] [] f fd) :
    FnOk RR.prog w K mg base (L2.CX RR.prog w) 4 f fd P_law_ring_triples (upSp K sp_law_ring_triples) :=
  fnOk_of (m := 2) FD sc_law_ring_triples (fun cdv A outer s H E c =>
  (mss_cons (ms_par c 1 2 (ma_cons (me_len F.n_len (me_v 0)) (ma_cons (me_lst ma_nil) ma_nil)))
  (mss_cons (ms_for c (mi_it (me_call c (fn_law_ring_pairs F) (ma_cons (me_v 0) ma_nil))) (mg_tp c (mgs_cons (mg_nm c 3) (mgs_cons (mg_nm c 4) mgs_nil)))
  (mss_cons (ms_set c 5 (me_call c (fn_law_ring_ended F) (ma_cons (me_v 0) (ma_cons (me_v 4) ma_nil))))
  (mss_one (ms_set c 2 (me_op opd_add (me_v 2) (me_lc (own := [("_law_z", 6)]) c (blkOk_by (by kernel_rfl)) (mi_r2 F.n_range (me_op opd_add (me_v 4) me_int) (me_op opd_add (me_op opd_add (me_v 4) (me_op opd_mul me_int (me_v 1))) me_int)) (fun _ _ _ _ _ => (mg_nm (c.blk) 6)) (fun _ _ _ _ _ => (mts_one (mt_cmp opd_lt (me_call (c.blk) (fn_law_ring_ended F) (ma_cons (me_v 0) (ma_cons (me_v 6) ma_nil))) (me_v 5) (by with_unfolding_all rfl)))) (fun _ _ _ _ _ => (me_tup (ma_cons (me_v 3) (ma_cons (me_v 4) (ma_cons (me_v 6) ma_nil)))))))))))
  (mss_one (ms_ret (me_v 2)))))) law_law_ring_triples
theorem fn_law_ring_triples {w : World} {K : PySem.W.Frag} {mg : Str → Option Value} {base : Heap} (F : Fx K mg) : Fnc RR.prog w K mg base "_law_ring_triples" 4 P_law_ring_triples [] sp_law_ring_triples := by
  obtain ⟨f, fd, hm, FD⟩ := F.f_law_ring_triples
  exact ⟨f, fd, [], [], hm, FD.kp, FD.bindsN (fun _ _ _ _ _ _ us hl => match us, hl with | [_], _ => rfl), .nil, fun _ => Dens.nil.mpr rfl, ok_law_ring_triples F FD⟩
theorem sc_law_ring_place : FnScope N_law_ring_place P_law_ring_place (defScope s_law_ring_place) := ⟨rfl, rfl, rfl, by decide +kernel, rfl, by decide +kernel, by decide +kernel⟩
theorem ok_law_ring_place {w : World} {K : PySem.W.Frag} {mg : Str → Option Value} {base : Heap} {f : Addr} {fd : FuncData} (F : Fx K mg) (FD : FunD K "_law_ring_place" "_law_ring_place" (defArgs s_law_ring_place) (defBody s_law_ring_place) (defScope s_law_ring_place) [] [] f fd) :
    FnOk RR.prog w K mg base (L2.CX RR.prog w) 3 f fd P_law_ring_place (upSp K sp_law_ring_place) :=
  fnOk_of (m := 1) FD sc_law_ring_place (fun cdv A outer s H E c =>
  (mss_one (ms_ret (me_op opd_mod (me_op opd_add (me_v 1) (me_len F.n_len (me_lc (own := [("_law_y", 3)]) c (blkOk_by (by kernel_rfl)) (mi_r2 F.n_range (me_op opd_add (me_v 1) me_int) (me_v 2)) (fun _ _ _ _ _ => (mg_nm (c.blk) 3)) (fun _ _ _ _ _ => (mts_one (mt_cmp opd_lt (me_call (c.blk) (fn_law_ring_ended F) (ma_cons (me_v 0) (ma_cons (me_v 3) ma_nil))) (me_v 3) (by with_unfolding_all rfl)))) (fun _ _ _ _ _ => (me_v 3))))) (me_len F.n_len (me_v 0)))))) law_law_ring_place
theorem fn_law_ring_place {w : World} {K : PySem.W.Frag} {mg : Str → Option Value} {base : Heap} (F : Fx K mg) : Fnc RR.prog w K mg base "_law_ring_place" 3 P_law_ring_place [] sp_law_ring_place := by
  obtain ⟨f, fd, hm, FD⟩ := F.f_law_ring_place
  exact ⟨f, fd, [], [], hm, FD.kp, FD.bindsN (fun _ _ _ _ _ _ us hl => match us, hl with | [_, _, _], _ => rfl), .nil, fun _ => Dens.nil.mpr rfl, ok_law_ring_place F FD⟩
theorem sc_law_ring_refusals : FnScope N_law_ring_refusals P_law_ring_refusals (defScope s_law_ring_refusals) := ⟨rfl, rfl, rfl, by decide +kernel, rfl, by decide +kernel, by decide +kernel⟩
theorem ok_law_ring_refusals {w : World} {K : PySem.W.Frag} {mg : Str → Option Value} {base : Heap} {f : Addr} {fd : FuncData} (F : Fx K mg) (FD : FunD K "_law_ring_refusals" "_law_ring_refusals" (defArgs s_law_ring_refusals) (defBody s_law_ring_refusals) (defScope s_law_ring_refusals) [] [] f fd) :
    FnOk RR.prog w K mg base (L2.CX RR.prog w) 4 f fd P_law_ring_refusals (upSp K sp_law_ring_refusals) :=
  fnOk_of (m := 2) FD sc_law_ring_refusals (fun cdv A outer s H E c =>
  (mss_cons (ms_par c 2 3 (ma_cons (me_len F.n_len (me_v 1)) (ma_cons (me_lst ma_nil) ma_nil)))
  (mss_cons (ms_for c (mi_it (me_call c (fn_law_ring_pairs F) (ma_cons (me_v 1) ma_nil))) (mg_tp c (mgs_cons (mg_nm c 4) (mgs_cons (mg_nm c 5) mgs_nil)))
  (mss_cons (ms_set c 6 (me_call c (fn_law_ring_place F) (ma_cons (me_v 1) (ma_cons (me_v 4) (ma_cons (me_v 5) ma_nil)))))
  (mss_cons (ms_set c 7 (me_op opd_mod (me_op opd_add (me_v 6) me_int) (me_v 2)))
  (mss_cons (ms_if (mt_not (mt_val (me_call c (fn_law_likes_more F) (ma_cons (me_v 0) (ma_cons (me_v 6) (ma_cons (me_op opd_mod (me_v 5) (me_v 2)) (ma_cons (me_op opd_mod (me_v 4) (me_v 2)) ma_nil)))))))
  (mss_one (ms_exp (me_append (me_v 3) (ma_cons (me_tup (ma_cons (me_v 6) (ma_cons (me_v 4) (ma_cons (me_v 5) (ma_cons (me_v 6) ma_nil))))) ma_nil))))
  mss_nil)
  (mss_one (ms_if (mt_not (mt_val (me_call c (fn_law_likes_more F) (ma_cons (me_v 0) (ma_cons (me_v 7) (ma_cons (me_op opd_mod (me_v 4) (me_v 2)) (ma_cons (me_op opd_mod (me_v 5) (me_v 2)) ma_nil)))))))
  (mss_one (ms_exp (me_append (me_v 3) (ma_cons (me_tup (ma_cons (me_v 6) (ma_cons (me_v 4) (ma_cons (me_v 5) (ma_cons (me_v 7) ma_nil))))) ma_nil))))
  mss_nil))))))
  (mss_one (ms_ret (me_v 3)))))) law_law_ring_refusals
theorem fn_law_ring_refusals {w : World} {K : PySem.W.Frag} {mg : Str → Option Value} {base : Heap} (F : Fx K mg) : Fnc RR.prog w K mg base "_law_ring_refusals" 4 P_law_ring_refusals [] sp_law_ring_refusals := by
  obtain ⟨f, fd, hm, FD⟩ := F.f_law_ring_refusals
  exact ⟨f, fd, [], [], hm, FD.kp, FD.bindsN (fun _ _ _ _ _ _ us hl => match us, hl with | [_, _], _ => rfl), .nil, fun _ => Dens.nil.mpr rfl, ok_law_ring_refusals F FD⟩
theorem sc_law_ring_run : FnScope N_law_ring_run P_law_ring_run (defScope s_law_ring_run) := ⟨rfl, rfl, rfl, by decide +kernel, rfl, by decide +kernel, by decide +kernel⟩
theorem ok_law_ring_run {w : World} {K : PySem.W.Frag} {mg : Str → Option Value} {base : Heap} {f : Addr} {fd : FuncData} (F : Fx K mg) (FD : FunD K "_law_ring_run" "_law_ring_run" (defArgs s_law_ring_run) (defBody s_law_ring_run) (defScope s_law_ring_run) [] [] f fd) :
    FnOk RR.prog w K mg base (L2.CX RR.prog w) 4 f fd P_law_ring_run (upSp K sp_law_ring_run) :=
  fnOk_of (m := 2) FD sc_law_ring_run (fun cdv A outer s H E c =>
  (mss_cons (ms_set c 2 (me_len F.n_len (me_v 0)))
  (mss_cons (ms_par c 3 4 (ma_cons (me_tupRg c F.n_tuple (mrg_1 F.n_range (me_v 2))) (ma_cons (me_op opd_mul (me_tup (ma_cons me_int ma_nil)) (me_v 2)) ma_nil)))
  (mss_cons (ms_if (mt_not (mt_val (me_isi F.n_isinstance (ma_cons (me_v 1) (ma_cons (me_bty F.n_tuple (by decide +kernel)) ma_nil)))))
  (mss_one (ms_ret me_non))
  mss_nil)
  (mss_cons (ms_for c (mi_it (me_v 1)) (mg_nm c 5)
  (mss_cons (ms_if (MW.mt (mw_or (mt_not (mt_val (me_isi F.n_isinstance (ma_cons (me_v 5) (ma_cons (me_bty F.n_int (by decide +kernel)) ma_nil))))) (mw_or (mt_val (me_isi F.n_isinstance (ma_cons (me_v 5) (ma_cons (me_bty F.n_bool (by decide +kernel)) ma_nil)))) (mw_or (mt_not (mt_chain opd_le opd_lt me_int (me_v 5) (me_v 2))) (mw_or1 (mt_not (mt_val (me_call c (fn_law_ring_may F) (ma_cons (me_v 0) (ma_cons (me_v 3) (ma_cons (me_v 5) ma_nil)))))))))))
  (mss_one (ms_ret me_non))
  mss_nil)
  (mss_one (ms_asg (me_call c (fn_law_ring_after F) (ma_cons (me_v 3) (ma_cons (me_v 4) (ma_cons (me_v 5) ma_nil)))) (mg_tp c (mgs_cons (mg_nm c 3) (mgs_cons (mg_nm c 4) mgs_nil)))))))
  (mss_one (ms_ret (me_v 4)))))))) law_law_ring_run
theorem fn_law_ring_run {w : World} {K : PySem.W.Frag} {mg : Str → Option Value} {base : Heap} (F : Fx K mg) : Fnc RR.prog w K mg base "_law_ring_run" 4 P_law_ring_run [] sp_law_ring_run := by
  obtain ⟨f, fd, hm, FD⟩ := F.f_law_ring_run
  exact ⟨f, fd, [], [], hm, FD.kp, FD.bindsN (fun _ _ _ _ _ _ us hl => match us, hl with | [_, _], _ => rfl), .nil, fun _ => Dens.nil.mpr rfl, ok_law_ring_run F FD⟩
theorem sc_law_ring_choices : FnScope N_law_ring_choices P_law_ring_choices (defScope s_law_ring_choices) := ⟨rfl, rfl, rfl, by decide +kernel, rfl, by decide +kernel, by decide +kernel⟩
theorem ok_law_ring_choices {w : World} {K : PySem.W.Frag} {mg : Str → Option Value} {base : Heap} {f : Addr} {fd : FuncData} (F : Fx K mg) (FD : FunD K "_law_ring_choices" "_law_ring_choices" (defArgs s_law_ring_choices) (defBody s_law_ring_choices) (defScope s_law_ring_choices) [] [] f fd) :
    FnOk RR.prog w K mg base (L2.CX RR.prog w) 2 f fd P_law_ring_choices (upSp K sp_law_ring_choices) :=
  fnOk_of (m := 0) FD sc_law_ring_choices (fun cdv A outer s H E c =>
  (mss_cons (ms_par c 1 2 (ma_cons (me_len F.n_len (me_v 0)) (ma_cons (me_lst (ma_cons (me_tup ma_nil) ma_nil)) ma_nil)))
  (mss_cons (ms_for c (mi_r1 F.n_range (me_v 1)) (mg_nm c 3)
  (mss_cons (ms_set c 4 (me_op opd_sub (me_tindex (me_v 0) (ma_cons (me_v 3) ma_nil)) (me_v 3)))
  (mss_cons (ms_set c 5 (me_if (mt_cmp opd_gt (me_v 4) me_int (by with_unfolding_all rfl)) (me_op opd_sub (me_v 4) (me_v 1)) (me_op opd_add (me_v 4) (me_v 1))))
  (mss_cons (ms_set c 6 (me_if (mt_cmp (opd_eq c) (me_v 4) me_int (by with_unfolding_all rfl)) (me_lst (ma_cons me_int ma_nil)) (me_sorted F.n_sorted (me_lst (ma_cons (me_v 4) (ma_cons (me_v 5) ma_nil))))))
  (mss_cons (ms_set c 7 (me_lst ma_nil))
  (mss_cons (ms_for c (mi_it (me_v 2)) (mg_nm c 8)
  (mss_one (ms_set c 7 (me_op opd_add (me_v 7) (me_lc (own := [("_law_one", 9)]) c (blkOk_by (by kernel_rfl)) (mi_it (me_v 6)) (fun _ _ _ _ _ => (mg_nm (c.blk) 9)) (fun _ _ _ _ _ => mts_nil) (fun _ _ _ _ _ => (me_op opd_add (me_v 8) (me_tup (ma_cons (me_v 9) ma_nil)))))))))
  (mss_one (ms_set c 2 (me_v 7)))))))))
  (mss_one (ms_ret (me_lc (own := [("_law_moves", 10)]) c (blkOk_by (by kernel_rfl)) (mi_it (me_v 2)) (fun _ _ _ _ _ => (mg_nm (c.blk) 10)) (fun _ _ _ _ _ => (mts_one (mt_cmp (opd_eq (c.blk)) (me_sum (c.blk) F.n_sum (me_v 10)) me_int (by with_unfolding_all rfl)))) (fun _ _ _ _ _ => (me_v 10)))))))) law_law_ring_choices
theorem fn_law_ring_choices {w : World} {K : PySem.W.Frag} {mg : Str → Option Value} {base : Heap} (F : Fx K mg) : Fnc RR.prog w K mg base "_law_ring_choices" 2 P_law_ring_choices [] sp_law_ring_choices := by
  obtain ⟨f, fd, hm, FD⟩ := F.f_law_ring_choices
  exact ⟨f, fd, [], [], hm, FD.kp, FD.bindsN (fun _ _ _ _ _ _ us hl => match us, hl with | [_], _ => rfl), .nil, fun _ => Dens.nil.mpr rfl, ok_law_ring_choices F FD⟩
theorem sc_law_are_integers : FnScope N_law_are_integers P_law_are_integers (defScope s_law_are_integers) := ⟨rfl, rfl, rfl, by decide +kernel, rfl, by decide +kernel, by decide +kernel⟩
theorem ok_law_are_integers {w : World} {K : PySem.W.Frag} {mg : Str → Option Value} {base : Heap} {f : Addr} {fd : FuncData} (F : Fx K mg) (FD : FunD K "_law_are_integers" "_law_are_integers" (defArgs s_law_are_integers) (defBody s_law_are_integers) (defScope s_law_are_integers) [] [] f fd) :
    FnOk RR.prog w K mg base (L2.CX RR.prog w) 2 f fd P_law_are_integers (upSp K sp_law_are_integers) :=
  fnOk_of (m := 0) FD sc_law_are_integers (fun cdv A outer s H E c =>
  (mss_cons (ms_if (MW.mt (mw_or (mt_not (mt_val (me_isi F.n_isinstance (ma_cons (me_v 0) (ma_cons (me_bty F.n_tuple (by decide +kernel)) ma_nil))))) (mw_or1 (mt_cmp (opd_ne c) (me_len F.n_len (me_v 0)) (me_v 1) (by with_unfolding_all rfl)))))
  (mss_one (ms_ret me_bl))
  mss_nil)
  (mss_one (ms_ret (me_cmp (opd_eq c) (me_lc (own := [("_law_one", 2)]) c (blkOk_by (by kernel_rfl)) (mi_it (me_v 0)) (fun _ _ _ _ _ => (mg_nm (c.blk) 2)) (fun _ _ _ _ _ => (mts_one (MW.mt (mw_or (mt_not (mt_val (me_isi F.n_isinstance (ma_cons (me_v 2) (ma_cons (me_bty F.n_int (by decide +kernel)) ma_nil))))) (mw_or1 (mt_val (me_isi F.n_isinstance (ma_cons (me_v 2) (ma_cons (me_bty F.n_bool (by decide +kernel)) ma_nil))))))))) (fun _ _ _ _ _ => (me_v 2))) (me_lst ma_nil) (by with_unfolding_all rfl)))))) law_law_are_integers
theorem fn_law_are_integers {w : World} {K : PySem.W.Frag} {mg : Str → Option Value} {base : Heap} (F : Fx K mg) : Fnc RR.prog w K mg base "_law_are_integers" 2 P_law_are_integers [] sp_law_are_integers := by
  obtain ⟨f, fd, hm, FD⟩ := F.f_law_are_integers
  exact ⟨f, fd, [], [], hm, FD.kp, FD.bindsN (fun _ _ _ _ _ _ us hl => match us, hl with | [_, _], _ => rfl), .nil, fun _ => Dens.nil.mpr rfl, ok_law_are_integers F FD⟩
theorem sc_law_ring_word : FnScope N_law_ring_word P_law_ring_word (defScope s_law_ring_word) := ⟨rfl, rfl, rfl, by decide +kernel, rfl, by decide +kernel, by decide +kernel⟩
theorem ok_law_ring_word {w : World} {K : PySem.W.Frag} {mg : Str → Option Value} {base : Heap} {f : Addr} {fd : FuncData} (F : Fx K mg) (FD : FunD K "_law_ring_word" "_law_ring_word" (defArgs s_law_ring_word) (defBody s_law_ring_word) (defScope s_law_ring_word) [] [] f fd) :
    FnOk RR.prog w K mg base (L2.CX RR.prog w) 5 f fd P_law_ring_word (upSp K sp_law_ring_word) :=
  fnOk_of (m := 3) FD sc_law_ring_word (fun cdv A outer s H E c =>
  (mss_cons (ms_if (MW.mt (mw_or (mt_not (mt_val (me_isi F.n_isinstance (ma_cons (me_v 2) (ma_cons (me_bty F.n_tuple (by decide +kernel)) ma_nil))))) (mw_or (mt_cmp (opd_ne c) (me_len F.n_len (me_v 2)) me_int (by with_unfolding_all rfl)) (mw_or1 (mt_not (mt_val (me_isi F.n_isinstance (ma_cons (me_ix c (me_v 2) me_int) (ma_cons (me_bty F.n_str (by decide +kernel)) ma_nil)))))))))
  (mss_one (ms_ret (me_tup (ma_cons me_str (ma_cons me_str ma_nil)))))
  mss_nil)
  (mss_cons (ms_asg (me_v 2) (mg_tp c (mgs_cons (mg_nm c 3) (mgs_cons (mg_nm c 4) mgs_nil))))
  (mss_cons (ms_if (mt_cmp (opd_notIn c) (me_v 3) (me_lst (ma_cons me_str (ma_cons me_str (ma_cons me_str ma_nil)))) (by with_unfolding_all rfl))
  (mss_one (ms_ret (me_tup (ma_cons me_str (ma_cons me_str ma_nil)))))
  mss_nil)
  (mss_cons (ms_set c 5 me_bl)
  (mss_cons (ms_if (mt_cmp (opd_eq c) (me_v 3) me_str (by with_unfolding_all rfl))
  (mss_one (ms_set c 5 (me_cmp (opd_eq c) (me_call c (fn_law_ring_run F) (ma_cons (me_v 0) (ma_cons (me_v 4) ma_nil))) (me_v 1) (by with_unfolding_all rfl))))
  (mss_one (ms_if (mt_val (me_call c (fn_law_are_integers F) (ma_cons (me_v 4) (ma_cons (me_if (mt_cmp (opd_eq c) (me_v 3) me_str (by with_unfolding_all rfl)) me_int me_int) ma_nil))))
  (mss_cons (ms_set c 6 (me_call c (fn_law_ring_triples F) (ma_cons (me_v 1) ma_nil)))
  (mss_one (ms_set c 5 (me_if (mt_cmp (opd_eq c) (me_v 3) me_str (by with_unfolding_all rfl)) (me_cmp (opd_in c) (me_v 4) (me_v 6) (by with_unfolding_all rfl)) (me_and (me_cmp (opd_eq c) (me_v 6) (me_lst ma_nil) (by with_unfolding_all rfl)) (me_one (me_cmp (opd_in c) (me_v 4) (me_call c (fn_law_ring_refusals F) (ma_cons (me_v 0) (ma_cons (me_v 1) ma_nil))) (by with_unfolding_all rfl))))))))
  mss_nil)))
  (mss_one (ms_ret (me_if (mt_val (me_v 5)) (me_lst (ma_cons (me_v 3) ma_nil)) (me_tup (ma_cons me_str (ma_cons (me_v 3) ma_nil)))))))))))) law_law_ring_word
theorem fn_law_ring_word {w : World} {K : PySem.W.Frag} {mg : Str → Option Value} {base : Heap} (F : Fx K mg) : Fnc RR.prog w K mg base "_law_ring_word" 5 P_law_ring_word [] sp_law_ring_word := by
  obtain ⟨f, fd, hm, FD⟩ := F.f_law_ring_word
  exact ⟨f, fd, [], [], hm, FD.kp, FD.bindsN (fun _ _ _ _ _ _ us hl => match us, hl with | [_, _, _], _ => rfl), .nil, fun _ => Dens.nil.mpr rfl, ok_law_ring_word F FD⟩
theorem sc_law_ring_case : FnScope N_law_ring_case P_law_ring_case (defScope s_law_ring_case) := ⟨rfl, rfl, rfl, by decide +kernel, rfl, by decide +kernel, by decide +kernel⟩
theorem ok_law_ring_case {w : World} {K : PySem.W.Frag} {mg : Str → Option Value} {base : Heap} {f : Addr} {fd : FuncData} (F : Fx K mg) (FD : FunD K "_law_ring_case" "_law_ring_case" (defArgs s_law_ring_case) (defBody s_law_ring_case) (defScope s_law_ring_case) [] [] f fd) :
    FnOk RR.prog w K mg base (L2.CX RR.prog w) 6 f fd P_law_ring_case (upSp K sp_law_ring_case) :=
  fnOk_of (m := 4) FD sc_law_ring_case (fun cdv A outer s H E c =>
  (mss_cons (ms_asg (me_call c (fn_law_ring_walk F) (ma_cons (me_v 0) (ma_cons (me_v 1) ma_nil))) (mg_tp c (mgs_cons (mg_nm c 2) (mgs_cons (mg_nm c 3) mgs_nil))))
  (mss_cons (ms_par c 4 5 (ma_cons (me_call c (fn_law_ring_lists F) (ma_cons (me_v 0) (ma_cons (me_v 1) (ma_cons (me_v 2) ma_nil)))) (ma_cons (me_call c (fn_law_draw F) (ma_cons (me_v 0) (ma_cons me_int ma_nil))) ma_nil)))
  (mss_cons (ms_if (mt_cmp (opd_eq c) (me_v 5) me_int (by with_unfolding_all rfl))
  (mss_one (ms_set c 3 (me_ix c (me_call c (fn_law_ring_walk F) (ma_cons (me_v 0) (ma_cons (me_v 1) ma_nil))) me_int)))
  mss_nil)
  (mss_cons (ms_if (mt_cmp (opd_eq c) (me_v 5) me_int (by with_unfolding_all rfl))
  (mss_cons (ms_set c 6 (me_tuple F.n_tuple (me_call c (fn_law_mixed_up F) (ma_cons (me_v 0) (ma_cons (me_listRg c F.n_list (mrg_1 F.n_range (me_v 1))) ma_nil)))))
  (mss_cons (ms_set c 7 (me_call c (fn_law_ring_choices F) (ma_cons (me_v 6) ma_nil)))
  (mss_one (ms_set c 3 (me_if (mt_cmp (opd_ne c) (me_v 7) (me_lst ma_nil) (by with_unfolding_all rfl)) (me_ix c (me_v 7) (me_call c (fn_law_draw F) (ma_cons (me_v 0) (ma_cons (me_len F.n_len (me_v 7)) ma_nil)))) (me_v 3))))))
  mss_nil)
  (mss_one (ms_ret (me_tup (ma_cons (me_v 4) (ma_cons (me_v 3) ma_nil)))))))))) law_law_ring_case
theorem fn_law_ring_case {w : World} {K : PySem.W.Frag} {mg : Str → Option Value} {base : Heap} (F : Fx K mg) : Fnc RR.prog w K mg base "_law_ring_case" 6 P_law_ring_case [] sp_law_ring_case := by
  obtain ⟨f, fd, hm, FD⟩ := F.f_law_ring_case
  exact ⟨f, fd, [], [], hm, FD.kp, FD.bindsN (fun _ _ _ _ _ _ us hl => match us, hl with | [_, _], _ => rfl), .nil, fun _ => Dens.nil.mpr rfl, ok_law_ring_case F FD⟩
theorem sc_law_right : FnScope N_law_right P_law_right (defScope s_law_right) := ⟨rfl, rfl, rfl, by decide +kernel, rfl, by decide +kernel, by decide +kernel⟩
theorem ok_law_right {w : World} {K : PySem.W.Frag} {mg : Str → Option Value} {base : Heap} {f : Addr} {fd : FuncData} (F : Fx K mg) (FD : FunD K "_law_right" "_law_right" (defArgs s_law_right) (defBody s_law_right) (defScope s_law_right) [] [] f fd) :
    FnOk RR.prog w K mg base (L2.CX RR.prog w) 9 f fd P_law_right (upSp K sp_law_right) :=
  fnOk_of (m := 7) FD sc_law_right (fun cdv A outer s H E c =>
  (mss_cons (ms_set c 3 me_str)
  (mss_cons (ms_if (mt_cmp (opd_ne c) (me_call c (fn_law_ring_triples F) (ma_cons (me_v 1) ma_nil)) (me_lst ma_nil) (by with_unfolding_all rfl))
  (mss_one (ms_set c 3 me_str))
  (mss_one (ms_if (mt_cmp (opd_in c) (me_v 1) (me_v 2) (by with_unfolding_all rfl))
  (mss_one (ms_set c 3 me_str))
  mss_nil)))
  (mss_cons (ms_for c (mi_it (me_lst (ma_cons (me_call c (fn_decide_ring F) (ma_cons (me_v 0) (ma_cons (me_v 1) ma_nil))) (ma_cons (me_callK0 c (fnk_0 F) (mk_cons (me_v 1) (mk_cons (me_v 0) mk_nil))) ma_nil)))) (mg_nm c 4)
  (mss_one (ms_if (MW.mt (mw_or (mt_cmp (opd_ne c) (me_ix c (me_v 4) me_int) (me_v 3) (by with_unfolding_all rfl)) (mw_or1 (mt_cmp (opd_ne c) (me_call c (fn_law_ring_word F) (ma_cons (me_v 0) (ma_cons (me_v 1) (ma_cons (me_v 4) ma_nil)))) (me_lst (ma_cons (me_v 3) ma_nil)) (by with_unfolding_all rfl)))))
  (mss_one (ms_ret me_bl))
  mss_nil)))
  (mss_one (ms_ret me_bl)))))) law_law_right
theorem fn_law_right {w : World} {K : PySem.W.Frag} {mg : Str → Option Value} {base : Heap} (F : Fx K mg) : Fnc RR.prog w K mg base "_law_right" 9 P_law_right [] sp_law_right := by
  obtain ⟨f, fd, hm, FD⟩ := F.f_law_right
  exact ⟨f, fd, [], [], hm, FD.kp, FD.bindsN (fun _ _ _ _ _ _ us hl => match us, hl with | [_, _, _], _ => rfl), .nil, fun _ => Dens.nil.mpr rfl, ok_law_right F FD⟩
theorem sc_law : FnScope N_law P_law (defScope s_law) := ⟨rfl, rfl, rfl, by decide +kernel, rfl, by decide +kernel, by decide +kernel⟩
theorem ok_law {w : World} {K : PySem.W.Frag} {mg : Str → Option Value} {base : Heap} {f : Addr} {fd : FuncData} (F : Fx K mg) (FD : FunD K "law" "law" (defArgs s_law) (defBody s_law) (defScope s_law) [] [] f fd) :
    FnOk RR.prog w K mg base (L2.CX RR.prog w) 10 f fd P_law (upSp K sp_law) :=
  fnOk_of (m := 8) FD sc_law (fun cdv A outer s H E c =>
  (mss_cons (ms_set c 1 (me_call c (fn_law_begun F) (ma_cons (me_v 0) ma_nil)))
  (mss_cons (ms_for c (mi_r1 F.n_range me_int) (mg_nm c 2)
  (mss_cons (ms_set c 3 (me_ix c (me_lst (ma_cons me_int (ma_cons me_int (ma_cons me_int (ma_cons me_int ma_nil))))) (me_v 2)))
  (mss_cons (ms_asg (me_call c (fn_law_ring_case F) (ma_cons (me_v 1) (ma_cons (me_v 3) ma_nil))) (mg_tp c (mgs_cons (mg_nm c 4) (mgs_cons (mg_nm c 5) mgs_nil))))
  (mss_cons (ms_setLc (own := [("_law_row", 8), ("_law_shifts", 9)]) c 6 (blkOk_by (by kernel_rfl)) (mi_it (me_call c (fn_law_ring_all F) (ma_cons (me_v 4) ma_nil))) (fun _ _ _ _ _ => (mg_tp (c.blk) (mgs_cons (mg_nm (c.blk) 8) (mgs_cons (mg_nm (c.blk) 9) mgs_nil)))) (fun _ _ _ _ _ => mts_nil) (fun _ _ _ _ _ => (me_v 9)))
  (mss_cons (ms_if (mt_not (mt_val (me_call c (fn_law_right F) (ma_cons (me_v 4) (ma_cons (me_v 5) (ma_cons (me_v 6) ma_nil))))))
  (mss_one (ms_ret me_bl))
  mss_nil)
  (mss_one (ms_for c (mi_r1 F.n_range me_int) (mg_nm c 7)
  (mss_cons (ms_set c 8 (me_tuple F.n_tuple (me_call c (fn_law_mixed_up F) (ma_cons (me_v 1) (ma_cons (me_listRg c F.n_list (mrg_1 F.n_range (me_v 3))) ma_nil)))))
  (mss_one (ms_for c (mi_it (me_slice (me_call c (fn_law_ring_choices F) (ma_cons (me_v 8) ma_nil)) mo_none (mo_some me_int))) (mg_nm c 9)
  (mss_one (ms_if (mt_not (mt_val (me_call c (fn_law_right F) (ma_cons (me_v 4) (ma_cons (me_v 9) (ma_cons (me_v 6) ma_nil))))))
  (mss_one (ms_ret me_bl))
  mss_nil))))))))))))
  (mss_one (ms_ret me_bl))))) law_law
theorem fn_law {w : World} {K : PySem.W.Frag} {mg : Str → Option Value} {base : Heap} (F : Fx K mg) : Fnc RR.prog w K mg base "law" 10 P_law [] sp_law := by
  obtain ⟨f, fd, hm, FD⟩ := F.f_law
  exact ⟨f, fd, [], [], hm, FD.kp, FD.bindsN (fun _ _ _ _ _ _ us hl => match us, hl with | [_], _ => rfl), .nil, fun _ => Dens.nil.mpr rfl, ok_law F FD⟩

end Sw

set_option Elab.async false
set_option linter.all false
set_option maxRecDepth 100000
set_option maxHeartbeats 0
namespace Sw
open PySem PySem.Spec PyProof.Rows L2 DL
def d_InvalidRankings_init : He.DefD := ⟨("InvalidRankings", some "__init__"), "__init__", "InvalidRankings.__init__", defArgs s_InvalidRankings_init, defBody s_InvalidRankings_init, defScope s_InvalidRankings_init, [.non], []⟩
def d_LimitExceeded_init : He.DefD := ⟨("LimitExceeded", some "__init__"), "__init__", "LimitExceeded.__init__", defArgs s_LimitExceeded_init, defBody s_LimitExceeded_init, defScope s_LimitExceeded_init, [], []⟩
def d_InvalidDisplacements_init : He.DefD := ⟨("InvalidDisplacements", some "__init__"), "__init__", "InvalidDisplacements.__init__", defArgs s_InvalidDisplacements_init, defBody s_InvalidDisplacements_init, defScope s_InvalidDisplacements_init, [.non], []⟩
def d_is_integer : He.DefD := ⟨("is_integer", none), "is_integer", "is_integer", defArgs s_is_integer, defBody s_is_integer, defScope s_is_integer, [], []⟩
def d_is_number_below : He.DefD := ⟨("is_number_below", none), "is_number_below", "is_number_below", defArgs s_is_number_below, defBody s_is_number_below, defScope s_is_number_below, [], []⟩
def d_is_ranking : He.DefD := ⟨("is_ranking", none), "is_ranking", "is_ranking", defArgs s_is_ranking, defBody s_is_ranking, defScope s_is_ranking, [], []⟩
def d_check_rankings : He.DefD := ⟨("check_rankings", none), "check_rankings", "check_rankings", defArgs s_check_rankings, defBody s_check_rankings, defScope s_check_rankings, [], []⟩
def d_rank_tables : He.DefD := ⟨("rank_tables", none), "rank_tables", "rank_tables", defArgs s_rank_tables, defBody s_rank_tables, defScope s_rank_tables, [], []⟩
def d_check_displacements : He.DefD := ⟨("check_displacements", none), "check_displacements", "check_displacements", defArgs s_check_displacements, defBody s_check_displacements, defScope s_check_displacements, [], []⟩
def d_check_ring : He.DefD := ⟨("check_ring", none), "check_ring", "check_ring", defArgs s_check_ring, defBody s_check_ring, defScope s_check_ring, [], []⟩
def d_check_both : He.DefD := ⟨("check_both", none), "check_both", "check_both", defArgs s_check_both, defBody s_check_both, defScope s_check_both, [], []⟩
def d_end_of_copy : He.DefD := ⟨("end_of_copy", none), "end_of_copy", "end_of_copy", defArgs s_end_of_copy, defBody s_end_of_copy, defScope s_end_of_copy, [], []⟩
def d_later_copies : He.DefD := ⟨("later_copies", none), "later_copies", "later_copies", defArgs s_later_copies, defBody s_later_copies, defScope s_later_copies, [], []⟩
def d_inversions_there : He.DefD := ⟨("inversions_there", none), "inversions_there", "inversions_there", defArgs s_inversions_there, defBody s_inversions_there, defScope s_inversions_there, [], []⟩
def d_triple_there : He.DefD := ⟨("triple_there", none), "triple_there", "triple_there", defArgs s_triple_there, defBody s_triple_there, defScope s_triple_there, [], []⟩
def d_place_there : He.DefD := ⟨("place_there", none), "place_there", "place_there", defArgs s_place_there, defBody s_place_there, defScope s_place_there, [], []⟩
def d_refusals_there : He.DefD := ⟨("refusals_there", none), "refusals_there", "refusals_there", defArgs s_refusals_there, defBody s_refusals_there, defScope s_refusals_there, [], []⟩
def d_sequence_for : He.DefD := ⟨("sequence_for", none), "sequence_for", "sequence_for", defArgs s_sequence_for, defBody s_sequence_for, defScope s_sequence_for, [], []⟩
def d_decide_there : He.DefD := ⟨("decide_there", none), "decide_there", "decide_there", defArgs s_decide_there, defBody s_decide_there, defScope s_decide_there, [], []⟩
def d_decide_ring : He.DefD := ⟨("decide_ring", none), "decide_ring", "decide_ring", defArgs s_decide_ring, defBody s_decide_ring, defScope s_decide_ring, [], []⟩
def d_law_mixed : He.DefD := ⟨("_law_mixed", none), "_law_mixed", "_law_mixed", defArgs s_law_mixed, defBody s_law_mixed, defScope s_law_mixed, [], []⟩
def d_law_folded : He.DefD := ⟨("_law_folded", none), "_law_folded", "_law_folded", defArgs s_law_folded, defBody s_law_folded, defScope s_law_folded, [], []⟩
def d_law_draw : He.DefD := ⟨("_law_draw", none), "_law_draw", "_law_draw", defArgs s_law_draw, defBody s_law_draw, defScope s_law_draw, [], []⟩
def d_law_begun : He.DefD := ⟨("_law_begun", none), "_law_begun", "_law_begun", defArgs s_law_begun, defBody s_law_begun, defScope s_law_begun, [], []⟩
def d_law_mixed_up : He.DefD := ⟨("_law_mixed_up", none), "_law_mixed_up", "_law_mixed_up", defArgs s_law_mixed_up, defBody s_law_mixed_up, defScope s_law_mixed_up, [], []⟩
def d_law_ring_walk : He.DefD := ⟨("_law_ring_walk", none), "_law_ring_walk", "_law_ring_walk", defArgs s_law_ring_walk, defBody s_law_ring_walk, defScope s_law_ring_walk, [], []⟩
def d_law_ring_lists : He.DefD := ⟨("_law_ring_lists", none), "_law_ring_lists", "_law_ring_lists", defArgs s_law_ring_lists, defBody s_law_ring_lists, defScope s_law_ring_lists, [], []⟩
def d_law_likes_more : He.DefD := ⟨("_law_likes_more", none), "_law_likes_more", "_law_likes_more", defArgs s_law_likes_more, defBody s_law_likes_more, defScope s_law_likes_more, [], []⟩
def d_law_ring_may : He.DefD := ⟨("_law_ring_may", none), "_law_ring_may", "_law_ring_may", defArgs s_law_ring_may, defBody s_law_ring_may, defScope s_law_ring_may, [], []⟩
def d_law_ring_after : He.DefD := ⟨("_law_ring_after", none), "_law_ring_after", "_law_ring_after", defArgs s_law_ring_after, defBody s_law_ring_after, defScope s_law_ring_after, [], []⟩
def d_law_ring_all : He.DefD := ⟨("_law_ring_all", none), "_law_ring_all", "_law_ring_all", defArgs s_law_ring_all, defBody s_law_ring_all, defScope s_law_ring_all, [], []⟩
def d_law_ring_ended : He.DefD := ⟨("_law_ring_ended", none), "_law_ring_ended", "_law_ring_ended", defArgs s_law_ring_ended, defBody s_law_ring_ended, defScope s_law_ring_ended, [], []⟩
def d_law_ring_pairs : He.DefD := ⟨("_law_ring_pairs", none), "_law_ring_pairs", "_law_ring_pairs", defArgs s_law_ring_pairs, defBody s_law_ring_pairs, defScope s_law_ring_pairs, [], []⟩
def d_law_ring_triples : He.DefD := ⟨("_law_ring_triples", none), "_law_ring_triples", "_law_ring_triples", defArgs s_law_ring_triples, defBody s_law_ring_triples, defScope s_law_ring_triples, [], []⟩
def d_law_ring_place : He.DefD := ⟨("_law_ring_place", none), "_law_ring_place", "_law_ring_place", defArgs s_law_ring_place, defBody s_law_ring_place, defScope s_law_ring_place, [], []⟩
def d_law_ring_refusals : He.DefD := ⟨("_law_ring_refusals", none), "_law_ring_refusals", "_law_ring_refusals", defArgs s_law_ring_refusals, defBody s_law_ring_refusals, defScope s_law_ring_refusals, [], []⟩
def d_law_ring_run : He.DefD := ⟨("_law_ring_run", none), "_law_ring_run", "_law_ring_run", defArgs s_law_ring_run, defBody s_law_ring_run, defScope s_law_ring_run, [], []⟩
def d_law_ring_choices : He.DefD := ⟨("_law_ring_choices", none), "_law_ring_choices", "_law_ring_choices", defArgs s_law_ring_choices, defBody s_law_ring_choices, defScope s_law_ring_choices, [], []⟩
def d_law_ring_word : He.DefD := ⟨("_law_ring_word", none), "_law_ring_word", "_law_ring_word", defArgs s_law_ring_word, defBody s_law_ring_word, defScope s_law_ring_word, [], []⟩
def d_law_are_integers : He.DefD := ⟨("_law_are_integers", none), "_law_are_integers", "_law_are_integers", defArgs s_law_are_integers, defBody s_law_are_integers, defScope s_law_are_integers, [], []⟩
def d_law_ring_case : He.DefD := ⟨("_law_ring_case", none), "_law_ring_case", "_law_ring_case", defArgs s_law_ring_case, defBody s_law_ring_case, defScope s_law_ring_case, [], []⟩
def d_law_right : He.DefD := ⟨("_law_right", none), "_law_right", "_law_right", defArgs s_law_right, defBody s_law_right, defScope s_law_right, [], []⟩
def d_law : He.DefD := ⟨("law", none), "law", "law", defArgs s_law, defBody s_law, defScope s_law, [], []⟩
def fnD : List He.DefD := [d_InvalidRankings_init, d_LimitExceeded_init, d_InvalidDisplacements_init, d_is_integer, d_is_number_below, d_is_ranking, d_check_rankings, d_rank_tables, d_check_displacements, d_check_ring, d_check_both, d_end_of_copy, d_later_copies, d_inversions_there, d_triple_there, d_place_there, d_refusals_there, d_sequence_for, d_decide_there, d_decide_ring, d_law_mixed, d_law_folded, d_law_draw, d_law_begun, d_law_mixed_up, d_law_ring_walk, d_law_ring_lists, d_law_likes_more, d_law_ring_may, d_law_ring_after, d_law_ring_all, d_law_ring_ended, d_law_ring_pairs, d_law_ring_triples, d_law_ring_place, d_law_ring_refusals, d_law_ring_run, d_law_ring_choices, d_law_ring_word, d_law_are_integers, d_law_ring_case, d_law_right, d_law]
def faD : List He.Fa := [.glo "is_integer", .glo "is_number_below", .glo "is_ranking", .glo "check_rankings", .glo "rank_tables", .glo "check_displacements", .glo "check_ring", .glo "check_both", .glo "end_of_copy", .glo "later_copies", .glo "inversions_there", .glo "triple_there", .glo "place_there", .glo "refusals_there", .glo "sequence_for", .glo "decide_there", .glo "decide_ring", .glo "_law_mixed", .glo "_law_folded", .glo "_law_draw", .glo "_law_begun", .glo "_law_mixed_up", .glo "_law_ring_walk", .glo "_law_ring_lists", .glo "_law_likes_more", .glo "_law_ring_may", .glo "_law_ring_after", .glo "_law_ring_all", .glo "_law_ring_ended", .glo "_law_ring_pairs", .glo "_law_ring_triples", .glo "_law_ring_place", .glo "_law_ring_refusals", .glo "_law_ring_run", .glo "_law_ring_choices", .glo "_law_ring_word", .glo "_law_are_integers", .glo "_law_ring_case", .glo "_law_right", .glo "law", .glo "SwaprowError", .glo "InvalidRankings", .glo "LimitExceeded", .glo "InvalidDisplacements", .free "ValueError", .free "all", .free "any", .free "bool", .free "enumerate", .free "int", .free "isinstance", .free "len", .free "list", .free "range", .free "set", .free "sorted", .free "str", .free "sum", .free "tuple", .int "MAX_PEOPLE" 40, .int "MAX_RING" 20]
def looseD : List Str := (["SwaprowError", "InvalidRankings", "LimitExceeded", "InvalidDisplacements", "MAX_PEOPLE", "is_integer", "is_number_below", "is_ranking", "check_rankings", "rank_tables", "MAX_RING", "check_displacements"] : List Str) ++ (["check_ring", "check_both", "end_of_copy", "later_copies", "inversions_there", "triple_there", "place_there", "refusals_there", "sequence_for", "decide_there", "decide_ring", "_law_mixed"] : List Str) ++ (["_law_folded", "_law_draw", "_law_begun", "_law_mixed_up", "_law_ring_walk", "_law_ring_lists", "_law_likes_more", "_law_ring_may", "_law_ring_after", "_law_ring_all", "_law_ring_ended", "_law_ring_pairs"] : List Str) ++ (["_law_ring_triples", "_law_ring_place", "_law_ring_refusals", "_law_ring_run", "_law_ring_choices", "_law_ring_word", "_law_are_integers", "_law_ring_case", "_law_right"] : List Str)
def lawIx : Nat := 49

abbrev hk : PySem.W.Hook := He.hookD 4 faD fnD
def ob (s : PySem.W.SharedT) : He.AlD := He.obsDG 4 faD fnD (HandSHeadRun.getT s)
theorem ob_eq (s : PySem.W.SharedT) : ob s = hk.obs s.abs := He.obsDG_eq (HandSHeadRun.getT_eq s)
theorem run (w : World) : HandSHeadRun.RunEq RR (PySem.W.view RR.prog [lawIx]) hk ob 4000 looseD w := by
  intro os
  kernel_rfl
theorem facts {K : PySem.W.Frag} {h : Heap} {mg : Str → Option Value} (X : K.In h) (G : h.Ns mainGlobals mg) (c : He.SaysD faD fnD K) : Fx K mg :=
  {
    f_is_integer := (c.def_ 3 (d := d_is_integer) rfl).elim fun fd FD => ⟨_, fd, He.glo_ok X G (c.fact 0 (f := .glo "is_integer") rfl), FD⟩
    f_is_number_below := (c.def_ 4 (d := d_is_number_below) rfl).elim fun fd FD => ⟨_, fd, He.glo_ok X G (c.fact 1 (f := .glo "is_number_below") rfl), FD⟩
    f_is_ranking := (c.def_ 5 (d := d_is_ranking) rfl).elim fun fd FD => ⟨_, fd, He.glo_ok X G (c.fact 2 (f := .glo "is_ranking") rfl), FD⟩
    f_check_rankings := (c.def_ 6 (d := d_check_rankings) rfl).elim fun fd FD => ⟨_, fd, He.glo_ok X G (c.fact 3 (f := .glo "check_rankings") rfl), FD⟩
    f_rank_tables := (c.def_ 7 (d := d_rank_tables) rfl).elim fun fd FD => ⟨_, fd, He.glo_ok X G (c.fact 4 (f := .glo "rank_tables") rfl), FD⟩
    f_check_displacements := (c.def_ 8 (d := d_check_displacements) rfl).elim fun fd FD => ⟨_, fd, He.glo_ok X G (c.fact 5 (f := .glo "check_displacements") rfl), FD⟩
    f_check_ring := (c.def_ 9 (d := d_check_ring) rfl).elim fun fd FD => ⟨_, fd, He.glo_ok X G (c.fact 6 (f := .glo "check_ring") rfl), FD⟩
    f_check_both := (c.def_ 10 (d := d_check_both) rfl).elim fun fd FD => ⟨_, fd, He.glo_ok X G (c.fact 7 (f := .glo "check_both") rfl), FD⟩
    f_end_of_copy := (c.def_ 11 (d := d_end_of_copy) rfl).elim fun fd FD => ⟨_, fd, He.glo_ok X G (c.fact 8 (f := .glo "end_of_copy") rfl), FD⟩
    f_later_copies := (c.def_ 12 (d := d_later_copies) rfl).elim fun fd FD => ⟨_, fd, He.glo_ok X G (c.fact 9 (f := .glo "later_copies") rfl), FD⟩
    f_inversions_there := (c.def_ 13 (d := d_inversions_there) rfl).elim fun fd FD => ⟨_, fd, He.glo_ok X G (c.fact 10 (f := .glo "inversions_there") rfl), FD⟩
    f_triple_there := (c.def_ 14 (d := d_triple_there) rfl).elim fun fd FD => ⟨_, fd, He.glo_ok X G (c.fact 11 (f := .glo "triple_there") rfl), FD⟩
    f_place_there := (c.def_ 15 (d := d_place_there) rfl).elim fun fd FD => ⟨_, fd, He.glo_ok X G (c.fact 12 (f := .glo "place_there") rfl), FD⟩
    f_refusals_there := (c.def_ 16 (d := d_refusals_there) rfl).elim fun fd FD => ⟨_, fd, He.glo_ok X G (c.fact 13 (f := .glo "refusals_there") rfl), FD⟩
    f_sequence_for := (c.def_ 17 (d := d_sequence_for) rfl).elim fun fd FD => ⟨_, fd, He.glo_ok X G (c.fact 14 (f := .glo "sequence_for") rfl), FD⟩
    f_decide_there := (c.def_ 18 (d := d_decide_there) rfl).elim fun fd FD => ⟨_, fd, He.glo_ok X G (c.fact 15 (f := .glo "decide_there") rfl), FD⟩
    f_decide_ring := (c.def_ 19 (d := d_decide_ring) rfl).elim fun fd FD => ⟨_, fd, He.glo_ok X G (c.fact 16 (f := .glo "decide_ring") rfl), FD⟩
    f_law_mixed := (c.def_ 20 (d := d_law_mixed) rfl).elim fun fd FD => ⟨_, fd, He.glo_ok X G (c.fact 17 (f := .glo "_law_mixed") rfl), FD⟩
    f_law_folded := (c.def_ 21 (d := d_law_folded) rfl).elim fun fd FD => ⟨_, fd, He.glo_ok X G (c.fact 18 (f := .glo "_law_folded") rfl), FD⟩
    f_law_draw := (c.def_ 22 (d := d_law_draw) rfl).elim fun fd FD => ⟨_, fd, He.glo_ok X G (c.fact 19 (f := .glo "_law_draw") rfl), FD⟩
    f_law_begun := (c.def_ 23 (d := d_law_begun) rfl).elim fun fd FD => ⟨_, fd, He.glo_ok X G (c.fact 20 (f := .glo "_law_begun") rfl), FD⟩
    f_law_mixed_up := (c.def_ 24 (d := d_law_mixed_up) rfl).elim fun fd FD => ⟨_, fd, He.glo_ok X G (c.fact 21 (f := .glo "_law_mixed_up") rfl), FD⟩
    f_law_ring_walk := (c.def_ 25 (d := d_law_ring_walk) rfl).elim fun fd FD => ⟨_, fd, He.glo_ok X G (c.fact 22 (f := .glo "_law_ring_walk") rfl), FD⟩
    f_law_ring_lists := (c.def_ 26 (d := d_law_ring_lists) rfl).elim fun fd FD => ⟨_, fd, He.glo_ok X G (c.fact 23 (f := .glo "_law_ring_lists") rfl), FD⟩
    f_law_likes_more := (c.def_ 27 (d := d_law_likes_more) rfl).elim fun fd FD => ⟨_, fd, He.glo_ok X G (c.fact 24 (f := .glo "_law_likes_more") rfl), FD⟩
    f_law_ring_may := (c.def_ 28 (d := d_law_ring_may) rfl).elim fun fd FD => ⟨_, fd, He.glo_ok X G (c.fact 25 (f := .glo "_law_ring_may") rfl), FD⟩
    f_law_ring_after := (c.def_ 29 (d := d_law_ring_after) rfl).elim fun fd FD => ⟨_, fd, He.glo_ok X G (c.fact 26 (f := .glo "_law_ring_after") rfl), FD⟩
    f_law_ring_all := (c.def_ 30 (d := d_law_ring_all) rfl).elim fun fd FD => ⟨_, fd, He.glo_ok X G (c.fact 27 (f := .glo "_law_ring_all") rfl), FD⟩
    f_law_ring_ended := (c.def_ 31 (d := d_law_ring_ended) rfl).elim fun fd FD => ⟨_, fd, He.glo_ok X G (c.fact 28 (f := .glo "_law_ring_ended") rfl), FD⟩
    f_law_ring_pairs := (c.def_ 32 (d := d_law_ring_pairs) rfl).elim fun fd FD => ⟨_, fd, He.glo_ok X G (c.fact 29 (f := .glo "_law_ring_pairs") rfl), FD⟩
    f_law_ring_triples := (c.def_ 33 (d := d_law_ring_triples) rfl).elim fun fd FD => ⟨_, fd, He.glo_ok X G (c.fact 30 (f := .glo "_law_ring_triples") rfl), FD⟩
    f_law_ring_place := (c.def_ 34 (d := d_law_ring_place) rfl).elim fun fd FD => ⟨_, fd, He.glo_ok X G (c.fact 31 (f := .glo "_law_ring_place") rfl), FD⟩
    f_law_ring_refusals := (c.def_ 35 (d := d_law_ring_refusals) rfl).elim fun fd FD => ⟨_, fd, He.glo_ok X G (c.fact 32 (f := .glo "_law_ring_refusals") rfl), FD⟩
    f_law_ring_run := (c.def_ 36 (d := d_law_ring_run) rfl).elim fun fd FD => ⟨_, fd, He.glo_ok X G (c.fact 33 (f := .glo "_law_ring_run") rfl), FD⟩
    f_law_ring_choices := (c.def_ 37 (d := d_law_ring_choices) rfl).elim fun fd FD => ⟨_, fd, He.glo_ok X G (c.fact 34 (f := .glo "_law_ring_choices") rfl), FD⟩
    f_law_are_integers := (c.def_ 39 (d := d_law_are_integers) rfl).elim fun fd FD => ⟨_, fd, He.glo_ok X G (c.fact 36 (f := .glo "_law_are_integers") rfl), FD⟩
    f_law_ring_word := (c.def_ 38 (d := d_law_ring_word) rfl).elim fun fd FD => ⟨_, fd, He.glo_ok X G (c.fact 35 (f := .glo "_law_ring_word") rfl), FD⟩
    f_law_ring_case := (c.def_ 40 (d := d_law_ring_case) rfl).elim fun fd FD => ⟨_, fd, He.glo_ok X G (c.fact 37 (f := .glo "_law_ring_case") rfl), FD⟩
    f_law_right := (c.def_ 41 (d := d_law_right) rfl).elim fun fd FD => ⟨_, fd, He.glo_ok X G (c.fact 38 (f := .glo "_law_right") rfl), FD⟩
    f_law := (c.def_ 42 (d := d_law) rfl).elim fun fd FD => ⟨_, fd, He.glo_ok X G (c.fact 39 (f := .glo "law") rfl), FD⟩
    n_ValueError := He.free_ok X G (c.fact 44 (f := .free "ValueError") rfl)
    n_all := He.free_ok X G (c.fact 45 (f := .free "all") rfl)
    n_any := He.free_ok X G (c.fact 46 (f := .free "any") rfl)
    n_bool := He.free_ok X G (c.fact 47 (f := .free "bool") rfl)
    n_enumerate := He.free_ok X G (c.fact 48 (f := .free "enumerate") rfl)
    n_int := He.free_ok X G (c.fact 49 (f := .free "int") rfl)
    n_isinstance := He.free_ok X G (c.fact 50 (f := .free "isinstance") rfl)
    n_len := He.free_ok X G (c.fact 51 (f := .free "len") rfl)
    n_list := He.free_ok X G (c.fact 52 (f := .free "list") rfl)
    n_range := He.free_ok X G (c.fact 53 (f := .free "range") rfl)
    n_set := He.free_ok X G (c.fact 54 (f := .free "set") rfl)
    n_sorted := He.free_ok X G (c.fact 55 (f := .free "sorted") rfl)
    n_str := He.free_ok X G (c.fact 56 (f := .free "str") rfl)
    n_sum := He.free_ok X G (c.fact 57 (f := .free "sum") rfl)
    n_tuple := He.free_ok X G (c.fact 58 (f := .free "tuple") rfl)
    g_MAX_PEOPLE := He.int_ok X G (c.fact 59 (f := .int "MAX_PEOPLE" 40) rfl)
    g_MAX_RING := He.int_ok X G (c.fact 60 (f := .int "MAX_RING" 20) rfl) }
theorem script_fl {K : PySem.W.Frag} {H : Hp} {a : Addr} {xs : List V} (o : Only H) (h : SqL K H a xs) : FL K H a xs := by
  rcases h with (h | ⟨ob, h⟩) | h
  · rcases o a with z | ⟨ob, ys, z⟩
    · rw [h] at z; cases z
    · rw [h] at z; cases z
  · exact .inl ⟨ob, h⟩
  · exact .inr h
theorem walkS {l : PySem.W.OpenLaw} {n k : Nat} {q : Program} {loose : List Str} {XP : (Str → Option Value) → Heap → Prop} {YP : World → Heap → Prop} {d : DefRec} {x : Str} (hn : l.most = some n) (hn2 : n ≤ sizeLine) (hdf : d.params.defaults = []) (hr : Room k callerA)
    (F : ∀ (w : World) (mg : Str → Option Value) (fa : Addr) (h : Heap), YP w h → h.Ns mainGlobals mg → mg d.name = some (.ref fa) → ∃ (K : PySem.W.Frag) (fd : FuncData) (sp : Sp), K.In h ∧ (∀ (s : Shared) (u : Value), BindsTo s fd ⟨[u], []⟩ [(x, u)]) ∧
        (∀ (H : Hp) (a : Addr) (ns : List Int), ns.length ≤ n → (∀ z ∈ ns, Builtin.Int.intBits z ≤ 1048576) → Only H → SqL K H a (ns.map V.int) → sp [.ref a] H (fun v _ => v = .bl true) fun _ _ _ => False) ∧
        ∀ base : Heap, K.In base → base.Ns mainGlobals mg → FnOk l.prog w K mg base (L2.CX l.prog w) k fa fd [x] sp) :
    PySem.W.WalkO q loose XP YP l.row.toRowW d [] (fun f vs => PySem.call f vs) := by
  refine Att.attach_callB hn hdf fun w s₀ s₁ mg mb fa o pm cd doc a vs ns G Y ho hd hcd hmg hobj hints hlen hbits hg => ?_
  obtain ⟨K, fd, sp, KX, hb, hsp, hF⟩ := F w mg fa _ Y G.T.g hmg
  exact law_call KX G.T.g G.T.b G.T.builtins G.T.nolimit hg hobj hints (Nat.le_trans hlen hn2) hr hF hb (fun H hO hS => hsp H a ns hlen hbits hO hS) fun H e s' ⟨_, _, _, _, _, _, _, _, _, _, _, _, z⟩ => z.elim
theorem law_sp {K : PySem.W.Frag} {H : Hp} {a : Addr} {ns : List Int} (hl : ns.length ≤ 63) (o : Only H) (h : SqL K H a (ns.map V.int)) : upSp K sp_law [.ref a] H (fun v _ => v = .bl true) fun _ _ _ => False := by
  refine ⟨[.flst (nI ns)], fun _ => none, fun _ _ _ => False, fun d _ => d = .bl true, ?_, ?_, ?_, ?_, ?_⟩
  · exact Dens.mk (Den.flst.mpr ⟨a, _, rfl, script_fl o h, Dens.ints.mpr rfl⟩) (Dens.nil.mpr rfl)
  · intro b w z
    cases z
  · exact ⟨ns, rfl, by omega, fun _ => rfl⟩
  · intro d μ' v H' e _ dv _
    rw [e] at dv
    exact Den.bl.mp dv
  · intro _ _ _ _ _ _ z
    exact z.elim
end Sw
open PySem PySem.W PySem.Calls PyProof.Rows
theorem PySem.Challenge.cw_swaprow_k53_whole_rings_decided_holds : PySem.Challenge.rw_swaprow_k53_whole_rings_decided.Holds := by
  w_on; o_law
  refine HandSHeadRun.head_any (r := OpenLaw.row PySem.Challenge.rw_swaprow_k53_whole_rings_decided) (q := view (OpenLaw.row PySem.Challenge.rw_swaprow_k53_whole_rings_decided).prog [Sw.lawIx]) (H := Sw.hk) (ob := Sw.ob) (M := 4000) (loose := Sw.looseD) (d := HandSHeadRun.topDef (OpenLaw.row PySem.Challenge.rw_swaprow_k53_whole_rings_decided).prog Sw.lawIx) (kwd := []) Sw.ob_eq
    (by kernel_rfl) (fun s => by kernel_rfl) Sw.run (by kernel_rfl) (by kernel_rfl) (by kernel_rfl) (by rfl) (by first | assumption | decide +kernel) (by decide +kernel) ⟨rfl, rfl, rfl, rfl, rfl, by decide +kernel⟩ ?hw ?hc
  case hw => w_witness2
  case hc =>
    refine Sw.walkS (l := PySem.Challenge.rw_swaprow_k53_whole_rings_decided) (n := 63) (k := 10) (x := "_law_script") rfl (by decide) (by kernel_rfl) ⟨rfl, by decide, by decide⟩ ?F
    intro w mg fa h Y G hmg0
    obtain ⟨K, KX, c⟩ := Y
    have hmg : mg ("law" : PySem.Str) = some (.ref fa) := by
      have e : (HandSHeadRun.topDef (OpenLaw.row PySem.Challenge.rw_swaprow_k53_whole_rings_decided).prog Sw.lawIx).name = ("law" : PySem.Str) := by kernel_rfl
      rw [← e]
      exact hmg0
    have Fx := Sw.facts KX G c
    obtain ⟨fd, FD⟩ := c.def_ 42 (d := Sw.d_law) rfl
    have e := hmg.symm.trans (He.glo_ok KX G (c.fact 39 (f := .glo "law") rfl))
    cases e
    have b := L2.FunD.bindsA (ps := ["_law_script"]) FD fun _ _ _ _ _ _ us hl => match us, hl with | [_], _ => rfl
    exact ⟨K, fd, DL.upSp K Sw.sp_law, KX, fun s v => b s [v] rfl, fun H a ns hl _ hO hS => Sw.law_sp hl hO hS, fun base _ _ => Sw.ok_law Fx FD⟩
