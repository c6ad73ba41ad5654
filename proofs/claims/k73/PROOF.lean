import PyProof.Rows.All
import Wide.All
import OpenK.AllK
import Wide.FinOn
import HandS.ForMost
import HandS.IsInst
import HandS.Zip
import HandS.Rev
import HandS.RevRange
import HandS.Flow
import HandS.Style
import HandS.SortInts
import HandS.CallLocal
import HandS.TupMul
import HandS.Strs
import HandS.SetFor
import HandS.Conv
import HandS.Exc
import HandS.TryMany
import HandS.ExcOwn
import KE.KRevSl
import KE.GoesZip
import KE.GoesEnum
import KE.GoesMore
import HandS.Lambda
import HandS.RaiseMore
import HandS.Steps
import HandS.Words
import HandS.ExcCtx
import HandS.HotCalls
import HandS.ExcIs
import HandS.ExcField
import HandS.Remove
import HandS.EndTab
import KE.KNestM
import PySem.Challenge.RW_leaguesettled_k73_whole_errors_of_orders
set_option Elab.async false
set_option linter.all false
set_option maxRecDepth 100000
/-! Fx0: rules for tuples that are told whole (their object is known, without a dict of its own). -/
namespace Fx0
open PySem PySem.Spec PyProof.Rows L2
/-- a new tuple, told whole -/
def rNewT (H : Hp) (xs : List V) (Q : VK) : Prop := ∀ p o, H p = none → o.dict = none → Q (.ref p) (upd H p (.frz o (.tup xs)))
section
variable {X : Cx} {e a : Expr} {es : List Expr} {te ta : TE} {t : TA} {pos : Pos}
theorem new_frz {P : Program} {w : World} {H : Hp} {s : Shared} {us : List Value} {xs : List V} {h : Heap} {a : Addr} (z : xs.length ≤ sizeLine) (r : Vals xs us) (e : h.get? a = some { cls := .type "tuple", data := .seq us.toArray }) :
    ObjOk P w H h a (.frz { cls := .type "tuple", data := .seq us.toArray } (.tup xs)) := ⟨e, z, us, r, ⟨_, e, rfl, _, rfl⟩⟩
theorem pe_tupF {x1} (h : PA X es t) : PE X (.Tuple es x1 pos) (fun σ H Q => t σ H fun xs H1 => xs.length ≤ sizeLine ∧ rNewT H1 xs Q) := by
  refine ⟨fun pins s σ H Q I hq => ?_⟩
  refine wpAny_Tuple_spliced (thn (h.run pos pins s σ H _ I hq) fun us s1 ⟨xs, H1, I1, r, z, q⟩ => ⟨by rw [← r.length]; exact z, ?_⟩)
  have hf : H1 s1.heap.objs.size = none := I1.hok.fresh (Nat.le_refl _)
  exact ⟨.ref s1.heap.objs.size, _, I1.laid (t' := s1.toks) (fun b u e => Heap.get?_push_of_some _ e) (Nat.le_refl _) (new_frz (s := s1) z r (Heap.get?_push_size _ rfl)), rfl, q _ _ hf rfl⟩
theorem call_tupF : CallR X (.type "tuple") (fun xs H Q => ∃ p ys, xs = [.ref p] ∧ ((SqL X.K H p ys ∧ rNewT H ys Q) ∨ (SqT X.K H p ys ∧ Q (.ref p) H))) := by
  intro pins s σ H xs us Q I r h
  obtain ⟨p, ys, rfl, h⟩ := h
  obtain ⟨u, rfl, rx⟩ := vals1 r
  cases rx
  rcases h with ⟨hq, q⟩ | ⟨hq, q⟩
  · obtain ⟨its, r', pl, hz⟩ := I.list hq
    have hlen := r'.length
    refine call_tuple_list pl.isList (fun h' kp => ?_) (by simp only [List.size_toArray] <;> omega)
    have I1 : Inv X pins σ H { s with heap := h' } := I.kept (t' := s.toks) kp
    exact ⟨.ref h'.objs.size, _, I1.laid (t' := s.toks) (fun b o e => Heap.get?_push_of_some _ e) (Nat.le_refl _) (new_frz (s := s) hz r' (Heap.get?_push_size _ rfl)), rfl, q _ _ (I1.hok.fresh (Nat.le_refl _)) rfl⟩
  · obtain ⟨its, r', pl, hz⟩ := I.tuple hq
    exact call_tuple_same pl ⟨.ref p, H, I, rfl, q⟩
/-- t[lo:hi], the whole of it: t itself -/
theorem getItem_tuple_all {prog : Program} {w : World} {A : Around} {E : Value → Shared → Prop} {s : Shared} {t sl : Addr} {items : Array Value} {vl vu : Value} {lo hi : Option Int} {Q : Value → Shared → Prop} (ht : IsTup s.heap t items) (hs : s.heap.IsSliceOf sl vl vu .none) (pl : IsPart vl lo) (pu : IsPart vu hi)
    (hw : HT.sIx items.size 0 lo = 0 ∧ HT.sIx items.size items.size hi = items.size)
    (h : Q (.ref t) s) : wpAny (model prog w) A (getItem (.ref t) (.ref sl)) Q E s := by
  obtain ⟨os, hos, hcs, hds⟩ := id hs
  have hTs : s.TypeIs (.ref sl) "slice" := ⟨os, hos, hcs⟩
  unfold getItem
  try with_reducible refine wpAny_holding ?_
  first | refine wpAny_bind (wpAny_pure ?_) | skip
  refine wpAny_bind (wpAny_sequenceKey ht.typeIs (by decide) ?_)
  refine wpAny_bind (wpAny_callSpecial?_slot (name := Str.ofString "__getitem__") ht.typeIs PyProof.Rows.slot_tuple_getitem
    (wpAny_call_entry PyProof.Rows.slot_tuple_getitem ht.typeIs entry_tuple_getitem ?_ (args_tuple_getitem _ _)))
  show wpAny _ _ (Builtin.Tuple.tupleItemsOf (.ref t) >>= _) _ _ s
  refine wpAny_bind (tupleItemsOf_ ht ?_)
  refine wpAny_bind (wpAny_typeOf hTs ?_)
  rw [if_pos (by decide)]
  refine wpAny_bind (HT.sliceApplied_gen hs pl pu ?_)
  have hyes : ((((HT.sIx items.size 0 lo : Nat) : Int) == 0 && (1 : Int) == 1 && (HT.sIx items.size items.size hi - HT.sIx items.size 0 lo) == items.size) = true) := by
    rw [hw.1, hw.2]; simp
  show wpAny _ _ (if (((HT.sIx items.size 0 lo : Nat) : Int) == 0 && (1 : Int) == 1 && (HT.sIx items.size items.size hi - HT.sIx items.size 0 lo) == items.size) = true then _ else _) _ _ s
  rw [if_pos hyes]
  unfold Builtin.Tuple.tupleIsExact
  refine wpAny_bind (wpAny_bind (wpAny_typeOf ht.typeIs (wpAny_pure ?_)))
  rw [if_pos (by decide)]
  refine wpAny_bind (wpAny_rule (wpAny_bind (wpAny_pure ?_)))
  exact wpAny_pure ⟨_, rfl, wpAny_pure h⟩
theorem sl_tupF : SlR X (fun x lo hi H Q => ∃ a xs, x = .ref a ∧ SqT X.K H a xs ∧ (HT.sIx xs.length 0 lo = 0 ∧ HT.sIx xs.length xs.length hi = xs.length → Q (.ref a) H) ∧
    (¬ (HT.sIx xs.length 0 lo = 0 ∧ HT.sIx xs.length xs.length hi = xs.length) → rNewT H (cutV xs lo hi) Q)) := by
  intro pins s σ H x v vl vu lo hi sl Q I rx hs pl pu h
  obtain ⟨a, xs, rfl, hx, q1, q2⟩ := h
  cases rx
  obtain ⟨its, r, ht, hz⟩ := I.tuple hx
  have hlen : its.toArray.size = xs.length := by rw [List.size_toArray]; exact r.length.symm
  refine ⟨"tuple", _, PyProof.Rows.slot_tuple_getitem.lookup, ht.typeIs, ?_⟩
  by_cases hw : HT.sIx xs.length 0 lo = 0 ∧ HT.sIx xs.length xs.length hi = xs.length
  · exact getItem_tuple_all ht hs pl pu (by rw [hlen]; exact hw) ⟨.ref a, H, I, rfl, q1 hw⟩
  · refine HT.getItem_tuple_cut ht hs pl pu (by rw [hlen]; exact hw) ?_ (by rw [hlen]; exact hz)
    rw [hlen]
    exact ⟨.ref s.heap.objs.size, _, I.laid (t' := s.toks) (fun b ob q => Heap.get?_push_of_some _ q) (Nat.le_refl _) (new_frz (s := s) (Nat.le_trans (cutV_length xs lo hi) hz) ((r.drop (HT.sIx xs.length 0 lo)).take (HT.sIx xs.length xs.length hi - HT.sIx xs.length 0 lo)) (Heap.get?_push_size _ rfl)), rfl, q2 hw _ _ (I.hok.fresh (Nat.le_refl _)) rfl⟩
/-- t + u -/
theorem cat_tup0 {prog : Program} {w : World} {A : Around} {E : Value → Shared → Prop} {s : Shared} {t b : Addr} {ws : List Value} {Q : Value → Shared → Prop} (ht : IsTup s.heap t #[]) (hb : IsTup s.heap b ws.toArray)
    (h1 : Q (.ref b) s) : wpAny (model prog w) A (binaryOp .Add (.ref t) (.ref b)) Q E s := by
  obtain ⟨⟨cls, dd, data, sl⟩, ho, hc, n, hd⟩ := id ht
  obtain ⟨⟨cls2, dd2, data2, sl2⟩, ho2, hc2, n2, hd2⟩ := id hb
  simp only at hc hd hc2 hd2
  subst hc hd hc2 hd2
  exact concat_meets ⟨_, ho, rfl⟩ ⟨_, ho2, rfl⟩ noFill_tuple_add seq_tuple_add PySem.F.slot_tuple_add PySem.F.entry_tuple_add (PySem.F.args_tuple_add_2 _ _)
      (tuple_addW0 t b #[] ws.toArray n n2 dd dd2 sl sl2 rfl) ⟨ho, ho2, h1⟩
theorem op_catF : OpR X (binaryOp .Add) (fun x y H Q => ∃ a b xs ys, x = .ref a ∧ y = .ref b ∧ SqT X.K H a xs ∧ SqT X.K H b ys ∧ xs.length + ys.length ≤ sizeLine ∧
    (xs = [] → Q (.ref b) H) ∧ (xs ≠ [] → ys = [] → Q (.ref a) H) ∧ (xs ≠ [] → ys ≠ [] → rNewT H (xs ++ ys) Q)) := by
  intro pins s σ H x y v u Q I rx ry h
  obtain ⟨a, b, xs, ys, rfl, rfl, ha, hb, hz, q0, q1, q2⟩ := h
  cases rx
  cases ry
  obtain ⟨its, r1, p1, _⟩ := I.tuple ha
  obtain ⟨its2, r2, p2, _⟩ := I.tuple hb
  by_cases hx : xs = []
  · subst hx
    cases r1
    exact cat_tup0 p1 p2 ⟨.ref b, H, I, rfl, q0 rfl⟩
  · refine HT.cat_tup p1 p2 (fun z => hx (r1.nil_iff.mp z)) (fun z => ⟨.ref a, H, I, rfl, q1 hx (r2.nil_iff.mp z)⟩) (fun z => ?_) (by rw [← r1.length, ← r2.length]; exact hz)
    exact ⟨.ref s.heap.objs.size, _, I.laid (t' := s.toks) (fun b ob q => Heap.get?_push_of_some _ q) (Nat.le_refl _) (new_frz (s := s) (by rw [List.length_append]; exact hz) (r1.append r2) (Heap.get?_push_size _ rfl)), rfl, q2 hx (fun w => z (r2.nil_iff.mpr w)) _ _ (I.hok.fresh (Nat.le_refl _)) rfl⟩
/-- t * k -/
theorem tuple_mul1W (l : Addr) (items : Array Value) (n : Nat) (dd : Option Addr) (sl : Array (Option Value)) (u : Tok) :
    Meets (Builtin.«tuple.__mul__» ⟨[.ref l, .int 1 u], []⟩) (fun _ R s => s.heap.get? l = some { cls := .type "tuple", dict := dd, data := .seq items n, slots := sl } ∧ R (.ok (.ret (Value.ref l))) s) :=
  .of_wp fun prog w A R s h => by
    obtain ⟨hp, g, d, tk, os⟩ := s
    obtain ⟨hl, h⟩ := h
    have f1 := AutoSeq1.idx_int
    have c1 : (items.isEmpty || (1 : Int) == 1) = true := by simp
    wp_walk using AutoSeq1.wpAny_loadPart' hl
    repeat (first
      | (refine wpAny_ite_true (decide_eq_true c1) ?_; wp_walk using AutoSeq1.wpAny_loadPart' hl)
      | (refine wpAny_ite_true c1 ?_; wp_walk using AutoSeq1.wpAny_loadPart' hl))
    exact ⟨_, rfl, h⟩
theorem op_repF : OpR X (binaryOp .Mult) (fun x y H Q => ∃ l k xs, x = .ref l ∧ y = .int k ∧ SqT X.K H l xs ∧ ((k = 1 ∧ Q (.ref l) H) ∨ (xs ≠ [] ∧ 2 ≤ k ∧ k ≤ 1000 ∧ xs.length ≤ 1000 ∧ rNewT H (List.replicate k.toNat xs).flatten Q))) := by
  intro pins s σ H x y v u Q I rx ry h
  obtain ⟨l, k, xs, rfl, rfl, hT, h⟩ := h
  cases rx
  obtain ⟨t, rfl⟩ := ry
  obtain ⟨its, r, ⟨⟨cls, dd, data, sl⟩, ho, hc, n, hd⟩, hs⟩ := I.tuple hT
  simp only at hc hd
  subst hc hd
  have hle : its.length = xs.length := r.length.symm
  rcases h with ⟨rfl, q⟩ | ⟨hne, h1, h2, hz, q⟩
  · exact wpAny_binaryOp_repeat_ref (T := "tuple") (U := "int") (by decide) ⟨_, ho, rfl⟩ (fun s' => typeIs_int s' 1 t) noFill_tuple_mul F.fills_int_mul F.slot_int_rmul repeat_tuple F.slot_int_index.lookup
      (call_meets F.slot_int_rmul (typeIs_int s 1 t) F.entry_int_rmul (F.args_int_rmul_2 _ _) (int_rmul_tuple 1 t l its.toArray n dd sl)
        ⟨ho, rfl, ⟨_, ho, rfl⟩, call_meets F.slot_tuple_mul ⟨_, ho, rfl⟩ F.entry_tuple_mul (F.args_tuple_mul_2 _ _) (tuple_mul1W l its.toArray n dd sl t) ⟨ho, ⟨.ref l, H, I, rfl, q⟩⟩⟩)
  have hn : its ≠ [] := fun e => hne (by
    rw [e] at hle
    exact List.length_eq_zero_iff.mp hle.symm)
  have hi : its.toArray.isEmpty = false := by
    cases its with
    | nil => exact absurd rfl hn
    | cons a b => rfl
  have hsz0 : its.toArray.size = xs.length := by rw [List.size_toArray, hle]
  have hm : ((its.toArray.size : Nat) : Int) * k ≤ 1000000 := by
    rw [hsz0]
    have a1 : ((xs.length : Nat) : Int) * k ≤ 1000 * k := Int.mul_le_mul_of_nonneg_right (by omega) (by omega)
    omega
  have flen : (List.replicate k.toNat its).flatten.length ≤ sizeLine := by
    rw [PyProof.Rows.lm_len_rep_flat, hle, sizeLine_eq]
    have a1 : k.toNat * xs.length ≤ 1000 * 1000 := Nat.mul_le_mul (by omega) hz
    omega
  have c0 : (decide (k < -(2 ^ 63)) || decide (k ≥ 2 ^ 63)) = false := by
    rw [decide_eq_false (by omega), decide_eq_false (by omega)] <;> rfl
  have c1 : (its.toArray.isEmpty || k == 1) = false := by
    rw [hi, Bool.false_or]
    exact beq_eq_false_iff_ne.mpr (by omega)
  have c2 : (decide (k ≤ 0) || its.toArray.isEmpty) = false := by
    rw [hi, Bool.or_false]
    exact decide_eq_false (by omega)
  have c4 : Builtin.Tuple.tupleTooMany (((its.toArray.size : Nat) : Int) * k) = false := by
    unfold Builtin.Tuple.tupleTooMany
    rw [sizeLine_eq]
    exact decide_eq_false (by omega)
  refine wpAny_binaryOp_repeat_ref (T := "tuple") (U := "int") (by decide) ⟨_, ho, rfl⟩ (fun s' => typeIs_int s' k t) noFill_tuple_mul F.fills_int_mul F.slot_int_rmul repeat_tuple F.slot_int_index.lookup
    (call_meets F.slot_int_rmul (typeIs_int s k t) F.entry_int_rmul (F.args_int_rmul_2 _ _) (int_rmul_tuple k t l its.toArray n dd sl)
      ⟨ho, rfl, ⟨_, ho, rfl⟩, call_meets F.slot_tuple_mul ⟨_, ho, rfl⟩ F.entry_tuple_mul (F.args_tuple_mul_2 _ _) (tuple_mulW l its.toArray n dd sl k t c0 c1 c2 (by omega) c4 (by rw [size_rep, List.size_toArray]; exact flen)) ⟨ho, ?_⟩⟩)
  rw [size_rep]
  exact ⟨.ref s.heap.objs.size, _, I.laid (t' := s.toks) (fun b ob q => Heap.get?_push_of_some _ q) (Nat.le_refl _) (new_frz (s := s) (by rw [PyProof.Rows.lm_len_rep_flat, sizeLine_eq]; have a1 : k.toNat * xs.length ≤ 1000 * 1000 := Nat.mul_le_mul (by omega) hz; omega) (r.rep k.toNat) (Heap.get?_push_size _ rfl)), rfl, q _ _ (I.hok.fresh (Nat.le_refl _)) rfl⟩
/-- tuple(range(..)) -/
theorem pe_tupRgF {te : L2.St → Hp → (Int → Int → Hp → Prop) → Prop} {p pos : Pos} (hc : X.calm = true) (hg : Gl X "tuple") (hm : X.mg "tuple" = none) (he : PRg X e te) (na : starEach [e] X.env = (false, eval e X.env) :: starEach [] X.env) :
    PE X (.Call (.Name "tuple" p) [e] [] pos) (fun σ H Q => te σ H fun a b H1 => RgOk a b ∧ rNewT H1 (rgV a b) Q) := by
  refine ⟨fun pins s σ H Q I h => ?_⟩
  refine Call_ (ld_blt I hg hm boot_tuple (PyProof.Rows.callWith_type1 (args_cons (thn (he pins s σ H _ I h) fun x s1 ⟨r, a, b, t, u, v, H1, ex, hr, I1, ok, q⟩ => args_nil ?_) na) na))
  subst ex
  obtain ⟨b1, b2, b3, b4, b5⟩ := ok
  refine call_tuple_range (n := (b - a).toNat) (I1.ok.hd hc) hr (small_one b1 b2 b3 b4) (rangeSize_nat a b) b5 fun h' tk acc hk hi => ?_
  have I2 : Inv X pins σ H1 { s1 with heap := h', toks := tk } := I1.kept hk
  have e2 : (h'.push { cls := .type "tuple", data := .seq acc }).get? h'.objs.size = some { cls := .type "tuple", data := .seq acc.toList.toArray } := by rw [Array.toArray_toList]; exact Heap.get?_push_size _ rfl
  exact ⟨.ref h'.objs.size, _, I2.laid (t' := tk) (fun c o e => Heap.get?_push_of_some _ e) (Nat.le_refl _) (new_frz (s := s) (by rw [rgV_length, sizeLine_eq]; omega) (vals_rg hi) e2), rfl, q _ _ (I2.hok.fresh (Nat.le_refl _)) rfl⟩
/-! ### methods of tuples -/
def TupO (H : Hp) (x : V) (xs : List V) : Prop := ∃ p o, x = .ref p ∧ H p = some (.frz o (.tup xs)) ∧ o.dict = none
theorem tupO_is {pins : List (Addr × Obj)} {σ : L2.St} {H : Hp} {s : Shared} {x : V} {xs : List V} {v : Value} (I : Inv X pins σ H s) (r : RelV x v) (ty : TupO H x xs) :
    s.TypeIs v "tuple" ∧ ∀ a, v = .ref a → ∃ ob, s.heap.get? a = some ob ∧ ob.dict = none := by
  obtain ⟨p, o, rfl, h, hd⟩ := ty
  cases r
  obtain ⟨e, z, its, r, pl⟩ := I.hok p _ h
  refine ⟨pl.typeIs, fun a q => ?_⟩
  cases q
  exact ⟨o, e, hd⟩
variable {o : Expr} {to : TE} {name : Str} {apos cpos : Pos} {T id : String} {r : V → List V → Hp → VK → Prop}
theorem pe_bmF (pa : PlainAttrs "tuple") (slot : Slot "tuple" name id) (hty : typeOf (.builtin id) = pure (.type "method_descriptor")) (hm : MtR X id r) (ho : PE X o to) (ha : PA X (e :: es) t)
    (hbase : attributeBase o name X.env (eval o X.env) = eval o X.env)
    (hfew : ((backTo cpos (starEach (e :: es) X.env)).all (fun x => !x.1) && (backToKw cpos (keywordEach [] X.env)).all (fun x => x.1.isSome)
      && decide ((e :: es).length + ([] : List Keyword).length + (if ([] : List Keyword).isEmpty then 0 else 1) < 30)) = true)
    (hline : (apos.endLine == cpos.line) = true) (hs : starEach (e :: es) X.env = (false, eval e X.env) :: starEach es X.env) (hplain : (backTo cpos (starEach es X.env)).any (·.1) = false) :
    PE X (.Call (.Attribute o name apos) (e :: es) [] cpos) (fun σ H Q => to σ H fun x H1 => (∃ xs, TupO H1 x xs) ∧ t σ H1 fun xs H2 => r x xs H2 Q) := by
  refine ⟨fun pins s σ H Q I h => ?_⟩
  refine wpAny_Call_method_late hbase hfew hline rfl (thn (ho.run pins s σ H _ I h) fun v s1 ⟨x, H1, I1, r1, ⟨xs, ty⟩, q1⟩ => ?_)
  obtain ⟨h1, h2⟩ := tupO_is I1 r1 ty
  refine ⟨"tuple", id, pa, slot, hty, h1, h2, ?_⟩
  have hA := ha.run cpos pins s1 σ H1 _ I1 q1
  rw [hs] at hA ⊢
  refine Calls.callWith_builtin (by show (false || (backTo cpos (starEach es X.env)).any (·.1)) = false; rw [hplain] <;> rfl) (Calls.evalArgs_plain ?_)
  exact thn hA fun us s2 ⟨vs, H2, I2, r2, q2⟩ => hm pins s2 σ H2 x vs v us Q I2 r1 r2 q2
/-- t.index(x), x and all items flat -/
def rIndexT (K : PySem.W.Frag) : V → List V → Hp → VK → Prop := fun x xs H Q => ∃ (a : Addr) (ys : List V) (y : V) (j : Nat) (z : V), x = V.ref a ∧ xs = [y] ∧ SqT K H a ys ∧ flatV y = true ∧ ys.all flatV = true ∧ ys[j]? = some z ∧ eqV z y = true ∧
  (∀ (m : Nat) (z' : V), m < j → ys[m]? = some z' → eqV z' y = false) ∧ Q (.int (j : Nat)) H
theorem mt_indexT : MtR X "tuple.index" (rIndexT X.K) := by
  intro pins s σ H x xs v us Q I rx rxs h
  obtain ⟨a, ys, y, j, z, rfl, rfl, hs, fy, fys, hz, hzj, hno, q⟩ := h
  cases rx
  cases rxs with
  | cons ry rt =>
    rename_i uy ut
    cases rt
    obtain ⟨its, rv, ⟨⟨cls, dd, data, sl⟩, ho, hc, n, hd⟩, hlen⟩ := I.tuple hs
    simp only at hc hd
    subst hc hd
    obtain ⟨u, hu, ru⟩ := rv.get hz
    obtain ⟨hjl, hje⟩ := List.getElem?_eq_some_iff.mp hu
    have hvl := rv.length
    have hj : j < its.toArray.size := by simpa using hjl
    refine call_meets PySem.F.slot_tuple_index ⟨_, ho, rfl⟩ PySem.F.entry_tuple_index (PySem.F.args_tuple_index_2 _ _)
      (TI.tuple_indexAt a its.toArray n dd sl uy (eqU y) j hj ?_ ?_) ⟨ho, fun u' hu' => mem_eqAt ry fy rv fys u' (by simpa using hu'), ?_⟩
    · have e1 : its.toArray[j] = u := by simpa using hje
      rw [e1, eqU_of ru (flat_at fys hz)]
      exact hzj
    · intro m hm hmj
      have hml : m < its.length := by simpa using hm
      have hmy : m < ys.length := by omega
      have hy' : ys[m]? = some ys[m] := List.getElem?_eq_getElem hmy
      obtain ⟨u2, hu2, ru2⟩ := rv.get hy'
      obtain ⟨_, hme⟩ := List.getElem?_eq_some_iff.mp hu2
      have e1 : its.toArray[m] = u2 := by simpa using hme
      rw [e1, eqU_of ru2 (flat_at fys hy')]
      exact hno m _ hmj hy'
    · exact ⟨.int (j : Nat), H, I.tok _, ⟨_, rfl⟩, q⟩
theorem count_eqU {x : V} : ∀ {xs : List V} {us : List Value}, Vals xs us → xs.all flatV = true → us.countP (eqU x) = xs.countP fun y => eqV y x
  | _, _, .nil, _ => rfl
  | _, _, .cons (a := y) r t, f => by
    rw [List.all_cons, Bool.and_eq_true] at f
    rw [List.countP_cons, List.countP_cons, count_eqU t f.2, eqU_of r f.1]
/-- t.count(x), xs.count(x) -/
theorem mt_countT : MtR X "tuple.count" (fun x xs H Q => ∃ (a : Addr) (ys : List V) (y : V), x = V.ref a ∧ xs = [y] ∧ SqT X.K H a ys ∧ flatV y = true ∧ ys.all flatV = true ∧ Q (.int ((ys.countP fun z => eqV z y : Nat) : Int)) H) := by
  intro pins s σ H x xs v us Q I rx rxs h
  obtain ⟨a, ys, y, rfl, rfl, hs, fy, fys, q⟩ := h
  cases rx
  obtain ⟨uy, rfl, ry⟩ := rxs.one
  obtain ⟨its, rv, ⟨⟨cls, dd, data, sl⟩, ho, hc, n, hd⟩, hlen⟩ := I.tuple hs
  simp only at hc hd
  subst hc hd
  refine call_meets PySem.F.slot_tuple_count ⟨_, ho, rfl⟩ PySem.F.entry_tuple_count (PySem.F.args_tuple_count_2 _ _)
    (SeqAt.tuple_countAt a its.toArray n dd sl uy (eqU y)) ⟨ho, fun u' hu' => mem_eqAt ry fy rv fys u' (by simpa using hu'), ?_⟩
  have e : its.toArray.toList.countP (eqU y) = ys.countP fun z => eqV z y := count_eqU rv fys
  exact ⟨.int ((ys.countP fun z => eqV z y : Nat) : Int), H, I.tok _, ⟨s.toks, by rw [e]⟩, q⟩
theorem mt_countL : MtR X "list.count" (fun x xs H Q => ∃ (a : Addr) (ys : List V) (y : V), x = V.ref a ∧ xs = [y] ∧ SqL X.K H a ys ∧ flatV y = true ∧ ys.all flatV = true ∧ Q (.int ((ys.countP fun z => eqV z y : Nat) : Int)) H) := by
  intro pins s σ H x xs v us Q I rx rxs h
  obtain ⟨a, ys, y, rfl, rfl, hs, fy, fys, q⟩ := h
  cases rx
  obtain ⟨uy, rfl, ry⟩ := rxs.one
  obtain ⟨its, rv, ⟨⟨cls, dd, data, sl⟩, n, ho, hc, hdn, hd⟩, hlen⟩ := I.list hs
  simp only at hc hd
  subst hc hd
  refine call_meets PySem.F.slot_list_count ⟨_, ho, rfl⟩ PySem.F.entry_list_count (PySem.F.args_list_count_2 _ _)
    (SeqAt.list_countAt a its.toArray n dd sl uy (eqU y)) ⟨ho, fun u' hu' => mem_eqAt ry fy rv fys u' (by simpa using hu'), ?_⟩
  have e : its.toArray.toList.countP (eqU y) = ys.countP fun z => eqV z y := count_eqU rv fys
  exact ⟨.int ((ys.countP fun z => eqV z y : Nat) : Int), H, I.tok _, ⟨s.toks, by rw [e]⟩, q⟩
end
/-! ### sum, max, min of a tuple -/
section
variable {prog : Program} {w : World} {A : Around} {E : Value → Shared → Prop} {s : Shared} {l : Addr} {its : List Value} {ns : List Int} {Q : Value → Shared → Prop}
theorem iter_tup {items : Array Value} (hl : s.heap.IsTuple l items)
    (h : ∀ s₂ : Shared, s₂ = { s with heap := s.heap.push { cls := .type "tuple_iterator", data := .fields #[.ref l, .int 0 0] } } →
      (s₂.heap.IsTupleIter s.heap.objs.size l 0 ∧ s₂.heap.IsTuple l items) → (∀ b ∈ [s.heap.objs.size, l], b < s₂.heap.objs.size) → l ≠ s.heap.objs.size → Q (.ref s.heap.objs.size) s₂) :
    wpAny (model prog w) A (pyIter (.ref l)) Q E s := by
  have hlt : l < s.heap.objs.size := by obtain ⟨_, e, _⟩ := hl; exact Heap.lt_size e
  refine wpAny_pyIter_tuple hl (h _ rfl ⟨⟨_, Heap.get?_push_size _ rfl, rfl, rfl⟩, hl.at fun o e => Heap.get?_push_of_some _ e⟩ (fun b hb => ?_) (Nat.ne_of_lt hlt))
  show b < (s.heap.push _).objs.size
  rw [Heap.size_push]
  rcases List.mem_cons.mp hb with rfl | hb
  · exact Nat.lt_succ_self _
  · rw [List.mem_singleton.mp hb]; exact Nat.lt_succ_of_lt hlt
theorem kept_tup {h' : Heap} (hk : ∀ b o, b ∉ [s.heap.objs.size] → (s.heap.push { cls := .type "tuple_iterator", data := .fields #[.ref l, .int 0 0] }).get? b = some o → h'.get? b = some o) :
    ∀ b o, s.heap.get? b = some o → h'.get? b = some o := fun b o e => by
  refine hk b o (fun hm => ?_) (Heap.get?_push_of_some _ e)
  rcases List.mem_cons.mp hm with e1 | hm
  · exact absurd (e1 ▸ Heap.lt_size e) (Nat.lt_irrefl _)
  · exact absurd hm (by simp)
theorem sum_tup (hh : A.handled = none) (hl : s.heap.IsTuple l its.toArray) (hi : IntsAre its ns)
    (h : ∀ h' tk t', (∀ b o, s.heap.get? b = some o → h'.get? b = some o) → Q (.int ns.sum t') { s with heap := h', toks := tk }) : wpAny (model prog w) A (call (.builtin "sum") [.ref l]) Q E s := by
  obtain ⟨xs, e⟩ := hi.allInts.items
  have hn : numsOf (intItems xs).toList = ns := by rw [← e]; exact hi.numsOf
  rw [nums_intItems] at hn
  rw [e] at hl
  refine call_sum_walkG (iter_tup hl fun s₂ e2 st hfp hlI => ?_)
  subst e2
  refine ⟨_, _, _, _, _, _, numAt xs, rfl, Walks.tuple (A := A.in1) hh _ l hlI (intItems xs), st, hfp, (fun _ _ => intItems_at), fun h' tk t' hk => ?_⟩
  have := h h' tk t' (kept_tup hk)
  rw [show (intItems xs).size = xs.size by simp [intItems], preSum_eq, List.take_of_length_le (by simp), hn]
  exact this
theorem max_tup (hh : A.handled = none) (hl : s.heap.IsTuple l its.toArray) (hi : IntsAre its ns) (hne : 0 < ns.length)
    (h : ∀ h' tk M t', (∀ b o, s.heap.get? b = some o → h'.get? b = some o) → M ∈ ns → (∀ a, a ∈ ns → a ≤ M) → Q (.int M t') { s with heap := h', toks := tk }) : wpAny (model prog w) A (call (.builtin "max") [.ref l]) Q E s := by
  obtain ⟨xs, e⟩ := hi.allInts.items
  have hn : numsOf (intItems xs).toList = ns := by rw [← e]; exact hi.numsOf
  rw [nums_intItems] at hn
  subst hn
  rw [e] at hl
  have hsz : 0 < xs.size := by simpa using hne
  refine call_max_walk (iter_tup hl fun s₂ e2 st hfp hlI => ?_)
  subst e2
  refine ⟨_, _, _, _, _, _, _, rfl, Walks.tuple (A := A.in1) hh _ l hlI (intItems xs), st, hfp, by simpa [intItems] using hsz, CmpOf.ints_gt (numAt xs) (fun _ _ => intItems_at), fun v h' tk hP hk => ?_⟩
  have hv : (intItems xs)[argBest (fun i j => decide (numAt xs i > numAt xs j)) (xs.size - 1)]? = some v := by simpa [intItems] using hP
  obtain ⟨t, rfl⟩ := intItems_at hv
  obtain ⟨h1, h2⟩ := argBest_gt (numAt xs) (xs.size - 1)
  refine h h' tk _ t (kept_tup hk) ?_ fun a ha => ?_
  · rw [numAt_eq]; exact PySem.getD_mem (by rw [List.length_map, Array.length_toList]; omega)
  · obtain ⟨j, hj, rfl⟩ := mem_getD ha
    rw [List.length_map, Array.length_toList] at hj
    rw [← numAt_eq]; exact h2 j (by omega)
theorem min_tup (hh : A.handled = none) (hl : s.heap.IsTuple l its.toArray) (hi : IntsAre its ns) (hne : 0 < ns.length)
    (h : ∀ h' tk M t', (∀ b o, s.heap.get? b = some o → h'.get? b = some o) → M ∈ ns → (∀ a, a ∈ ns → M ≤ a) → Q (.int M t') { s with heap := h', toks := tk }) : wpAny (model prog w) A (call (.builtin "min") [.ref l]) Q E s := by
  obtain ⟨xs, e⟩ := hi.allInts.items
  have hn : numsOf (intItems xs).toList = ns := by rw [← e]; exact hi.numsOf
  rw [nums_intItems] at hn
  subst hn
  rw [e] at hl
  have hsz : 0 < xs.size := by simpa using hne
  refine call_min_walk (iter_tup hl fun s₂ e2 st hfp hlI => ?_)
  subst e2
  refine ⟨_, _, _, _, _, _, _, rfl, Walks.tuple (A := A.in1) hh _ l hlI (intItems xs), st, hfp, by simpa [intItems] using hsz, CmpOf.ints_lt (numAt xs) (fun _ _ => intItems_at), fun v h' tk hP hk => ?_⟩
  have hv : (intItems xs)[argBest (fun i j => decide (numAt xs i < numAt xs j)) (xs.size - 1)]? = some v := by simpa [intItems] using hP
  obtain ⟨t, rfl⟩ := intItems_at hv
  obtain ⟨h1, h2⟩ := argBest_lt (numAt xs) (xs.size - 1)
  refine h h' tk _ t (kept_tup hk) ?_ fun a ha => ?_
  · rw [numAt_eq]; exact PySem.getD_mem (by rw [List.length_map, Array.length_toList]; omega)
  · obtain ⟨j, hj, rfl⟩ := mem_getD ha
    rw [List.length_map, Array.length_toList] at hj
    rw [← numAt_eq]; exact h2 j (by omega)
end
end Fx0

/-! Fx1: pure values, stores, and the meaning of each construct as a plain function. -/
namespace Fx
open PySem

/-- a flat field of an exception -/
inductive Fl where
  | int (i : Int) | str (x : Str)
inductive PV where
  | err (c : Nat) (fs : List (Str × Fl))
  | non | bl (b : Bool) | int (i : Int) | str (x : Str) | ref (n : Nat) | fn (g : Nat) | scr (ns : List Int)
  | tup (xs : List PV) | lst (xs : List PV) | prs (xs : List PV)
  deriving Inhabited

inductive Cell where
  | lst (xs : List PV)
abbrev Sto := List Cell
structure PX where
  cls : Nat
  fs : Option (List (Str × PV))
inductive R (α : Type) where
  | ok (a : α) (S : Sto) | exc (x : PX) (S : Sto) | no
@[inline] def R.bind {α β : Type} (r : R α) (f : α → Sto → R β) : R β := match r with
  | .ok a S => f a S
  | .exc x S => .exc x S
  | .no => .no
def R.noX {α : Type} (r : R α) : R α := match r with
  | .ok a S => .ok a S
  | .exc _ _ => .no
  | .no => .no
abbrev Env := List (Option PV)
abbrev EF := Env → Sto → R PV
abbrev TF := Env → Sto → R Bool
abbrev AF := Env → Sto → R (List PV)
/-- a value-level function -/
abbrev VF := List PV → Sto → R PV
abbrev VO := List PV → Sto → Option PV
abbrev VM := List PV → Sto → Option (PV × Sto)
inductive F where
  | nx (ρ : Env) (S : Sto) | ret (v : PV) (S : Sto) | exc (x : PX) (ρ : Env) (S : Sto) | no
abbrev SF := Env → Sto → F
abbrev GF := PV → Env → Sto → R Env

/-! ### expressions -/
def cLit (v : PV) : EF := fun _ S => .ok v S
def cVar (i : Nat) : EF := fun ρ S => match ρ[i]? with
  | some (some v) => .ok v S
  | _ => .no
def aNil : AF := fun _ S => .ok [] S
def aCons (f : EF) (g : AF) : AF := fun ρ S => (f ρ S).bind fun x S1 => (g ρ S1).bind fun xs S2 => .ok (x :: xs) S2
def lenOk (n : Nat) : Bool := Nat.ble n 16777216
def cTup (a : AF) : EF := fun ρ S => (a ρ S).bind fun xs S1 => if lenOk xs.length then .ok (.tup xs) S1 else .no
def cLst (a : AF) : EF := fun ρ S => (a ρ S).bind fun xs S1 => if lenOk xs.length then .ok (.lst xs) S1 else .no
/-- a new list becomes a cell -/
def cMu (f : EF) : EF := fun ρ S => (f ρ S).bind fun x S1 => match x with
  | .lst xs => .ok (.ref S1.length) (S1 ++ [.lst xs])
  | _ => .no
def cCall (g : VF) (a : AF) : EF := fun ρ S => (a ρ S).bind g
def op2 (g : PV → PV → Sto → Option PV) : VO := fun vs S => match vs with
  | [x, y] => g x y S
  | _ => none
def op2m (g : PV → PV → Sto → Option (PV × Sto)) : VM := fun vs S => match vs with
  | [x, y] => g x y S
  | _ => none
def op1 (g : PV → Sto → Option PV) : VO := fun vs S => match vs with
  | [x] => g x S
  | _ => none
def ofO (o : Option PV) (S : Sto) : R PV := match o with
  | some v => .ok v S
  | none => .no
def ofM (o : Option (PV × Sto)) : R PV := match o with
  | some (v, S) => .ok v S
  | none => .no
def cBi (g : VO) (a : AF) : EF := fun ρ S => (a ρ S).bind fun vs S1 => ofO (g vs S1) S1
def cBin (g : PV → PV → Sto → Option PV) (f h : EF) : EF := fun ρ S => (f ρ S).bind fun x S1 => (h ρ S1).bind fun y S2 => ofO (g x y S2) S2
def cUn (g : PV → Sto → Option PV) (f : EF) : EF := fun ρ S => (f ρ S).bind fun x S1 => ofO (g x S1) S1
def cChain (g g' : PV → PV → Sto → Option PV) (f h k : EF) : EF := fun ρ S => (f ρ S).bind fun x S1 => (h ρ S1).bind fun y S2 => match g x y S2 with
  | some (.bl true) => (k ρ S2).bind fun z S4 => ofO (g' y z S4) S4
  | some (.bl false) => .ok (.bl false) S2
  | _ => .no
/-- a method that reads, one that changes its object -/
def cMeth (kd : PV → Sto → Bool) (g : VO) (f : EF) (a : AF) : EF := fun ρ S => (f ρ S).bind fun x S1 => if kd x S1 then (a ρ S1).bind fun xs S2 => ofO (g (x :: xs) S2) S2 else .no
def cMethM (kd : PV → Sto → Bool) (g : VM) (f : EF) (a : AF) : EF := fun ρ S => (f ρ S).bind fun x S1 => if kd x S1 then (a ρ S1).bind fun xs S2 => ofM (g (x :: xs) S2) else .no
def cAnd (f g : EF) : EF := fun ρ S => (f ρ S).bind fun x S1 => match x with
  | .bl true => g ρ S1
  | .bl false => .ok (.bl false) S1
  | _ => .no
def cOr (f g : EF) : EF := fun ρ S => (f ρ S).bind fun x S1 => match x with
  | .bl true => .ok (.bl true) S1
  | .bl false => g ρ S1
  | _ => .no
def cNot (f : EF) : EF := fun ρ S => (f ρ S).bind fun x S1 => match x with
  | .bl b => .ok (.bl (!b)) S1
  | _ => .no
def cIte (t : TF) (f g : EF) : EF := fun ρ S => (t ρ S).bind fun b S1 => if b then f ρ S1 else g ρ S1
/-! ### tests -/
def tVal (f : EF) : TF := fun ρ S => (f ρ S).bind fun x S1 => match x with
  | .bl b => .ok b S1
  | _ => .no
def tAnd (t u : TF) : TF := fun ρ S => (t ρ S).bind fun b S1 => if b then u ρ S1 else .ok false S1
def tOr (t u : TF) : TF := fun ρ S => (t ρ S).bind fun b S1 => if b then .ok true S1 else u ρ S1
def tNot (t : TF) : TF := fun ρ S => (t ρ S).bind fun b S1 => .ok (!b) S1
def tYes : TF := fun _ S => .ok true S
def truth (x : PV) (S : Sto) : Option Bool := match x with
  | .non => some false
  | .bl b => some b
  | .int i => some (i != 0)
  | .tup xs => some (!xs.isEmpty)
  | .lst xs => some (!xs.isEmpty)
  | .ref n => match S[n]? with
    | some (.lst xs) => some (!xs.isEmpty)
    | none => none
  | _ => none
def tTru (f : EF) : TF := fun ρ S => (f ρ S).bind fun x S1 => match truth x S1 with
  | some b => .ok b S1
  | none => .no
/-! ### targets -/
def gVar (i : Nat) : GF := fun v ρ S => .ok (ρ.set i (some v)) S
def gTupGo : List GF → List PV → Env → Sto → R Env
  | [], [], ρ, S => .ok ρ S
  | g :: gs, x :: xs, ρ, S => (g x ρ S).bind fun ρ1 S1 => gTupGo gs xs ρ1 S1
  | _, _, _, _ => .no
def gTup (gs : List GF) : GF := fun v ρ S => match v with
  | .tup xs => if Nat.beq xs.length gs.length then gTupGo gs xs ρ S else .no
  | .prs xs => if Nat.beq xs.length gs.length then gTupGo gs xs ρ S else .no
  | _ => .no
def gSub (f h : EF) (st : PV → PV → PV → Sto → Option (PV × Sto)) : GF := fun v ρ S => (f ρ S).bind fun o S1 => (h ρ S1).bind fun i S2 => (ofM (st o i v S2)).bind fun _ S3 => .ok ρ S3
/-! ### what is walked -/
inductive Src where
  | items (xs : List PV)
  | gen (n : Sto → Option (List PV))
abbrev IF := Env → Sto → R Src
def wipe (ρ : Env) : List Nat → Env
  | [] => ρ
  | v :: vs => (wipe ρ vs).set v none
def compTurn (g : GF) (t : TF) (e : EF) (ρ : Env) (x : PV) (S : Sto) : R (Option PV) :=
  (g x ρ S).bind fun ρ1 S1 => (t ρ1 S1).bind fun b S2 => if b then (e ρ1 S2).bind fun y S3 => .ok (some y) S3 else .ok none S2
def consO (o : Option PV) (ys : List PV) : List PV := match o with
  | some y => y :: ys
  | none => ys
def compGo (f : PV → Sto → R (Option PV)) : List PV → Sto → R (List PV)
  | [], S => .ok [] S
  | x :: xs, S => (f x S).bind fun o S1 => (compGo f xs S1).bind fun ys S2 => .ok (consO o ys) S2
/-- what a loop reads anew at each turn -/
def genAt (n : Sto → Option (List PV)) (S : Sto) (i : Nat) : Option (Option PV) := match n S with
  | some xs => match xs[i]? with
    | some x => some (some x)
    | none => if Nat.beq i xs.length then some none else none
  | none => none
def cellL (n : Nat) (S : Sto) : Option (List PV) := match S[n]? with
  | some (.lst xs) => some xs
  | none => none
def compCell (f : PV → Sto → R (Option PV)) (n : Sto → Option (List PV)) : Nat → Nat → Sto → R (List PV)
  | 0, _, _ => .no
  | k + 1, i, S => match genAt n S i with
    | some (some x) => (f x S).bind fun o S1 => (compCell f n k (i + 1) S1).bind fun ys S2 => .ok (consO o ys) S2
    | some none => .ok [] S
    | none => .no
def fuel : Nat := 20000000
def compSrc (f : PV → Sto → R (Option PV)) (s : Src) (S : Sto) : R (List PV) := match s with
  | .items xs => compGo f xs S
  | .gen n => compCell f n fuel 0 S
def cComp (own : List Nat) (it : IF) (g : GF) (t : TF) (e : EF) : EF := fun ρ S => (it ρ S).bind fun s S1 =>
  (compSrc (compTurn g t e (wipe ρ own)) s S1).noX.bind fun ys S2 => if lenOk ys.length then .ok (.lst ys) S2 else .no
/-! ### statements -/
def sNil : SF := fun ρ S => .nx ρ S
def F.seq (r : F) (g : SF) : F := match r with
  | .nx ρ S => g ρ S
  | .ret v S => .ret v S
  | .exc x ρ S => .exc x ρ S
  | .no => .no
def sSeq (f g : SF) : SF := fun ρ S => (f ρ S).seq g
def R.st {α : Type} (r : R α) (ρ : Env) (f : α → Sto → F) : F := match r with
  | .ok a S => f a S
  | .exc x S => .exc x ρ S
  | .no => .no
/-- a target raises nothing -/
def R.sg (r : R Env) (f : Env → Sto → F) : F := match r with
  | .ok a S => f a S
  | _ => .no
def sAsg (g : GF) (f : EF) : SF := fun ρ S => (f ρ S).st ρ fun v S1 => (g v ρ S1).sg fun ρ1 S2 => .nx ρ1 S2
def sExpr (f : EF) : SF := fun ρ S => (f ρ S).st ρ fun _ S1 => .nx ρ S1
def sIf (t : TF) (f g : SF) : SF := fun ρ S => (t ρ S).st ρ fun b S1 => if b then f ρ S1 else g ρ S1
def sRet (f : EF) : SF := fun ρ S => (f ρ S).st ρ fun v S1 => .ret v S1
def sRetN : SF := fun _ S => .ret .non S
def sRaise (x : PX) : SF := fun ρ S => .exc x ρ S
def setAll : List Nat → List PV → Env → Option Env
  | [], [], ρ => some ρ
  | i :: is, v :: vs, ρ => setAll is vs (ρ.set i (some v))
  | _, _, _ => none
def sPar (is : List Nat) (a : AF) : SF := fun ρ S => (a ρ S).st ρ fun vs S1 => match setAll is vs ρ with
  | some ρ1 => .nx ρ1 S1
  | none => .no
def forGo (g : GF) (b : SF) : List PV → SF
  | [], ρ, S => .nx ρ S
  | x :: xs, ρ, S => (g x ρ S).sg fun ρ1 S1 => (b ρ1 S1).seq (forGo g b xs)
def forCell (g : GF) (b : SF) (n : Sto → Option (List PV)) : Nat → Nat → SF
  | 0, _, _, _ => .no
  | k + 1, i, ρ, S => match genAt n S i with
    | some (some x) => (g x ρ S).sg fun ρ1 S1 => (b ρ1 S1).seq (forCell g b n k (i + 1))
    | some none => .nx ρ S
    | none => .no
def forSrc (g : GF) (b : SF) (s : Src) : SF := match s with
  | .items xs => forGo g b xs
  | .gen n => forCell g b n fuel 0
def sFor (it : IF) (g : GF) (b : SF) : SF := fun ρ S => (it ρ S).st ρ fun s S1 => forSrc g b s ρ S1
def whileGo (t : TF) (b : SF) : Nat → SF
  | 0, _, _ => .no
  | k + 1, ρ, S => (t ρ S).st ρ fun c S1 => if c then (b ρ S1).seq (whileGo t b k) else .nx ρ S1
def sWhile (t : TF) (b : SF) : SF := whileGo t b fuel
/-! ### a def -/
mutual
def refsBelow (n : Nat) : PV → Bool
  | .ref k => Nat.blt k n
  | .tup xs => allBelow n xs
  | .lst xs => allBelow n xs
  | .prs xs => allBelow n xs
  | _ => true
def allBelow (n : Nat) : List PV → Bool
  | [] => true
  | x :: xs => refsBelow n x && allBelow n xs
end
def cellBelow (n : Nat) : Cell → Bool
  | .lst xs => allBelow n xs
/-- behind a def its own cells are forgotten, where nothing leads to them -/
def fin (n : Nat) (v : PV) (S : Sto) : R PV := if Nat.beq S.length n then .ok v S else if refsBelow n v && (S.take n).all (cellBelow n) then .ok v (S.take n) else .ok v S
def runDef (arity slots : Nat) (b : SF) : VF := fun vs S => if Nat.beq vs.length arity then
  (match b (vs.map some ++ List.replicate (slots - vs.length) none) S with
    | .nx _ S1 => fin S.length .non S1
    | .ret v S1 => fin S.length v S1
    | .exc x _ S1 => .exc x S1
    | .no => .no) else .no

/-! ### operations on values -/
def b2i (b : Bool) : Int := if b then 1 else 0
def listOf (S : Sto) : PV → Option (List PV)
  | .lst xs => some xs
  | .ref n => match S[n]? with
    | some (.lst xs) => some xs
    | none => none
  | _ => none
def seqOf (S : Sto) : PV → Option (List PV)
  | .tup xs => some xs
  | v => listOf S v
def oAdd (x y : PV) (S : Sto) : Option PV := match x, y with
  | .int i, .int j => some (.int (i + j))
  | .int i, .bl b => some (.int (i + b2i b))
  | .tup xs, .tup ys => if lenOk (xs.length + ys.length) then some (.tup (xs ++ ys)) else none
  | .str a, .str b => if lenOk (a.length + b.length) then some (.str (a ++ b)) else none
  | x, y => match listOf S x, listOf S y with
    | some xs, some ys => if lenOk (xs.length + ys.length) then some (.lst (xs ++ ys)) else none
    | _, _ => none
def oSub (x y : PV) (S : Sto) : Option PV := match x, y with
  | .int i, .int j => some (.int (i - j))
  | _, _ => none
def smallI (i : Int) : Bool := decide (-(2 ^ 64) < i) && decide (i < 2 ^ 64)
def oMul (x y : PV) (S : Sto) : Option PV := match x, y with
  | .int i, .int j => if smallI i || smallI j then some (.int (i * j)) else none
  | .tup xs, .int k => if decide (k = 1) then some (.tup xs) else if !xs.isEmpty && decide (2 ≤ k) && decide (k ≤ 1000) && Nat.ble xs.length 1000 then some (.tup (List.replicate k.toNat xs).flatten) else none
  | x, .int k => match listOf S x with
    | some xs => if decide (-(2 ^ 63) ≤ k) && decide (k < 2 ^ 63) && lenOk (xs.length * k.toNat) then some (.lst (List.replicate k.toNat xs).flatten) else none
    | none => none
  | _, _ => none
def oDiv (x y : PV) (S : Sto) : Option PV := match x, y with
  | .int i, .int j => if decide (0 < j) && decide (j < 1073741824) then some (.int (i / j)) else none
  | _, _ => none
def oMod (x y : PV) (S : Sto) : Option PV := match x, y with
  | .int i, .int j => if decide (0 < j) then some (.int (i % j)) else none
  | _, _ => none
def oPow (x y : PV) (S : Sto) : Option PV := match x, y with
  | .int i, .int j => if decide (0 ≤ j) && decide (j ≤ 1000000) && decide (i.natAbs < 2 ^ 64) then some (.int (i ^ j.toNat)) else none
  | _, _ => none
def oNeg (x : PV) (S : Sto) : Option PV := match x with
  | .int i => some (.int (-i))
  | _ => none
mutual
def toD (S : Sto) : PV → Option PyData
  | .non => some .none
  | .bl b => some (.bool b)
  | .int i => some (.int i)
  | .str x => some (.str x)
  | .tup xs => (toDs S xs).map .tuple
  | .lst xs => (toDs S xs).map .list
  | _ => none
def toDs (S : Sto) : List PV → Option (List PyData)
  | [] => some []
  | x :: xs => match toD S x, toDs S xs with
    | some d, some ds => some (d :: ds)
    | _, _ => none
end
def toD1 (S : Sto) : PV → Option PyData
  | .ref n => match S[n]? with
    | some (.lst xs) => (toDs S xs).map .list
    | none => none
  | x => toD S x
def eqD (x y : PV) (S : Sto) : Option Bool := match toD1 S x, toD1 S y with
  | some d, some e => if SeqAt.shaped d && SeqAt.shaped e then some (PyData.eqv d e) else none
  | _, _ => none
def oEq (x y : PV) (S : Sto) : Option PV := match x, y with
  | .int i, .int j => some (.bl (decide (i = j)))
  | x, y => match eqD x y S with
    | some b => some (.bl b)
    | none => none
def oNe (x y : PV) (S : Sto) : Option PV := match x, y with
  | .int i, .int j => some (.bl (!decide (i = j)))
  | x, y => match eqD x y S with
    | some b => some (.bl (!b))
    | none => none
def oCmp (p : Int → Int → Bool) (x y : PV) (S : Sto) : Option PV := match x, y with
  | .int i, .int j => some (.bl (p i j))
  | _, _ => none
def oLt := oCmp fun i j => decide (i < j)
def oLe := oCmp fun i j => decide (i ≤ j)
def oGt := oCmp fun i j => decide (j < i)
def oGe := oCmp fun i j => decide (j ≤ i)
/-- flat values, of which 'in' and index speak -/
def flatP : PV → Bool
  | .non => true | .bl _ => true | .int _ => true | .str _ => true | _ => false
def eqF (y x : PV) : Bool := match y, x with
  | .non, .non => true
  | .bl a, .bl b => a == b
  | .bl a, .int j => decide (b2i a = j)
  | .int i, .bl b => decide (i = b2i b)
  | .int i, .int j => decide (i = j)
  | .str a, .str b => a == b
  | _, _ => false
def oIn (neg : Bool) (x y : PV) (S : Sto) : Option PV := match seqOf S y with
  | some xs => if flatP x && xs.all flatP then some (.bl (if neg then !(xs.any fun y => eqF y x) else xs.any fun y => eqF y x)) else none
  | none => none
def isNon : PV → Bool
  | .non => true | _ => false
/-- is None, is True, is False -/
def oIs (neg : Bool) (x y : PV) (S : Sto) : Option PV := match y with
  | .non => some (.bl (if neg then !isNon x else isNon x))
  | .bl b => match x with
    | .bl c => some (.bl (if neg then !decide (c = b) else decide (c = b)))
    | _ => none
  | _ => none
def ixN (n : Nat) (i : Int) : Option Nat := if 0 ≤ i then (if i < n then some i.toNat else none) else if -(n : Int) ≤ i then some (i + n).toNat else none
def oIdx (x y : PV) (S : Sto) : Option PV := match y with
  | .int i => match seqOf S x with
    | some xs => match (ixN xs.length i).bind fun j => xs[j]? with
      | some v => some v
      | none => none
    | none => none
  | _ => none
def sIx (n d : Nat) : Option Int → Nat
  | none => d
  | some v => if v < 0 then (v + n).toNat else min v.toNat n
def cut (xs : List PV) (lo hi : Option Int) : List PV := (xs.drop (sIx xs.length 0 lo)).take (sIx xs.length xs.length hi - sIx xs.length 0 lo)
def oSlc (x : PV) (lo hi : Option Int) (S : Sto) : Option PV := match x with
  | .tup xs => some (.tup (cut xs lo hi))
  | x => match listOf S x with
    | some xs => some (.lst (cut xs lo hi))
    | none => none
abbrev OF := Env → Sto → R (Option Int)
def pNo : OF := fun _ S => .ok none S
def pSo (f : EF) : OF := fun ρ S => (f ρ S).bind fun x S1 => match x with
  | .int i => .ok (some i) S1
  | _ => .no
def cSlc (f : EF) (lo hi : OF) : EF := fun ρ S => (f ρ S).bind fun x S1 => (lo ρ S1).bind fun a S2 => (hi ρ S2).bind fun b S3 => ofO (oSlc x a b S3) S3
def oRev (x : PV) (S : Sto) : Option PV := match x with
  | .tup xs => some (.tup xs.reverse)
  | x => match listOf S x with
    | some xs => some (.lst xs.reverse)
    | none => none
/-! ### built-in functions -/
def bLen : VO := op1 fun x S => match seqOf S x with
  | some xs => some (.int xs.length)
  | none => match x with
    | .str a => if lenOk a.length then some (.int a.length) else none
    | _ => none
def ints? : List PV → Option (List Int)
  | [] => some []
  | .int i :: xs => (ints? xs).map (i :: ·)
  | _ :: _ => none
def bools? : List PV → Option (List Bool)
  | [] => some []
  | .bl i :: xs => (bools? xs).map (i :: ·)
  | _ :: _ => none
def bSum : VO := op1 fun x S => match (seqOf S x).bind ints? with
  | some ns => some (.int ns.sum)
  | none => none
def bAll : VO := op1 fun x S => match (listOf S x).bind bools? with
  | some bs => some (.bl (bs.all id))
  | none => none
def bAny : VO := op1 fun x S => match (listOf S x).bind bools? with
  | some bs => some (.bl (bs.any id))
  | none => none
def maxI : Int → List Int → Int
  | m, [] => m
  | m, x :: xs => maxI (if x > m then x else m) xs
def minI : Int → List Int → Int
  | m, [] => m
  | m, x :: xs => minI (if x < m then x else m) xs
def bMax : VO := fun vs S => match vs with
  | [.int i, .int j] => some (.int (if j > i then j else i))
  | [x] => match (seqOf S x).bind ints? with
    | some (n :: ns) => some (.int (maxI n ns))
    | _ => none
  | _ => none
def bMin : VO := fun vs S => match vs with
  | [.int i, .int j] => some (.int (if j < i then j else i))
  | [x] => match (seqOf S x).bind ints? with
    | some (n :: ns) => some (.int (minI n ns))
    | _ => none
  | _ => none
def bAbs : VO := op1 fun x S => match x with
  | .int i => some (.int (if i < 0 then -i else i))
  | _ => none
def bInt : VO := op1 fun x S => match x with
  | .int i => some (.int i)
  | .bl b => some (.int (b2i b))
  | _ => none
def bTuple : VO := op1 fun x S => match seqOf S x with
  | some xs => some (.tup xs)
  | none => none
/-- list(x): a new one -/
def bList : VO := op1 fun x S => match x with
  | .scr ns => some (.lst (ns.map .int))
  | x => match seqOf S x with
    | some xs => some (.lst xs)
    | none => none
/-- str(x), x a text -/
def bStr : VO := op1 fun x S => match x with
  | .str a => some (.str a)
  | .int i => if decide (i.natAbs.log2 < 1920) then some (.str (Str.ofString (toString i))) else none
  | _ => none
def insI (x : Int) : List Int → List Int
  | [] => [x]
  | y :: ys => if x ≤ y then x :: y :: ys else y :: insI x ys
def sortI : List Int → List Int
  | [] => []
  | x :: xs => insI x (sortI xs)
def bSorted : VO := op1 fun x S => match (seqOf S x).bind ints? with
  | some ns => some (.lst ((sortI ns).map .int))
  | none => none
def rng1 : List PV → Option (Int × Int)
  | [.int j] => some (0, j)
  | _ => none
def rng2 : List PV → Option (Int × Int)
  | [.int i, .int j] => some (i, j)
  | _ => none
def rngF (two : Bool) (vs : List PV) : Option (Int × Int) := if two then rng2 vs else rng1 vs
def small62 (i : Int) : Bool := decide (-(2 ^ 62) ≤ i) && decide (i < 2 ^ 62)
def rngL (i : Int) : Nat → List PV
  | 0 => []
  | n + 1 => .int i :: rngL (i + 1) n
def iRange (two : Bool) (a : AF) : IF := fun ρ S => (a ρ S).bind fun vs S1 => match rngF two vs with
  | some (i, j) => if small62 i && small62 j then .ok (.items (rngL i (j - i).toNat)) S1 else .no
  | none => .no
def bListRange (two : Bool) : VO := fun vs S => match rngF two vs with
  | some (i, j) => if small62 i && small62 j && lenOk (j - i).toNat then some (.lst (rngL i (j - i).toNat)) else none
  | none => none
def bTupRange (two : Bool) : VO := fun vs S => match rngF two vs with
  | some (i, j) => if small62 i && small62 j && lenOk (j - i).toNat then some (.tup (rngL i (j - i).toNat)) else none
  | none => none
def iSeq (f : EF) : IF := fun ρ S => (f ρ S).bind fun x S1 => match x with
  | .tup xs => .ok (.items xs) S1
  | .lst xs => .ok (.items xs) S1
  | .ref n => .ok (.gen (cellL n)) S1
  | _ => .no
/-- a tuple or a list that stays -/
def fixed : PV → Option (List PV)
  | .tup xs => some xs
  | .lst xs => some xs
  | _ => none
def zipP : List PV → List PV → List (List PV)
  | x :: xs, y :: ys => [x, y] :: zipP xs ys
  | _, _ => []
def zipP3 : List PV → List PV → List PV → List (List PV)
  | x :: xs, y :: ys, z :: zs => [x, y, z] :: zipP3 xs ys zs
  | _, _, _ => []
def enumP (i : Int) : List PV → List (List PV)
  | [] => []
  | x :: xs => [.int i, x] :: enumP (i + 1) xs
def rowsZ (vs : List PV) (S : Sto) : Option (List (List PV)) := match vs with
  | [x, y] => match seqOf S x, seqOf S y with
    | some xs, some ys => some (zipP xs ys)
    | _, _ => none
  | [x, y, z] => match seqOf S x, seqOf S y, seqOf S z with
    | some xs, some ys, some zs => some (zipP3 xs ys zs)
    | _, _, _ => none
  | _ => none
def rowsE (vs : List PV) (S : Sto) : Option (List (List PV)) := match vs with
  | [x] => match seqOf S x with
    | some xs => some (enumP 0 xs)
    | none => none
  | _ => none
def allFixed : List PV → Bool
  | [] => true
  | x :: xs => (fixed x).isSome && allFixed xs
def prsL (o : Option (List (List PV))) : Option (List PV) := o.map (List.map .prs)
def iRows (f : List PV → Sto → Option (List (List PV))) (a : AF) : IF := fun ρ S => (a ρ S).bind fun vs S1 => if allFixed vs then (match prsL (f vs S1) with
    | some l => .ok (.items l) S1
    | none => .no) else if (f vs S1).isSome then .ok (.gen fun S2 => prsL (f vs S2)) S1 else .no
def iZip := iRows rowsZ
def iEnum := iRows rowsE
/-! ### isinstance of built-in types -/
inductive Ty where
  | int | bool | str | tuple | list
def isTy (t : Ty) (x : PV) : Option Bool := match x with
  | .non => some false
  | .bl _ => some (match t with | .int => true | .bool => true | _ => false)
  | .int _ => some (match t with | .int => true | _ => false)
  | .str _ => some (match t with | .str => true | _ => false)
  | .tup _ => some (match t with | .tuple => true | _ => false)
  | .lst _ => some (match t with | .list => true | _ => false)
  | .ref _ => some (match t with | .list => true | _ => false)
  | _ => none
def bIs (t : Ty) : VO := op1 fun x S => match isTy t x with
  | some b => some (.bl b)
  | none => none
/-! ### methods -/
def kdSeq (x : PV) (S : Sto) : Bool := (seqOf S x).isSome
def kdLst (x : PV) (S : Sto) : Bool := (listOf S x).isSome
def kdTup (x : PV) (_ : Sto) : Bool := match x with
  | .tup _ => true
  | _ => false
def mAppend : VM := op2m fun o y S => match o with
  | .ref n => match S[n]? with
    | some (.lst xs) => if Nat.blt xs.length 16777216 then some (.non, S.set n (.lst (xs ++ [y]))) else none
    | none => none
  | _ => none
def mPopAt : VM := op2m fun o y S => match o, y with
  | .ref n, .int i => match S[n]? with
    | some (.lst xs) => if decide (-(2 ^ 63) ≤ i) && decide (i < 2 ^ 63) then (match ixN xs.length i with
      | some j => match xs[j]? with
        | some v => some (v, S.set n (.lst (xs.eraseIdx j)))
        | none => none
      | none => none) else none
    | none => none
  | _, _ => none
def posOf (x : PV) : List PV → Option Nat
  | [] => none
  | y :: ys => if eqF y x then some 0 else (posOf x ys).map (· + 1)
def mIndex : VO := op2 fun o x S => match seqOf S o with
  | some xs => if flatP x && xs.all flatP then (match posOf x xs with
    | some j => some (.int j)
    | none => none) else none
  | none => none
def countP (x : PV) : List PV → Nat
  | [] => 0
  | y :: ys => if eqF y x then countP x ys + 1 else countP x ys
def mCount : VO := op2 fun o x S => match seqOf S o with
  | some xs => if flatP x && xs.all flatP then some (.int (countP x xs)) else none
  | none => none
def stSet (o i v : PV) (S : Sto) : Option (PV × Sto) := match o, i with
  | .ref n, .int k => match S[n]? with
    | some (.lst xs) => match ixN xs.length k with
      | some j => some (.non, S.set n (.lst (xs.set j v)))
      | none => none
    | none => none
  | _, _ => none
end Fx

/-! Fx2: pure values against the abstract heap; the judgements. -/
namespace Fx
open PySem PySem.Spec PyProof.Rows L2

/-- what is fixed: the written part, where defs and classes stand -/
structure ErrX where
  a : Addr
  cls : Value
  d : Option Addr
structure Bx where
  K : PySem.W.Frag
  fa : Nat → Option Addr
  T : List (Addr × Str)
  err : Option ErrX
def flV : Fl → V
  | .int i => .int i
  | .str x => .str x
/-- the fields of the exception that a suite holds -/
def ErrFs (d : Option Addr) (H : Hp) (fs : List (Str × Fl)) : Prop := match fs with
  | [] => d = none
  | _ :: _ => ∃ dd gs, d = some dd ∧ H dd = some (.xd gs) ∧ ∀ f y, fs.lookup f = some y → gs.lookup f = some (flV y)

abbrev Rsv := Addr → Prop
abbrev Mp := Nat → Addr
mutual
def RepV (B : Bx) (m : Mp) (Rv : Rsv) (N : Nat) (H : Hp) : PV → V → Prop
  | .err c fs, v => ∃ e, B.err = some e ∧ v = .ref e.a ∧ (∃ C, B.fa c = some C ∧ e.cls = .ref C) ∧ ErrFs e.d H fs
  | .non, v => v = .non
  | .bl b, v => v = .bl b
  | .int i, v => v = .int i
  | .str x, v => v = .str x
  | .ref n, v => n < N ∧ v = .ref (m n)
  | .fn g, v => ∃ a, B.fa g = some a ∧ v = .ref a
  | .scr ns, v => ∃ a, v = .ref a ∧ ((∃ o, H a = some (.frz o (.lst (ns.map V.int)))) ∨ SqL B.K (fun _ => none) a (ns.map V.int) ∨ (H a = some (.lst (ns.map V.int)) ∧ ¬ Rv a))
  | .tup xs, v => ∃ a o vs, v = .ref a ∧ H a = some (.frz o (.tup vs)) ∧ o.dict = none ∧ RepVs B m Rv N H xs vs
  | .prs xs, v => ∃ a vs, v = .ref a ∧ H a = some (.tup vs) ∧ RepVs B m Rv N H xs vs
  | .lst xs, v => ∃ a vs, v = .ref a ∧ H a = some (.lst vs) ∧ ¬ Rv a ∧ RepVs B m Rv N H xs vs
def RepVs (B : Bx) (m : Mp) (Rv : Rsv) (N : Nat) (H : Hp) : List PV → List V → Prop
  | [], vs => vs = []
  | x :: xs, vs => ∃ w ws, vs = w :: ws ∧ RepV B m Rv N H x w ∧ RepVs B m Rv N H xs ws
end

/-- what may be written -/
def Soft : Option HO → Prop
  | some (.lst _) => True
  | _ => False
/-- nothing, or a table of code objects (which grows) -/
def Free (o : Option HO) : Prop := ∀ u, o = some u → ∃ ps, u = .tbl ps
theorem Free.none : Free none := fun _ h => nomatch h
theorem Free.lst {vs : List V} (h : Free (some (.lst vs))) : False := let ⟨_, e⟩ := h _ rfl; nomatch e
theorem Free.of {o : Option HO} (h : o = Option.none) : Free o := h ▸ Free.none
theorem Soft.notFree {o : Option HO} (h : Soft o) : ¬ Free o := fun f => by
  cases o with
  | none => exact h
  | some u =>
    obtain ⟨ps, rfl⟩ := f u rfl
    exact h
theorem free_of {o : Option HO} (h : ¬ Free o) : ∃ u, o = some u ∧ ∀ ps, u ≠ .tbl ps := by
  cases o with
  | none => exact absurd Free.none h
  | some u => exact ⟨u, rfl, fun ps e => h fun v hv => by cases hv; exact ⟨ps, e⟩⟩
theorem notFree {o : Option HO} {u : HO} (h : o = some u) (n : ∀ ps, u ≠ .tbl ps) : ¬ Free o := fun f => let ⟨ps, e⟩ := f u h; n ps e
structure St (B : Bx) (m : Mp) (Rv : Rsv) (S : Sto) (H : Hp) : Prop where
  cells : ∀ n xs, S[n]? = some (.lst xs) → ∃ vs, H (m n) = some (.lst vs) ∧ RepVs B m Rv S.length H xs vs
  inj : ∀ i j, i < S.length → j < S.length → m i = m j → i = j
  rsv : ∀ n, n < S.length → Rv (m n)
  soft : ∀ r, Rv r → Soft (H r)
  tabs : LamX.Tabs B.T H

structure Ext (B : Bx) (m : Mp) (Rv : Rsv) (S : Sto) (H : Hp) (m' : Mp) (Rv' : Rsv) (S' : Sto) (H' : Hp) : Prop where
  len : S.length ≤ S'.length
  same : ∀ n, n < S.length → m' n = m n
  new : ∀ n, S.length ≤ n → n < S'.length → Free (H (m' n))
  rsv : ∀ r, Rv' r → Rv r ∨ Free (H r)
  rsv' : ∀ r, Rv r → Rv' r
  keep : ∀ b o, H b = some o → (∀ ps, o ≠ .tbl ps) → (∀ n, n < S.length → m n ≠ b) → H' b = some o
  stays : ∀ b, ¬ Free (H b) → ¬ Free (H' b)
  st : St B m' Rv' S' H'

section
variable {B : Bx} {m m' m'' : Mp} {Rv Rv' Rv'' : Rsv} {S S' S'' : Sto} {H H' H'' : Hp}

theorem St.there (s : St B m Rv S H) (r : Addr) (h : Rv r) : H r ≠ none := fun e => by
  have := s.soft r h
  rw [e] at this
  exact this
theorem Soft.keep {o o' : Option HO} (h : Soft o) (k : ∀ u, o = some u → o' = some u) : Soft o' := by
  cases o with
  | none => exact h.elim
  | some u => rw [k u rfl]; exact h
theorem St.cell (s : St B m Rv S H) {n : Nat} (h : n < S.length) : ∃ xs vs, S[n]? = some (.lst xs) ∧ H (m n) = some (.lst vs) ∧ RepVs B m Rv S.length H xs vs := by
  cases e : S[n]? with
  | none => exact absurd (List.getElem?_eq_none_iff.mp e) (by omega)
  | some c =>
    cases c with
    | lst xs =>
      obtain ⟨vs, h1, h2⟩ := s.cells n xs e
      exact ⟨xs, vs, rfl, h1, h2⟩
theorem lt_of_get {α : Type} {l : List α} {n : Nat} {x : α} (h : l[n]? = some x) : n < l.length := (List.getElem?_eq_some_iff.mp h).1

theorem St.frz (s : St B m Rv S H) {a : Addr} {o : Obj} {u : HO} (h : H a = some (.frz o u)) : ∀ n, n < S.length → m n ≠ a := fun n hn e => by
  obtain ⟨xs, vs, _, h1, _⟩ := s.cell hn
  rw [e, h] at h1; cases h1
theorem St.tup (s : St B m Rv S H) {a : Addr} {vs : List V} (h : H a = some (.tup vs)) : ∀ n, n < S.length → m n ≠ a := fun n hn e => by
  obtain ⟨xs, ws, _, h1, _⟩ := s.cell hn
  rw [e, h] at h1; cases h1
theorem St.nrs (s : St B m Rv S H) {a : Addr} (h : ¬ Rv a) : ∀ n, n < S.length → m n ≠ a := fun n hn e => h (e ▸ s.rsv n hn)

/-- what may change and what stays, for a value to stay -/
structure Stay (m : Mp) (Rv : Rsv) (N : Nat) (H : Hp) (m' : Mp) (Rv' : Rsv) (N' : Nat) (H' : Hp) : Prop where
  len : N ≤ N'
  same : ∀ n, n < N → m' n = m n
  rsv : ∀ r, Rv' r → Rv r ∨ Free (H r)
  tups : ∀ b vs, H b = some (.tup vs) → H' b = some (.tup vs)
  frzs : ∀ b o u, H b = some (.frz o u) → H' b = some (.frz o u)
  lsts : ∀ b vs, H b = some (.lst vs) → ¬ Rv b → H' b = some (.lst vs)
  xds : ∀ b gs, H b = some (.xd gs) → H' b = some (.xd gs)
theorem St.xd (s : St B m Rv S H) {a : Addr} {gs : List (Str × V)} (h : H a = some (.xd gs)) : ∀ n, n < S.length → m n ≠ a := fun n hn e => by
  obtain ⟨xs, ws, _, h1, _⟩ := s.cell hn
  rw [e, h] at h1; cases h1
theorem ErrFs.stay {d : Option Addr} {fs : List (Str × Fl)} (k : ∀ b gs, H b = some (.xd gs) → H' b = some (.xd gs)) (h : ErrFs d H fs) : ErrFs d H' fs := by
  cases fs with
  | nil => exact h
  | cons _ _ =>
    obtain ⟨dd, gs, h1, h2, h3⟩ := h
    exact ⟨dd, gs, h1, k _ _ h2, h3⟩
theorem Ext.stay (e : Ext B m Rv S H m' Rv' S' H') (s : St B m Rv S H) : Stay m Rv S.length H m' Rv' S'.length H' :=
  ⟨e.len, e.same, e.rsv, fun b vs h => e.keep b _ h (fun _ z => nomatch z) (s.tup h), fun b o u h => e.keep b _ h (fun _ z => nomatch z) (s.frz h), fun b vs h hr => e.keep b _ h (fun _ z => nomatch z) (s.nrs hr), fun b gs h => e.keep b _ h (fun _ z => nomatch z) (s.xd h)⟩
mutual
theorem RepV.stay {N N' : Nat} (k : Stay m Rv N H m' Rv' N' H') : ∀ (p : PV) (v : V), RepV B m Rv N H p v → RepV B m' Rv' N' H' p v
  | .err c fs, v, h => by
    unfold RepV at *
    obtain ⟨e, h1, h2, h3, h4⟩ := h
    exact ⟨e, h1, h2, h3, h4.stay k.xds⟩
  | .non, v, h => by unfold RepV at *; exact h
  | .bl b, v, h => by unfold RepV at *; exact h
  | .int i, v, h => by unfold RepV at *; exact h
  | .str x, v, h => by unfold RepV at *; exact h
  | .ref n, v, h => by unfold RepV at *; exact ⟨Nat.lt_of_lt_of_le h.1 k.len, by rw [k.same n h.1]; exact h.2⟩
  | .fn g, v, h => by unfold RepV at *; exact h
  | .scr ns, v, h => by
    unfold RepV at *
    obtain ⟨a, e, h⟩ := h
    refine ⟨a, e, ?_⟩
    rcases h with ⟨o, h⟩ | h | ⟨h, hr⟩
    · exact .inl ⟨o, k.frzs _ _ _ h⟩
    · exact .inr (.inl h)
    · refine .inr (.inr ⟨k.lsts _ _ h hr, fun q => ?_⟩)
      rcases k.rsv a q with z | z
      · exact hr z
      · rw [h] at z; exact z.lst
  | .tup xs, v, h => by
    unfold RepV at *
    obtain ⟨a, o, vs, e, h1, hd, h2⟩ := h
    exact ⟨a, o, vs, e, k.frzs _ _ _ h1, hd, RepVs.stay k xs vs h2⟩
  | .prs xs, v, h => by
    unfold RepV at *
    obtain ⟨a, vs, e, h1, h2⟩ := h
    exact ⟨a, vs, e, k.tups _ _ h1, RepVs.stay k xs vs h2⟩
  | .lst xs, v, h => by
    unfold RepV at *
    obtain ⟨a, vs, e, h1, h2, h3⟩ := h
    refine ⟨a, vs, e, k.lsts _ _ h1 h2, fun hr => ?_, RepVs.stay k xs vs h3⟩
    rcases k.rsv a hr with z | z
    · exact h2 z
    · rw [h1] at z; exact z.lst
theorem RepVs.stay {N N' : Nat} (k : Stay m Rv N H m' Rv' N' H') : ∀ (p : List PV) (v : List V), RepVs B m Rv N H p v → RepVs B m' Rv' N' H' p v
  | [], v, h => by unfold RepVs at *; exact h
  | x :: xs, v, h => by
    unfold RepVs at *
    obtain ⟨w, ws, e, h1, h2⟩ := h
    exact ⟨w, ws, e, RepV.stay k x w h1, RepVs.stay k xs ws h2⟩
end
theorem RepVs.length : ∀ {xs : List PV} {vs : List V} {N : Nat}, RepVs B m Rv N H xs vs → xs.length = vs.length
  | [], vs, N, h => by unfold RepVs at h; subst h; rfl
  | x :: xs, vs, N, h => by
    unfold RepVs at h
    obtain ⟨w, ws, rfl, _, h2⟩ := h
    show xs.length + 1 = ws.length + 1
    rw [RepVs.length h2]
theorem RepVs.get : ∀ {xs : List PV} {vs : List V} {N i : Nat} {x : PV}, RepVs B m Rv N H xs vs → xs[i]? = some x → ∃ v, vs[i]? = some v ∧ RepV B m Rv N H x v
  | [], vs, N, i, x, h, e => by simp at e
  | y :: xs, vs, N, i, x, h, e => by
    unfold RepVs at h
    obtain ⟨w, ws, rfl, h1, h2⟩ := h
    cases i with
    | zero => simp at e; subst e; exact ⟨w, rfl, h1⟩
    | succ i =>
      obtain ⟨v, h3, h4⟩ := RepVs.get (i := i) h2 (by simpa using e)
      exact ⟨v, by simpa using h3, h4⟩
theorem RepVs.mk {N : Nat} : ∀ {xs : List PV} {vs : List V}, xs.length = vs.length → (∀ (i : Nat) x v, xs[i]? = some x → vs[i]? = some v → RepV B m Rv N H x v) → RepVs B m Rv N H xs vs
  | [], vs, hl, _ => by
    unfold RepVs
    cases vs with
    | nil => rfl
    | cons _ _ => cases hl
  | x :: xs, vs, hl, h => by
    unfold RepVs
    cases vs with
    | nil => cases hl
    | cons w ws => exact ⟨w, ws, rfl, h 0 x w rfl rfl, RepVs.mk (by simpa using hl) fun i y v h1 h2 => h (i + 1) y v (by simpa using h1) (by simpa using h2)⟩
theorem RepVs.nil {N : Nat} : RepVs B m Rv N H [] [] := by unfold RepVs; rfl
theorem RepVs.cons {N : Nat} {x : PV} {xs : List PV} {v : V} {vs : List V} (h : RepV B m Rv N H x v) (t : RepVs B m Rv N H xs vs) : RepVs B m Rv N H (x :: xs) (v :: vs) := by
  unfold RepVs; exact ⟨v, vs, rfl, h, t⟩
theorem RepVs.inv {N : Nat} {x : PV} {xs : List PV} {vs : List V} (h : RepVs B m Rv N H (x :: xs) vs) : ∃ w ws, vs = w :: ws ∧ RepV B m Rv N H x w ∧ RepVs B m Rv N H xs ws := by
  unfold RepVs at h; exact h
theorem RepVs.inv0 {N : Nat} {vs : List V} (h : RepVs B m Rv N H [] vs) : vs = [] := by
  unfold RepVs at h; exact h
theorem RepVs.append {N : Nat} : ∀ {xs ys : List PV} {vs ws : List V}, RepVs B m Rv N H xs vs → RepVs B m Rv N H ys ws → RepVs B m Rv N H (xs ++ ys) (vs ++ ws)
  | [], _, _, _, h, k => by
    have := h.inv0; subst this; exact k
  | x :: xs, ys, vs, ws, h, k => by
    obtain ⟨w, ws', rfl, h1, h2⟩ := h.inv
    exact .cons h1 (RepVs.append h2 k)
theorem RepVs.take {N : Nat} : ∀ {xs : List PV} {vs : List V} (k : Nat), RepVs B m Rv N H xs vs → RepVs B m Rv N H (xs.take k) (vs.take k)
  | xs, vs, 0, h => by simp only [List.take_zero]; exact .nil
  | [], vs, k + 1, h => by have := h.inv0; subst this; exact .nil
  | x :: xs, vs, k + 1, h => by
    obtain ⟨w, ws', rfl, h1, h2⟩ := h.inv
    exact .cons h1 (RepVs.take k h2)
theorem RepVs.drop {N : Nat} : ∀ {xs : List PV} {vs : List V} (k : Nat), RepVs B m Rv N H xs vs → RepVs B m Rv N H (xs.drop k) (vs.drop k)
  | xs, vs, 0, h => h
  | [], vs, k + 1, h => by have := h.inv0; subst this; exact .nil
  | x :: xs, vs, k + 1, h => by
    obtain ⟨w, ws', rfl, h1, h2⟩ := h.inv
    exact RepVs.drop k h2
theorem RepVs.rev {N : Nat} : ∀ {xs : List PV} {vs : List V}, RepVs B m Rv N H xs vs → RepVs B m Rv N H xs.reverse vs.reverse
  | [], vs, h => by have := h.inv0; subst this; exact .nil
  | x :: xs, vs, h => by
    obtain ⟨w, ws', rfl, h1, h2⟩ := h.inv
    rw [List.reverse_cons, List.reverse_cons]
    exact (RepVs.rev h2).append (.cons h1 .nil)
theorem RepVs.rep {N : Nat} {xs : List PV} {vs : List V} (h : RepVs B m Rv N H xs vs) : ∀ k : Nat, RepVs B m Rv N H (List.replicate k xs).flatten (List.replicate k vs).flatten
  | 0 => .nil
  | k + 1 => by
    rw [List.replicate_succ, List.replicate_succ, List.flatten_cons, List.flatten_cons]
    exact h.append (RepVs.rep h k)
theorem RepVs.set {N : Nat} {x : PV} {v : V} (hx : RepV B m Rv N H x v) : ∀ {xs : List PV} {vs : List V} (k : Nat), RepVs B m Rv N H xs vs → RepVs B m Rv N H (xs.set k x) (vs.set k v)
  | [], vs, k, h => by have := h.inv0; subst this; exact .nil
  | y :: xs, vs, 0, h => by
    obtain ⟨w, ws', rfl, h1, h2⟩ := h.inv
    exact .cons hx h2
  | y :: xs, vs, k + 1, h => by
    obtain ⟨w, ws', rfl, h1, h2⟩ := h.inv
    exact .cons h1 (RepVs.set hx k h2)
theorem RepVs.erase {N : Nat} : ∀ {xs : List PV} {vs : List V} (k : Nat), RepVs B m Rv N H xs vs → RepVs B m Rv N H (xs.eraseIdx k) (vs.eraseIdx k)
  | [], vs, k, h => by have := h.inv0; subst this; exact .nil
  | y :: xs, vs, 0, h => by
    obtain ⟨w, ws', rfl, h1, h2⟩ := h.inv
    exact h2
  | y :: xs, vs, k + 1, h => by
    obtain ⟨w, ws', rfl, h1, h2⟩ := h.inv
    exact .cons h1 (RepVs.erase k h2)
theorem RepVs.ints {N : Nat} : ∀ (ns : List Int), RepVs B m Rv N H (ns.map .int) (ns.map V.int)
  | [] => .nil
  | n :: ns => .cons (by unfold RepV; rfl) (RepVs.ints ns)

theorem tabs_upd {T : List (Addr × Str)} {b : Addr} {o : HO} (t : LamX.Tabs T H) (h : ∀ u, H b = some u → ∃ vs, u = .lst vs) : LamX.Tabs T (upd H b o) := fun p hp => by
  obtain ⟨ps, h1, h2, h3⟩ := t p hp
  refine ⟨ps, ?_, h2, fun pos cv hc => ?_⟩
  · rw [upd_ne (fun z => by obtain ⟨vs, e⟩ := h _ (z ▸ h1); cases e)]; exact h1
  · obtain ⟨c, e1, e2⟩ := h3 pos cv hc
    refine ⟨c, e1, ?_⟩
    rw [upd_ne (fun z => by obtain ⟨vs, e⟩ := h _ (z ▸ e2); cases e)]; exact e2
theorem none_lst {b : Addr} (h : H b = none) : ∀ u, H b = some u → ∃ vs, u = .lst vs := fun u e => by rw [h] at e; cases e
theorem some_lst {b : Addr} {ws : List V} (h : H b = some (.lst ws)) : ∀ u, H b = some u → ∃ vs, u = .lst vs := fun u e => by rw [h] at e; cases e; exact ⟨_, rfl⟩
theorem Ext.refl (s : St B m Rv S H) : Ext B m Rv S H m Rv S H :=
  ⟨Nat.le_refl _, fun _ _ => rfl, fun n h1 h2 => absurd h1 (by omega), fun _ h => .inl h, fun _ h => h, fun _ _ h _ _ => h, fun _ h => h, s⟩
theorem Ext.trans (a : Ext B m Rv S H m' Rv' S' H') (s : St B m Rv S H) (b : Ext B m' Rv' S' H' m'' Rv'' S'' H'') : Ext B m Rv S H m'' Rv'' S'' H'' where
  len := Nat.le_trans a.len b.len
  same := fun n h => (b.same n (Nat.lt_of_lt_of_le h a.len)).trans (a.same n h)
  new := fun n h1 h2 => by
    by_cases h : n < S'.length
    · rw [b.same n h]; exact a.new n h1 h
    · have q := b.new n (by omega) h2
      exact Classical.byContradiction fun e => absurd q (a.stays _ e)
  rsv := fun r h => by
    rcases b.rsv r h with z | z
    · exact a.rsv r z
    · exact .inr (Classical.byContradiction fun e => absurd z (a.stays _ e))
  rsv' := fun r h => b.rsv' r (a.rsv' r h)
  keep := fun b' o h nt k => by
    have h1 := a.keep b' o h nt k
    refine b.keep b' o h1 nt fun n hn e => ?_
    by_cases hs : n < S.length
    · exact k n hs (by rw [← a.same n hs]; exact e)
    · have q := a.new n (by omega) hn
      rw [e] at q
      exact notFree h nt q
  stays := fun b' h => b.stays b' (a.stays b' h)
  st := b.st
/-- a new object that is no cell -/
theorem Ext.laid {p : Addr} {o : HO} (s : St B m Rv S H) (hp : H p = none) : Ext B m Rv S H m Rv S (upd H p o) := by
  have kp : ∀ b u, H b = some u → upd H p o b = some u := fun b u e => by rw [upd_ne (ne_of_none e hp)]; exact e
  have sy : Stay m Rv S.length H m Rv S.length (upd H p o) := ⟨Nat.le_refl _, fun _ _ => rfl, fun _ h => .inl h, fun b vs e => kp _ _ e, fun b o u e => kp _ _ e, fun b vs e _ => kp _ _ e, fun b gs e => kp _ _ e⟩
  refine ⟨Nat.le_refl _, fun _ _ => rfl, fun n h1 h2 => absurd h1 (by omega), fun _ h => .inl h, fun _ h => h, fun b u e _ _ => kp b u e, fun b h => ?_, ⟨fun n xs e => ?_, s.inj, s.rsv, fun r h => ?_, tabs_upd s.tabs (none_lst hp)⟩⟩
  · obtain ⟨u, e, nt⟩ := free_of h
    exact notFree (kp _ _ e) nt
  · obtain ⟨vs, h1, h2⟩ := s.cells n xs e
    exact ⟨vs, kp _ _ h1, RepVs.stay sy _ _ h2⟩
  · exact (s.soft r h).keep fun u e => kp _ _ e
/-- a new object that is reserved -/
theorem Ext.laidR {p : Addr} {o : HO} (so : Soft (some o)) (s : St B m Rv S H) (hp : H p = none) : Ext B m Rv S H m (fun a => Rv a ∨ a = p) S (upd H p o) := by
  have kp : ∀ b u, H b = some u → upd H p o b = some u := fun b u e => by rw [upd_ne (ne_of_none e hp)]; exact e
  have rs : ∀ r, Rv r ∨ r = p → Rv r ∨ Free (H r) := fun r h => h.imp id fun (e : r = p) => e ▸ Free.of hp
  have sy : Stay m Rv S.length H m (fun a => Rv a ∨ a = p) S.length (upd H p o) := ⟨Nat.le_refl _, fun _ _ => rfl, rs, fun b vs e => kp _ _ e, fun b o u e => kp _ _ e, fun b vs e _ => kp _ _ e, fun b gs e => kp _ _ e⟩
  refine ⟨Nat.le_refl _, fun _ _ => rfl, fun n h1 h2 => absurd h1 (by omega), rs, fun _ h => .inl h, fun b u e _ _ => kp b u e, fun b h => ?_, ⟨fun n xs e => ?_, s.inj, fun n h => .inl (s.rsv n h), fun r h => ?_, tabs_upd s.tabs (none_lst hp)⟩⟩
  · obtain ⟨u, e, nt⟩ := free_of h
    exact notFree (kp _ _ e) nt
  · obtain ⟨vs, h1, h2⟩ := s.cells n xs e
    exact ⟨vs, kp _ _ h1, RepVs.stay sy _ _ h2⟩
  · rcases h with h | h
    · exact (s.soft r h).keep fun u e => kp _ _ e
    · rw [h, upd_same]; exact so
def mAdd (m : Mp) (n : Nat) (p : Addr) : Mp := fun k => if k < n then m k else p
/-- a reserved list becomes a cell -/
theorem St.cell_new {p : Addr} {xs : List PV} {vs : List V} (s : St B m Rv S H) (hr : Rv p) (hm : ∀ n, n < S.length → m n ≠ p) (hp : H p = some (.lst vs)) (h : RepVs B m Rv S.length H xs vs) :
    St B (mAdd m S.length p) Rv (S ++ [.lst xs]) H := by
  have sy : Stay m Rv S.length H (mAdd m S.length p) Rv (S ++ [Cell.lst xs]).length H :=
    ⟨by simp, fun n hn => by simp [mAdd, hn], fun _ h => .inl h, fun _ _ e => e, fun _ _ _ e => e, fun _ _ e _ => e, fun _ _ e => e⟩
  have hl : (S ++ [Cell.lst xs]).length = S.length + 1 := by simp
  refine ⟨fun n ys e => ?_, fun i j hi hj e => ?_, fun n hn => ?_, s.soft, s.tabs⟩
  · by_cases hn : n < S.length
    · rw [List.getElem?_append_left hn] at e
      obtain ⟨ws, h1, h2⟩ := s.cells n ys e
      exact ⟨ws, by simp [mAdd, hn, h1], RepVs.stay sy _ _ h2⟩
    · have hn2 := lt_of_get e
      have en : n = S.length := by omega
      subst en
      simp at e
      subst e
      exact ⟨vs, by simp [mAdd, hp], RepVs.stay sy _ _ h⟩
  · unfold mAdd at e
    split at e <;> split at e
    · exact s.inj i j (by assumption) (by assumption) e
    · exact absurd e (hm i (by assumption))
    · exact absurd e.symm (hm j (by assumption))
    · omega
  · unfold mAdd
    split
    · exact s.rsv n (by assumption)
    · exact hr
theorem Ext.cell_new {p : Addr} {xs : List PV} {vs : List V} (e : Ext B m Rv S H m' Rv' S' H') (hr : Rv' p) (hm : ∀ n, n < S'.length → m' n ≠ p) (h0 : Free (H p)) (hp : H' p = some (.lst vs)) (h : RepVs B m' Rv' S'.length H' xs vs) :
    Ext B m Rv S H (mAdd m' S'.length p) Rv' (S' ++ [.lst xs]) H' := by
  have hl : (S' ++ [Cell.lst xs]).length = S'.length + 1 := by simp
  refine ⟨by rw [hl]; exact Nat.le_succ_of_le e.len, fun n hn => ?_, fun n h1 h2 => ?_, e.rsv, e.rsv', e.keep, e.stays, e.st.cell_new hr hm hp h⟩
  · have := e.len
    unfold mAdd
    rw [if_pos (by omega)]
    exact e.same n hn
  · unfold mAdd
    split
    · exact e.new n h1 (by assumption)
    · exact h0
/-- .. is let go -/
theorem St.freed {p : Addr} (s : St B m Rv S H) (hm : ∀ n, n < S.length → m n ≠ p) : St B m (fun a => Rv a ∧ a ≠ p) S H := by
  have sy : Stay m Rv S.length H m (fun a => Rv a ∧ a ≠ p) S.length H := ⟨Nat.le_refl _, fun _ _ => rfl, fun _ h => .inl h.1, fun _ _ e => e, fun _ _ _ e => e, fun _ _ e _ => e, fun _ _ e => e⟩
  exact ⟨fun n xs e => let ⟨vs, h1, h2⟩ := s.cells n xs e; ⟨vs, h1, RepVs.stay sy _ _ h2⟩, s.inj, fun n h => ⟨s.rsv n h, hm n h⟩, fun r h => s.soft r h.1, s.tabs⟩
theorem Ext.freed {p : Addr} (s : St B m Rv S H) (e : Ext B m Rv S H m' Rv' S' H') (hm : ∀ n, n < S'.length → m' n ≠ p) (h0 : Free (H p)) : Ext B m Rv S H m' (fun a => Rv' a ∧ a ≠ p) S' H' :=
  ⟨e.len, e.same, e.new, fun r h => e.rsv r h.1, fun r h => ⟨e.rsv' r h, fun z => (s.soft r h).notFree (z ▸ h0)⟩, e.keep, e.stays, e.st.freed hm⟩
theorem RepVs.freed {p : Addr} {N : Nat} {xs : List PV} {vs : List V} (h : RepVs B m Rv N H xs vs) : RepVs B m (fun a => Rv a ∧ a ≠ p) N H xs vs :=
  RepVs.stay ⟨Nat.le_refl _, fun _ _ => rfl, fun _ h => .inl h.1, fun _ _ e => e, fun _ _ _ e => e, fun _ _ e _ => e, fun _ _ e => e⟩ _ _ h
/-- a cell is written -/
theorem Ext.write {n : Nat} {xs ys : List PV} {vs : List V} (s : St B m Rv S H) (hn : S[n]? = some (.lst xs)) (h : RepVs B m Rv S.length H ys vs) :
    Ext B m Rv S H m Rv (S.set n (.lst ys)) (upd H (m n) (.lst vs)) := by
  have hl := lt_of_get hn
  obtain ⟨ws, hw, _⟩ := s.cells n xs hn
  have kp : ∀ b u, b ≠ m n → H b = some u → upd H (m n) (.lst vs) b = some u := fun b u hb e => by rw [upd_ne hb]; exact e
  have sy : Stay m Rv S.length H m Rv (S.set n (.lst ys)).length (upd H (m n) (.lst vs)) :=
    ⟨by simp, fun _ _ => rfl, fun _ h => .inl h, fun b us e => kp b _ (fun z => by rw [z, hw] at e; cases e) e, fun b o u e => kp b _ (fun z => by rw [z, hw] at e; cases e) e, fun b us e hr => kp b _ (fun z => hr (z ▸ s.rsv n hl)) e, fun b us e => kp b _ (fun z => by rw [z, hw] at e; cases e) e⟩
  have there : ∀ b, ¬ Free (H b) → ¬ Free (upd H (m n) (.lst vs) b) := fun b h => by
    by_cases hb : b = m n
    · rw [hb, upd_same]; exact Free.lst
    · rw [upd_ne hb]; exact h
  refine ⟨by simp, fun _ _ => rfl, fun k h1 h2 => absurd h1 (by simp at h2; omega), fun _ h => .inl h, fun _ h => h, fun b u e _ k => kp b u (fun z => k n hl z.symm) e, there, ⟨fun k zs e => ?_, fun i j hi hj => s.inj i j (by simpa using hi) (by simpa using hj), fun k hk => s.rsv k (by simpa using hk), fun r h => ?_, tabs_upd s.tabs (some_lst hw)⟩⟩
  rotate_left
  · by_cases hb : r = m n
    · rw [hb, upd_same]; trivial
    · rw [upd_ne hb]; exact s.soft r h
  by_cases hk : k = n
  · subst hk
    rw [List.getElem?_set_self hl] at e
    cases e
    exact ⟨vs, upd_same, RepVs.stay sy _ _ h⟩
  · rw [List.getElem?_set_ne (Ne.symm hk)] at e
    have hkl := lt_of_get e
    obtain ⟨us, h1, h2⟩ := s.cells k zs e
    exact ⟨us, kp _ _ (fun z => hk (s.inj k n hkl hl z)) h1, RepVs.stay sy _ _ h2⟩
end

/-- what may change in the course of a loop: also what is reserved -/
structure ExtW (B : Bx) (m : Mp) (Rv : Rsv) (S : Sto) (H : Hp) (m' : Mp) (Rv' : Rsv) (S' : Sto) (H' : Hp) : Prop where
  len : S.length ≤ S'.length
  same : ∀ n, n < S.length → m' n = m n
  rsv : ∀ r, Rv' r → Rv r ∨ Free (H r)
  rsv' : ∀ r, Rv r → Rv' r
  keep : ∀ b o, H b = some o → (∀ ps, o ≠ .tbl ps) → ¬ Rv b → H' b = some o
  stays : ∀ b, ¬ Free (H b) → ¬ Free (H' b)
  st : St B m' Rv' S' H'
section
variable {B : Bx} {m m' m'' : Mp} {Rv Rv' Rv'' : Rsv} {S S' S'' : Sto} {H H' H'' : Hp}
theorem Ext.w (e : Ext B m Rv S H m' Rv' S' H') (s : St B m Rv S H) : ExtW B m Rv S H m' Rv' S' H' := ⟨e.len, e.same, e.rsv, e.rsv', fun b o h nt hb => e.keep b o h nt (s.nrs hb), e.stays, e.st⟩
theorem ExtW.stay (e : ExtW B m Rv S H m' Rv' S' H') (s : St B m Rv S H) : Stay m Rv S.length H m' Rv' S'.length H' :=
  ⟨e.len, e.same, e.rsv, fun b vs h => e.keep b _ h (fun _ z => nomatch z) fun z => by have := s.soft b z; rw [h] at this; exact this, fun b o u h => e.keep b _ h (fun _ z => nomatch z) fun z => by have := s.soft b z; rw [h] at this; exact this, fun b vs h hr => e.keep b _ h (fun _ z => nomatch z) hr, fun b gs h => e.keep b _ h (fun _ z => nomatch z) fun z => by have := s.soft b z; rw [h] at this; exact this⟩
theorem ExtW.trans (a : ExtW B m Rv S H m' Rv' S' H') (b : ExtW B m' Rv' S' H' m'' Rv'' S'' H'') : ExtW B m Rv S H m'' Rv'' S'' H'' where
  len := Nat.le_trans a.len b.len
  same := fun n h => (b.same n (Nat.lt_of_lt_of_le h a.len)).trans (a.same n h)
  rsv := fun r h => by
    rcases b.rsv r h with z | z
    · exact a.rsv r z
    · exact .inr (Classical.byContradiction fun e => absurd z (a.stays _ e))
  rsv' := fun r h => b.rsv' r (a.rsv' r h)
  keep := fun b' o h nt k => by
    refine b.keep b' o (a.keep b' o h nt k) nt fun z => ?_
    rcases a.rsv b' z with q | q
    · exact k q
    · exact notFree h nt q
  stays := fun b' h => b.stays b' (a.stays b' h)
  st := b.st
/-- a reserved list that is no cell is written -/
theorem ExtW.poke {D : Addr} {xs ys : List V} (s : St B m Rv S H) (hr : Rv D) (hm : ∀ n, n < S.length → m n ≠ D) (hd : H D = some (.lst xs)) : ExtW B m Rv S H m Rv S (upd H D (.lst ys)) := by
  have kp : ∀ b u, b ≠ D → H b = some u → upd H D (.lst ys) b = some u := fun b u hb e => by rw [upd_ne hb]; exact e
  have sy : Stay m Rv S.length H m Rv S.length (upd H D (.lst ys)) :=
    ⟨Nat.le_refl _, fun _ _ => rfl, fun _ h => .inl h, fun b us q => kp b _ (fun z => by rw [z, hd] at q; cases q) q, fun b o u q => kp b _ (fun z => by rw [z, hd] at q; cases q) q, fun b us q hb => kp b _ (fun z => hb (z ▸ hr)) q, fun b us q => kp b _ (fun z => by rw [z, hd] at q; cases q) q⟩
  refine ⟨Nat.le_refl _, fun _ _ => rfl, fun _ h => .inl h, fun _ h => h, fun b u q _ k => kp b u (fun z => k (z ▸ hr)) q, fun b q => ?_, ⟨fun n us q => ?_, s.inj, s.rsv, fun r q => ?_, tabs_upd s.tabs (some_lst hd)⟩⟩
  · by_cases hb : b = D
    · rw [hb, upd_same]; exact Free.lst
    · rw [upd_ne hb]; exact q
  · obtain ⟨vs, h1, h2⟩ := s.cells n us q
    exact ⟨vs, kp _ _ (hm n (lt_of_get q)) h1, RepVs.stay sy _ _ h2⟩
  · by_cases hb : r = D
    · rw [hb, upd_same]; trivial
    · rw [upd_ne hb]; exact s.soft r q
end

/-! ### environments -/
def RepE (B : Bx) (m : Mp) (Rv : Rsv) (N : Nat) (H : Hp) (ρ : Env) (σ : L2.St) : Prop :=
  ρ.length = σ.length ∧ ∀ (i : Nat) (x : PV), ρ[i]? = some (some x) → ∃ v, σ[i]? = some (some v) ∧ RepV B m Rv N H x v
section
variable {B : Bx} {m m' m'' : Mp} {Rv Rv' Rv'' : Rsv} {S S' S'' : Sto} {H H' H'' : Hp} {ρ ρ' : Env} {σ σ' : L2.St}
theorem RepE.stay {N N' : Nat} (h : RepE B m Rv N H ρ σ) (k : Stay m Rv N H m' Rv' N' H') : RepE B m' Rv' N' H' ρ σ :=
  ⟨h.1, fun i x e => let ⟨v, h1, h2⟩ := h.2 i x e; ⟨v, h1, RepV.stay k _ _ h2⟩⟩
theorem RepE.set {N : Nat} (h : RepE B m Rv N H ρ σ) (i : Nat) {x : PV} {v : V} (hx : RepV B m Rv N H x v) : RepE B m Rv N H (ρ.set i (some x)) (σ.set i (some v)) := by
  refine ⟨by simp [h.1], fun j y e => ?_⟩
  by_cases hj : i = j
  · subst hj
    have hl := lt_of_get e
    rw [List.length_set] at hl
    rw [List.getElem?_set_self hl] at e
    cases e
    exact ⟨v, by rw [List.getElem?_set_self (by rw [← h.1]; exact hl)], hx⟩
  · rw [List.getElem?_set_ne hj] at e
    obtain ⟨w, h1, h2⟩ := h.2 j y e
    exact ⟨w, by rw [List.getElem?_set_ne hj]; exact h1, h2⟩
theorem RepE.wipe {N : Nat} (h : RepE B m Rv N H ρ σ) : ∀ vs : List Nat, RepE B m Rv N H (Fx.wipe ρ vs) (L2.wipe σ vs)
  | [] => h
  | v :: vs => by
    have ih := RepE.wipe h vs
    show RepE B m Rv N H ((Fx.wipe ρ vs).set v none) ((L2.wipe σ vs).set v none)
    refine ⟨by simp [ih.1], fun j y e => ?_⟩
    by_cases hj : v = j
    · subst hj
      have hl := lt_of_get e
      rw [List.length_set] at hl
      rw [List.getElem?_set_self hl] at e
      cases e
    · rw [List.getElem?_set_ne hj] at e
      obtain ⟨w, h1, h2⟩ := ih.2 j y e
      exact ⟨w, by rw [List.getElem?_set_ne hj]; exact h1, h2⟩
end

/-! ### what is wished behind a run -/
def ExcRep (B : Bx) (m : Mp) (Rv : Rsv) (N : Nat) (H : Hp) (x : PX) (c : Value) (d : Option Addr) : Prop :=
  (∃ a, B.fa x.cls = some a ∧ c = .ref a) ∧ match x.fs with
    | none => d = none
    | some fs => ∃ dd gs, d = some dd ∧ H dd = some (.xd gs) ∧ ∀ f y, fs.lookup f = some y → ∃ v, gs.lookup f = some v ∧ RepV B m Rv N H y v
abbrev WXs := Value → Option Addr → Hp → Prop
def Post {α : Type} (B : Bx) (W : WXs) (m : Mp) (Rv : Rsv) (S : Sto) (H : Hp) (r : R α) (K : α → Mp → Rsv → Sto → Hp → Prop) : Prop := match r with
  | .ok a S' => ∀ m' Rv' H', Ext B m Rv S H m' Rv' S' H' → K a m' Rv' S' H'
  | .exc x S' => ∀ m' Rv' H' c d, Ext B m Rv S H m' Rv' S' H' → ExcRep B m' Rv' S'.length H' x c d → W c d H'
  | .no => False
section
variable {α β : Type} {B : Bx} {W : WXs} {m m' m'' : Mp} {Rv Rv' Rv'' : Rsv} {S S' S'' : Sto} {H H' H'' : Hp}
theorem Post.mono {r : R α} {K K' : α → Mp → Rsv → Sto → Hp → Prop} (h : Post B W m Rv S H r K) (hk : ∀ a m' Rv' S' H', r = .ok a S' → Ext B m Rv S H m' Rv' S' H' → K a m' Rv' S' H' → K' a m' Rv' S' H') : Post B W m Rv S H r K' := by
  cases r with
  | ok a S' => exact fun m' Rv' H' e => hk a m' Rv' S' H' rfl e (h m' Rv' H' e)
  | exc x S' => exact h
  | no => exact h
/-- behind an extension -/
theorem Post.ext {r : R α} {K : α → Mp → Rsv → Sto → Hp → Prop} (s : St B m Rv S H) (e : Ext B m Rv S H m' Rv' S' H') (h : Post B W m Rv S H r K) : Post B W m' Rv' S' H' r K := by
  cases r with
  | ok a S' => exact fun m2 Rv2 H2 e2 => h m2 Rv2 H2 (e.trans s e2)
  | exc x S' => exact fun m2 Rv2 H2 c d e2 q => h m2 Rv2 H2 c d (e.trans s e2) q
  | no => exact h
theorem Post.bind {r : R α} {f : α → Sto → R β} {K : β → Mp → Rsv → Sto → Hp → Prop} (s : St B m Rv S H) (h : Post B W m Rv S H (r.bind f) K) :
    Post B W m Rv S H r fun a m1 Rv1 S1 H1 => Post B W m1 Rv1 S1 H1 (f a S1) K := by
  cases r with
  | ok a S1 => exact fun m1 Rv1 H1 e => Post.ext s e (show Post B W m Rv S H (f a S1) K from h)
  | exc x S1 => exact h
  | no => exact h
theorem Post.ok {a : α} {K : α → Mp → Rsv → Sto → Hp → Prop} (s : St B m Rv S H) (h : Post B W m Rv S H (.ok a S) K) : K a m Rv S H := h m Rv H (Ext.refl s)
end
end Fx

/-! Fx3: judgements: an expression (test, list of arguments, block) of the text has the meaning f. -/
namespace Fx
open PySem PySem.Spec PyProof.Rows L2

def tK {α : Type} (B : Bx) (W : WX) (f : Env → Sto → R α) (σ : L2.St) (H : Hp) (K : α → Mp → Rsv → Sto → Hp → Prop) : Prop :=
  ∃ ρ S m Rv, RepE B m Rv S.length H ρ σ ∧ Fx.St B m Rv S H ∧ Post B (fun c d H' => W c d σ H') m Rv S H (f ρ S) K
def tJ (B : Bx) (W : WX) (f : EF) : TE := fun σ H Q => tK B W f σ H fun v m' Rv' S' H' => ∀ x, RepV B m' Rv' S'.length H' v x → Q x H'
def tJT (B : Bx) (W : WX) (f : TF) : TT := fun σ H Q => tK B W f σ H fun b _ _ _ H' => Q b H'
def tJA (B : Bx) (W : WX) (f : AF) : TA := fun σ H Q => tK B W f σ H fun vs m' Rv' S' H' => ∀ xs, RepVs B m' Rv' S'.length H' vs xs → Q xs H'
/-- a new list: nothing else leads to it -/
def KF (B : Bx) (Rv : Rsv) (H : Hp) (Q : VK) : PV → Mp → Rsv → Sto → Hp → Prop := fun v m' Rv' S' H' =>
  ∀ p vs xs, v = .lst xs → Rv' p → (∀ n, n < S'.length → m' n ≠ p) → Free (H p) → H' p = some (.lst vs) → RepVs B m' Rv' S'.length H' xs vs → Q (.ref p) H'
/-- f tells a new list -/
def tJF (B : Bx) (W : WX) (f : EF) : TE := fun σ H Q => ∃ ρ S m Rv, RepE B m Rv S.length H ρ σ ∧ Fx.St B m Rv S H ∧
  Post B (fun c d H' => W c d σ H') m Rv S H (f ρ S) (KF B Rv H Q)

structure JE (B : Bx) (W : WX) (X : Cx) (e : Expr) (f : EF) : Prop where
  pe : PE X e (tJ B W f)
structure JT (B : Bx) (W : WX) (X : Cx) (e : Expr) (f : TF) : Prop where
  pt : PT X e (tJT B W f)
structure JA (B : Bx) (W : WX) (X : Cx) (es : List Expr) (f : AF) : Prop where
  pa : PA X es (tJA B W f)
structure JF (B : Bx) (W : WX) (X : Cx) (e : Expr) (f : EF) : Prop where
  pe : PE X e (tJF B W f)

theorem PE.imp' {X : Cx} {e : Expr} {t t' : TE} (h : PE X e t) (k : ∀ σ H Q, t' σ H Q → t σ H Q) : PE X e t' := ⟨fun pins s σ H Q I q => h.run pins s σ H Q I (k σ H Q q)⟩
theorem PT.imp' {X : Cx} {e : Expr} {t t' : TT} (h : PT X e t) (k : ∀ σ H Q, t' σ H Q → t σ H Q) : PT X e t' := ⟨fun pins s σ H Q I q => h.run pins s σ H Q I (k σ H Q q)⟩
theorem PW.imp' {X : Cx} {e : Expr} {t t' : TT} (h : PW X e t) (k : ∀ σ H Q, t' σ H Q → t σ H Q) : PW X e t' := ⟨fun wh pins s σ H Q I q => h.run wh pins s σ H Q I (k σ H Q q)⟩
theorem PA.imp' {X : Cx} {e : List Expr} {t t' : TA} (h : PA X e t) (k : ∀ σ H Q, t' σ H Q → t σ H Q) : PA X e t' := ⟨fun p pins s σ H Q I q => h.run p pins s σ H Q I (k σ H Q q)⟩
theorem PS.imp' {X : Cx} {e : Stmt} {t t' : TS} (h : PS X e t) (k : ∀ D σ H, t' D σ H → t D σ H) : PS X e t' := ⟨fun pins s σ H Q I q => h.run pins s σ H Q I (k Q σ H q)⟩
theorem PSs.imp' {X : Cx} {e : List Stmt} {t t' : TS} (h : PSs X e t) (k : ∀ D σ H, t' D σ H → t D σ H) : PSs X e t' := ⟨fun pins s σ H Q I q => h.run pins s σ H Q I (k Q σ H q)⟩
theorem PG.imp' {X : Cx} {e : Expr} {t t' : TG} (h : PG X e t) (k : ∀ v σ H Q, t' v σ H Q → t v σ H Q) : PG X e t' := ⟨fun pins s σ H v u Q I r q => h.run pins s σ H v u Q I r (k v σ H Q q)⟩
theorem PGs.imp' {X : Cx} {e : List Expr} {t t' : TGs} (h : PGs X e t) (k : ∀ v σ H Q, t' v σ H Q → t v σ H Q) : PGs X e t' := ⟨fun pins s σ H v u Q I r q => h.run pins s σ H v u Q I r (k v σ H Q q)⟩

section
variable {B : Bx} {W : WX} {X : Cx} {a b c : Expr} {f g h : EF} {pos : Pos}

/-- run the first part; the rest is asked behind it, at the state as it is then -/
theorem tK.step {α β : Type} {f : Env → Sto → R α} {k : α → Env → Sto → R β} {σ : L2.St} {H : Hp} {K : β → Mp → Rsv → Sto → Hp → Prop} {K' : α → Mp → Rsv → Sto → Hp → Prop}
    (h : tK B W (fun ρ S => (f ρ S).bind fun x S1 => k x ρ S1) σ H K) (hk : ∀ x m1 Rv1 S1 H1 ρ, RepE B m1 Rv1 S1.length H1 ρ σ → Fx.St B m1 Rv1 S1 H1 → Post B (fun c d H' => W c d σ H') m1 Rv1 S1 H1 (k x ρ S1) K → K' x m1 Rv1 S1 H1) :
    tK B W f σ H K' := by
  obtain ⟨ρ, S, m, Rv, he, hs, hp⟩ := h
  exact ⟨ρ, S, m, Rv, he, hs, (Post.bind hs hp).mono fun x m1 Rv1 S1 H1 _ e p => hk x m1 Rv1 S1 H1 ρ (he.stay (e.stay hs)) e.st p⟩

theorem je_lit_int {i : Int} {j} : JE B W X (.Constant (.int i) j pos) (cLit (.int i)) :=
  ⟨PE.imp' pe_int fun σ H Q ⟨ρ, S, m, Rv, he, hs, hp⟩ => Post.ok hs hp _ (by unfold RepV; rfl)⟩
theorem je_lit_bl {i : Bool} {j} : JE B W X (.Constant (.bool i) j pos) (cLit (.bl i)) :=
  ⟨PE.imp' pe_bl fun σ H Q ⟨ρ, S, m, Rv, he, hs, hp⟩ => Post.ok hs hp _ (by unfold RepV; rfl)⟩
theorem je_lit_non {j} : JE B W X (.Constant .none j pos) (cLit .non) :=
  ⟨PE.imp' pe_non fun σ H Q ⟨ρ, S, m, Rv, he, hs, hp⟩ => Post.ok hs hp _ (by unfold RepV; rfl)⟩
theorem je_lit_str {x : Str} {j} : JE B W X (.Constant (.str x) j pos) (cLit (.str x)) :=
  ⟨PE.imp' pe_str fun σ H Q ⟨ρ, S, m, Rv, he, hs, hp⟩ => Post.ok hs hp _ (by unfold RepV; rfl)⟩
theorem je_var {i : Nat} {x : Str} (hN : X.N[i]? = some x) (hv : Vis X.env.scope x) (hd : (x == ("__debug__" : Str)) = false) (hcd : (x == ("__classdict__" : Str)) = false) : JE B W X (.Name x pos) (cVar i) := by
  refine ⟨PE.imp' (pe_var hN hv hd hcd) fun σ H Q ⟨ρ, S, m, Rv, he, hs, hp⟩ => ?_⟩
  unfold cVar at hp
  split at hp
  · rename_i v e
    obtain ⟨w, h1, h2⟩ := he.2 i v e
    exact ⟨w, h1, Post.ok hs hp _ h2⟩
  · exact hp.elim
/-- a module's constant, a def or a class as a value -/
theorem je_glob {x : Str} {p : PV} {v : V} {u : Value} (hg : Gl X x) (hm : X.mg x = some u) (r : RelV v u) (hp : ∀ m Rv N H, RepV B m Rv N H p v) (hd : (x == ("__debug__" : Str)) = false) : JE B W X (.Name x pos) (cLit p) :=
  ⟨PE.imp' (pe_glob hg hm r hd) fun σ H Q ⟨ρ, S, m, Rv, he, hs, hq⟩ => Post.ok hs hq _ (hp _ _ _ _)⟩

/-! ### operators -/
def PO (B : Bx) (m : Mp) (Rv : Rsv) (S : Sto) (H : Hp) (o : Option PV) (Q : VK) : Prop := match o with
  | some v => ∀ m' Rv' H' z, Ext B m Rv S H m' Rv' S H' → RepV B m' Rv' S.length H' v z → Q z H'
  | none => False
def rO2 (B : Bx) (g : PV → PV → Sto → Option PV) : R2 := fun x y H Q => ∃ m Rv S p q, Fx.St B m Rv S H ∧ RepV B m Rv S.length H p x ∧ RepV B m Rv S.length H q y ∧ PO B m Rv S H (g p q S) Q
def rO1 (B : Bx) (g : PV → Sto → Option PV) : V → Hp → VK → Prop := fun x H Q => ∃ m Rv S p, Fx.St B m Rv S H ∧ RepV B m Rv S.length H p x ∧ PO B m Rv S H (g p S) Q
theorem PO.of {W : WXs} {m : Mp} {Rv : Rsv} {S : Sto} {H : Hp} {o : Option PV} {Q : VK} (h : Post B W m Rv S H (ofO o S) fun v m' Rv' S' H' => ∀ x, RepV B m' Rv' S'.length H' v x → Q x H') : PO B m Rv S H o Q := by
  cases o with
  | none => exact h.elim
  | some v => exact fun m' Rv' H' z e r => h m' Rv' H' e z r
theorem PO.same {m : Mp} {Rv : Rsv} {S : Sto} {H : Hp} {v : PV} {z : V} {Q : VK} (s : Fx.St B m Rv S H) (h : PO B m Rv S H (some v) Q) (r : RepV B m Rv S.length H v z) : Q z H := h m Rv H z (Ext.refl s) r
theorem je_bin {op : Operator} {o : PV → PV → Sto → Option PV} (ho : OpR X (binaryOp op) (rO2 B o)) (ha : JE B W X a f) (hb : JE B W X b g) : JE B W X (.BinOp a op b pos) (cBin o f g) := by
  refine ⟨PE.imp' (pe_op ho ha.pe hb.pe) fun σ H Q h => ?_⟩
  refine tK.step h fun x m1 Rv1 S1 H1 ρ he hs hp xv rx => ?_
  refine ⟨ρ, S1, m1, Rv1, he, hs, (Post.bind hs hp).mono fun y m2 Rv2 S2 H2 _ e p yv ry => ?_⟩
  exact ⟨m2, Rv2, S2, x, y, e.st, RepV.stay (e.stay hs) _ _ rx, ry, PO.of p⟩
theorem je_un {op : UnaryOp} {o : PV → Sto → Option PV} (ho : UnR X (unaryOp op) (rO1 B o)) (ha : JE B W X a f) : JE B W X (.UnaryOp op a pos) (cUn o f) := by
  refine ⟨PE.imp' (pe_un ho ha.pe) fun σ H Q h => ?_⟩
  refine tK.step h fun x m1 Rv1 S1 H1 ρ he hs hp xv rx => ?_
  exact ⟨m1, Rv1, S1, x, hs, rx, PO.of hp⟩
theorem je_cmp {op : CmpOp} {o : PV → PV → Sto → Option PV} (ho : OpR X (compareOp op) (rO2 B o)) (ha : JE B W X a f) (hb : JE B W X b g) (hm : behindInMarks op b = false) : JE B W X (.Compare a [op] [b] pos) (cBin o f g) := by
  refine ⟨PE.imp' (pe_cmpR ho ha.pe hb.pe hm) fun σ H Q h => ?_⟩
  refine tK.step h fun x m1 Rv1 S1 H1 ρ he hs hp xv rx => ?_
  refine ⟨ρ, S1, m1, Rv1, he, hs, (Post.bind hs hp).mono fun y m2 Rv2 S2 H2 _ e p yv ry => ?_⟩
  exact ⟨m2, Rv2, S2, x, y, e.st, RepV.stay (e.stay hs) _ _ rx, ry, PO.of p⟩
theorem repV_bl {m : Mp} {Rv : Rsv} {N : Nat} {H : Hp} {b : Bool} {x : V} (h : RepV B m Rv N H (.bl b) x) : x = .bl b := by unfold RepV at h; exact h
theorem repV_int {m : Mp} {Rv : Rsv} {N : Nat} {H : Hp} {b : Int} {x : V} (h : RepV B m Rv N H (.int b) x) : x = .int b := by unfold RepV at h; exact h
theorem repV_str {m : Mp} {Rv : Rsv} {N : Nat} {H : Hp} {b : Str} {x : V} (h : RepV B m Rv N H (.str b) x) : x = .str b := by unfold RepV at h; exact h
theorem repV_non {m : Mp} {Rv : Rsv} {N : Nat} {H : Hp} {x : V} (h : RepV B m Rv N H .non x) : x = .non := by unfold RepV at h; exact h
theorem repV_bl' {m : Mp} {Rv : Rsv} {N : Nat} {H : Hp} {b : Bool} : RepV B m Rv N H (.bl b) (.bl b) := by unfold RepV; rfl
theorem repV_int' {m : Mp} {Rv : Rsv} {N : Nat} {H : Hp} {b : Int} : RepV B m Rv N H (.int b) (.int b) := by unfold RepV; rfl
theorem repV_non' {m : Mp} {Rv : Rsv} {N : Nat} {H : Hp} : RepV B m Rv N H .non .non := by unfold RepV; rfl
theorem je_and {rest : List Expr} (ha : JE B W X a f) (hb : JE B W X (.BoolOp .And (b :: rest) pos) g) : JE B W X (.BoolOp .And (a :: b :: rest) pos) (cAnd f g) := by
  refine ⟨PE.imp' (pe_and ha.pe hb.pe) fun σ H Q h => ?_⟩
  refine tK.step h fun x m1 Rv1 S1 H1 ρ he hs hp xv rx => ?_
  split at hp
  · exact ⟨true, repV_bl rx, ⟨ρ, S1, m1, Rv1, he, hs, hp⟩⟩
  · exact ⟨false, repV_bl rx, Post.ok hs hp _ repV_bl'⟩
  · exact hp.elim
theorem je_or {rest : List Expr} (ha : JE B W X a f) (hb : JE B W X (.BoolOp .Or (b :: rest) pos) g) : JE B W X (.BoolOp .Or (a :: b :: rest) pos) (cOr f g) := by
  refine ⟨PE.imp' (pe_or ha.pe hb.pe) fun σ H Q h => ?_⟩
  refine tK.step h fun x m1 Rv1 S1 H1 ρ he hs hp xv rx => ?_
  split at hp
  · exact ⟨true, repV_bl rx, Post.ok hs hp _ repV_bl'⟩
  · exact ⟨false, repV_bl rx, ⟨ρ, S1, m1, Rv1, he, hs, hp⟩⟩
  · exact hp.elim
theorem je_one {op : BoolOp} (ha : JE B W X a f) : JE B W X (.BoolOp op [a] pos) f := ⟨pe_one ha.pe⟩
theorem je_not (ha : JE B W X a f) : JE B W X (.UnaryOp .Not a pos) (cNot f) := by
  refine ⟨PE.imp' (pe_not ha.pe) fun σ H Q h => ?_⟩
  refine tK.step h fun x m1 Rv1 S1 H1 ρ he hs hp xv rx => ?_
  split at hp
  · exact ⟨_, repV_bl rx, Post.ok hs hp _ repV_bl'⟩
  · exact hp.elim
theorem je_ite {t : TF} (hc : JT B W X c t) (ha : JE B W X a f) (hb : JE B W X b g) : JE B W X (.IfExp c a b pos) (cIte t f g) := by
  refine ⟨PE.imp' (pe_ifExp hc.pt ha.pe hb.pe) fun σ H Q h => ?_⟩
  refine tK.step h fun x m1 Rv1 S1 H1 ρ he hs hp => ?_
  cases x with
  | true => exact ⟨ρ, S1, m1, Rv1, he, hs, hp⟩
  | false => exact ⟨ρ, S1, m1, Rv1, he, hs, hp⟩
theorem chain_imp {o o' : PV → PV → Sto → Option PV} {ta tb tc : TE} {σ : L2.St} {H : Hp} {Q : VK} (q : tJ B W (cChain o o' f g h) σ H Q) : tChain (rO2 B o) (rO2 B o') (tJ B W f) (tJ B W g) (tJ B W h) σ H Q := by
  refine tK.step q fun x m1 Rv1 S1 H1 ρ he hs hp xv rx => ?_
  refine ⟨ρ, S1, m1, Rv1, he, hs, (Post.bind hs hp).mono fun y m2 Rv2 S2 H2 _ e p yv ry => ?_⟩
  refine ⟨m2, Rv2, S2, x, y, e.st, RepV.stay (e.stay hs) _ _ rx, ry, ?_⟩
  split at p
  · rename_i e3
    rw [e3]
    intro m3 Rv3 H3 z e4 rz
    have := repV_bl rz
    subst this
    refine ⟨true, rfl, ?_⟩
    rw [if_pos rfl]
    have p2 := Post.ext e.st e4 p
    refine ⟨ρ, S2, m3, Rv3, (he.stay (e.stay hs)).stay (e4.stay e.st), e4.st, (Post.bind e4.st p2).mono fun w m5 Rv5 S5 H5 _ e5 p5 wv rw5 => ?_⟩
    exact ⟨m5, Rv5, S5, y, w, e5.st, RepV.stay (e5.stay e4.st) _ _ (RepV.stay (e4.stay e.st) _ _ ry), rw5, PO.of p5⟩
  · rename_i e3
    rw [e3]
    intro m3 Rv3 H3 z e4 rz
    have := repV_bl rz
    subst this
    refine ⟨false, rfl, ?_⟩
    rw [if_neg Bool.false_ne_true]
    exact (Post.ext e.st e4 p) m3 Rv3 H3 (Ext.refl e4.st) _ repV_bl'
  · exact p.elim

theorem je_chain {op op' : CmpOp} {o o' : PV → PV → Sto → Option PV} (ho : OpR X (compareOp op) (rO2 B o)) (ho' : OpR X (compareOp op') (rO2 B o')) (ha : JE B W X a f) (hb : JE B W X b g) (hc : JE B W X c h)
    (h1 : lastMarks [op, op'] [b, c] = false) : JE B W X (.Compare a [op, op'] [b, c] pos) (cChain o o' f g h) :=
  ⟨PE.imp' (pe_chain ho ho' ha.pe hb.pe hc.pe h1) fun σ H Q q => chain_imp (ta := tJ B W f) (tb := tJ B W f) (tc := tJ B W f) q⟩

/-! ### argument lists, displays -/
theorem ja_nil : JA B W X [] aNil := ⟨PA.imp' pa_nil fun σ H Q ⟨ρ, S, m, Rv, he, hs, hp⟩ => Post.ok hs hp _ RepVs.nil⟩
theorem ja_cons {es : List Expr} {k : AF} (ha : JE B W X a f) (hr : JA B W X es k) (hs : starEach (a :: es) X.env = (false, eval a X.env) :: starEach es X.env) : JA B W X (a :: es) (aCons f k) := by
  refine ⟨PA.imp' (pa_cons ha.pe hr.pa hs) fun σ H Q h => ?_⟩
  refine tK.step h fun x m1 Rv1 S1 H1 ρ he hs hp xv rx => ?_
  refine ⟨ρ, S1, m1, Rv1, he, hs, (Post.bind hs hp).mono fun ys m2 Rv2 S2 H2 _ e p yv ry => ?_⟩
  exact Post.ok e.st p _ (RepVs.cons (RepV.stay (e.stay hs) _ _ rx) ry)
theorem lenOk_le {n : Nat} (h : lenOk n = true) : n ≤ sizeLine := by
  rw [sizeLine_eq]; exact Nat.le_of_ble_eq_true h
theorem je_tup {es : List Expr} {k : AF} {x1 : Nat} (ha : JA B W X es k) : JE B W X (.Tuple es x1 pos) (cTup k) := by
  refine ⟨PE.imp' (Fx0.pe_tupF ha.pa) fun σ H Q h => ?_⟩
  refine tK.step h fun x m1 Rv1 S1 H1 ρ he hs hp xv rx => ?_
  split at hp
  · rename_i hl
    refine ⟨by rw [← rx.length]; exact lenOk_le hl, fun p o np hd => ?_⟩
    have e := Ext.laid (o := .frz o (.tup xv)) hs np
    refine hp m1 Rv1 _ e _ ?_
    unfold RepV
    exact ⟨p, o, xv, rfl, upd_same, hd, RepVs.stay (e.stay hs) _ _ rx⟩
  · exact hp.elim
theorem jf_lst {es : List Expr} {k : AF} (ha : JA B W X es k) : JF B W X (.List es pos) (cLst k) := by
  refine ⟨PE.imp' (pe_lst ha.pa) fun σ H Q h => ?_⟩
  obtain ⟨ρ, S, m, Rv, he, hs, hp⟩ := h
  refine ⟨ρ, S, m, Rv, he, hs, (Post.bind hs hp).mono fun xs m1 Rv1 S1 H1 _ e p xv rx => ?_⟩
  split at p
  · rename_i hl
    refine ⟨by rw [← rx.length]; exact lenOk_le hl, fun q nq => ?_⟩
    have e2 := Ext.laidR (o := .lst xv) trivial e.st nq
    have nq0 : Free (H q) := Classical.byContradiction fun z => e.stays q z (.of nq)
    exact p m1 _ _ e2 q xv xs rfl (.inr rfl) (fun n hn z => e.st.there _ (e.st.rsv n hn) (z ▸ nq)) nq0 upd_same (RepVs.stay (e2.stay e.st) _ _ rx)
  · exact p.elim
/-- a new list that stays as it is -/
theorem JF.je (h : JF B W X a f) : JE B W X a f := by
  refine ⟨PE.imp' h.pe fun σ H Q ⟨ρ, S, m, Rv, he, hs, hp⟩ => ⟨ρ, S, m, Rv, he, hs, ?_⟩⟩
  cases e1 : f ρ S with
  | ok v S' =>
    rw [e1] at hp
    intro m' Rv' H' e p vs xs ev hr hm h0 hp' rx
    subst ev
    refine hp m' _ H' (Ext.freed hs e hm h0) _ ?_
    unfold RepV
    exact ⟨p, vs, rfl, hp', fun z => z.2 rfl, rx.freed⟩
  | exc x S' => rw [e1] at hp; exact hp
  | no => rw [e1] at hp; exact hp
/-- .. that becomes a cell -/
theorem JF.mu (h : JF B W X a f) : JE B W X a (cMu f) := by
  refine ⟨PE.imp' h.pe fun σ H Q ⟨ρ, S, m, Rv, he, hs, hp⟩ => ⟨ρ, S, m, Rv, he, hs, ?_⟩⟩
  unfold cMu at hp
  cases e1 : f ρ S with
  | ok v S' =>
    rw [e1] at hp
    intro m' Rv' H' e p vs xs ev hr hm h0 hp' rx
    subst ev
    have e2 := Ext.cell_new e hr hm h0 hp' rx
    refine hp _ Rv' H' e2 _ ?_
    unfold RepV
    refine ⟨by simp, ?_⟩
    unfold mAdd
    rw [if_neg (Nat.lt_irrefl _)]
  | exc x S' => rw [e1] at hp; exact hp
  | no => rw [e1] at hp; exact hp

/-! ### tests -/
variable {t u : TF}
theorem jt_val (ha : JE B W X a f) (he : ∀ whole, isTrue a X.env whole = (do let v ← whole; standAt a.pos; holding [v] (truthy v))) : JT B W X a (tVal f) := by
  refine ⟨PT.imp' (pt_val ha.pe he) fun σ H Q h => ?_⟩
  refine tK.step h fun x m1 Rv1 S1 H1 ρ he hs hp xv rx => ?_
  split at hp
  · exact ⟨_, repV_bl rx, Post.ok hs hp⟩
  · exact hp.elim
theorem jt_cmp {op : CmpOp} {o : PV → PV → Sto → Option PV} (ho : OpR X (compareOp op) (rO2 B o)) (ha : JE B W X a f) (hb : JE B W X b g) (hm : behindInMarks op b = false) : JT B W X (.Compare a [op] [b] pos) (tVal (cBin o f g)) := by
  refine ⟨PT.imp' (pt_cmpR ho ha.pe hb.pe hm) fun σ H Q h => ?_⟩
  show tOp _ _ _ σ H _
  have h2 : tJ B W (cBin o f g) σ H fun x H' => ∃ k, x = .bl k ∧ Q k H' := by
    refine tK.step h fun x m1 Rv1 S1 H1 ρ he hs hp xv rx => ?_
    split at hp
    · exact ⟨_, repV_bl rx, Post.ok hs hp⟩
    · exact hp.elim
  refine tK.step h2 fun x m1 Rv1 S1 H1 ρ he hs hp xv rx => ?_
  refine ⟨ρ, S1, m1, Rv1, he, hs, (Post.bind hs hp).mono fun y m2 Rv2 S2 H2 _ e p yv ry => ?_⟩
  exact ⟨m2, Rv2, S2, x, y, e.st, RepV.stay (e.stay hs) _ _ rx, ry, PO.of p⟩
theorem jt_chain {op op' : CmpOp} {o o' : PV → PV → Sto → Option PV} (ho : OpR X (compareOp op) (rO2 B o)) (ho' : OpR X (compareOp op') (rO2 B o')) (ha : JE B W X a f) (hb : JE B W X b g) (hc : JE B W X c h)
    (h1 : lastMarks [op, op'] [b, c] = false) : JT B W X (.Compare a [op, op'] [b, c] pos) (tVal (cChain o o' f g h)) := by
  refine ⟨PT.imp' (pt_chain ho ho' ha.pe hb.pe hc.pe h1) fun σ H Q q => ?_⟩
  refine chain_imp (ta := tJ B W f) (tb := tJ B W f) (tc := tJ B W f) ?_
  refine tK.step q fun x m1 Rv1 S1 H1 ρ he hs hp xv rx => ?_
  split at hp
  · exact ⟨_, repV_bl rx, Post.ok hs hp⟩
  · exact hp.elim
theorem repV_truth {m : Mp} {Rv : Rsv} {S : Sto} {H : Hp} {x : PV} {v : V} {b : Bool} (s : Fx.St B m Rv S H) (r : RepV B m Rv S.length H x v) (h : truth x S = some b) : TruV B.K v H b := by
  cases x with
  | non => rw [repV_non r]; cases h; rfl
  | bl c => rw [repV_bl r]; cases h; rfl
  | int i => rw [repV_int r]; cases h; rfl
  | str x => cases h
  | err c fs => cases h
  | fn g => cases h
  | scr ns => cases h
  | prs ns => cases h
  | ref n =>
    unfold RepV at r
    obtain ⟨hn, rfl⟩ := r
    obtain ⟨xs, vs, h1, h2, h3⟩ := s.cell hn
    unfold truth at h
    simp only [h1] at h
    cases h
    refine .inl ⟨vs, .of h2, ?_⟩
    cases xs with
    | nil => rw [h3.inv0]; rfl
    | cons _ _ => obtain ⟨w, ws, rfl, _⟩ := h3.inv; rfl
  | tup xs =>
    unfold RepV at r
    obtain ⟨p, o, vs, rfl, h2, _, h3⟩ := r
    cases h
    refine .inr (.inl ⟨vs, .inl (.inr ⟨o, h2⟩), ?_⟩)
    cases xs with
    | nil => rw [h3.inv0]; rfl
    | cons _ _ => obtain ⟨w, ws, rfl, _⟩ := h3.inv; rfl
  | lst xs =>
    unfold RepV at r
    obtain ⟨p, vs, rfl, h2, _, h3⟩ := r
    cases h
    refine .inl ⟨vs, .of h2, ?_⟩
    cases xs with
    | nil => rw [h3.inv0]; rfl
    | cons _ _ => obtain ⟨w, ws, rfl, _⟩ := h3.inv; rfl
theorem jt_tru (hK : B.K = X.K) (ha : JE B W X a f) (he : ∀ whole, isTrue a X.env whole = (do let v ← whole; standAt a.pos; holding [v] (truthy v))) : JT B W X a (tTru f) := by
  refine ⟨PT.imp' (pt_truth ha.pe he) fun σ H Q h => ?_⟩
  refine tK.step h fun x m1 Rv1 S1 H1 ρ he hs hp xv rx => ?_
  split at hp
  · rename_i b e
    exact ⟨b, hK ▸ repV_truth hs rx e, Post.ok hs hp⟩
  · exact hp.elim
structure JW (B : Bx) (W : WX) (X : Cx) (e : Expr) (f : TF) : Prop where
  pw : PW X e (tJT B W f)
theorem JW.jt (h : JW B W X a t) : JT B W X a t := ⟨h.pw.pt⟩
theorem jw_and1 (ha : JT B W X a t) : JW B W X (.BoolOp .And [a] pos) t := ⟨pw_and1 ha.pt⟩
theorem jw_or1 (ha : JT B W X a t) : JW B W X (.BoolOp .Or [a] pos) t := ⟨pw_or1 ha.pt⟩
theorem jw_and {rest : List Expr} (ha : JT B W X a t) (hb : JW B W X (.BoolOp .And (b :: rest) pos) u) : JW B W X (.BoolOp .And (a :: b :: rest) pos) (Fx.tAnd t u) := by
  refine ⟨PW.imp' (pw_and ha.pt hb.pw) fun σ H Q h => ?_⟩
  refine tK.step h fun x m1 Rv1 S1 H1 ρ he hs hp => ?_
  cases x with
  | true => exact ⟨ρ, S1, m1, Rv1, he, hs, hp⟩
  | false => exact Post.ok hs hp
theorem jw_or {rest : List Expr} (ha : JT B W X a t) (hb : JW B W X (.BoolOp .Or (b :: rest) pos) u) : JW B W X (.BoolOp .Or (a :: b :: rest) pos) (Fx.tOr t u) := by
  refine ⟨PW.imp' (pw_or ha.pt hb.pw) fun σ H Q h => ?_⟩
  refine tK.step h fun x m1 Rv1 S1 H1 ρ he hs hp => ?_
  cases x with
  | true => exact Post.ok hs hp
  | false => exact ⟨ρ, S1, m1, Rv1, he, hs, hp⟩
theorem jt_not (ha : JT B W X a t) : JT B W X (.UnaryOp .Not a pos) (Fx.tNot t) := by
  refine ⟨PT.imp' (L2.pt_not ha.pt) fun σ H Q h => ?_⟩
  exact tK.step h fun x m1 Rv1 S1 H1 ρ he hs hp => Post.ok hs hp
end
end Fx

/-! Fx4: targets, what is walked, comprehensions, statements. -/
namespace Fx
open PySem PySem.Spec PyProof.Rows L2

def W0 : WX := fun _ _ _ _ => False
abbrev Ws0 : WXs := fun _ _ _ => False

/-! ### targets -/
def SameBut (is : List Nat) (σ σ' : L2.St) : Prop := σ'.length = σ.length ∧ ∀ i : Nat, i ∉ is → σ'[i]? = σ[i]?
theorem SameBut.refl {is : List Nat} {σ : L2.St} : SameBut is σ σ := ⟨rfl, fun _ _ => rfl⟩
theorem SameBut.trans {is js : List Nat} {σ σ' σ'' : L2.St} (a : SameBut is σ σ') (b : SameBut js σ' σ'') : SameBut (is ++ js) σ σ'' :=
  ⟨b.1.trans a.1, fun i h => (b.2 i fun z => h (List.mem_append_right _ z)).trans (a.2 i fun z => h (List.mem_append_left _ z))⟩
theorem SameBut.mono {is js : List Nat} {σ σ' : L2.St} (a : SameBut is σ σ') (h : ∀ i ∈ is, i ∈ js) : SameBut js σ σ' := ⟨a.1, fun i hi => a.2 i fun z => hi (h i z)⟩
theorem SameBut.set {i : Nat} {σ : L2.St} {v : Option V} : SameBut [i] σ (σ.set i v) :=
  ⟨by simp, fun j h => by rw [List.getElem?_set_ne (by intro e; exact h (by simp [e]))]⟩
theorem getElem?_wipe {σ : L2.St} : ∀ {own : List Nat} {i : Nat}, (L2.wipe σ own)[i]? = if i ∈ own ∧ i < σ.length then some none else σ[i]?
  | [], i => by simp [L2.wipe]
  | v :: vs, i => by
    show ((L2.wipe σ vs).set v none)[i]? = _
    by_cases hi : v = i
    · subst hi
      by_cases hl : v < σ.length
      · rw [List.getElem?_set_self (by rw [L2.wipe_length]; exact hl)]
        simp [hl]
      · rw [List.getElem?_eq_none (by rw [List.length_set, L2.wipe_length]; omega)]
        rw [if_neg (by omega), List.getElem?_eq_none (by omega)]
    · rw [List.getElem?_set_ne hi, getElem?_wipe (own := vs)]
      have : (i ∈ v :: vs) ↔ i ∈ vs := by simp [Ne.symm hi]
      simp only [this]
theorem SameBut.wipe {own : List Nat} {σ σ' : L2.St} (h : SameBut own (L2.wipe σ own) σ') : L2.wipe σ' own = L2.wipe σ own := by
  apply List.ext_getElem?
  intro i
  have hl : σ'.length = σ.length := by rw [h.1, L2.wipe_length]
  rw [getElem?_wipe, getElem?_wipe, hl]
  by_cases hi : i ∈ own
  · by_cases hl2 : i < σ.length
    · rw [if_pos ⟨hi, hl2⟩, if_pos ⟨hi, hl2⟩]
    · rw [if_neg (by omega), if_neg (by omega), List.getElem?_eq_none (by omega), List.getElem?_eq_none (by omega)]
  · rw [if_neg (by simp [hi]), if_neg (by simp [hi]), h.2 i hi, getElem?_wipe, if_neg (by simp [hi])]

def tJG (B : Bx) (is : List Nat) (g : GF) : TG := fun v σ H Q => ∃ ρ S m Rv p, RepE B m Rv S.length H ρ σ ∧ Fx.St B m Rv S H ∧ RepV B m Rv S.length H p v ∧
  Post B Ws0 m Rv S H (g p ρ S) fun ρ' m' Rv' S' H' => ∀ σ', RepE B m' Rv' S'.length H' ρ' σ' → SameBut is σ σ' → Q σ' H'
def tJGs (B : Bx) (is : List Nat) (gs : List GF) : TGs := fun vs σ H Q => ∃ ρ S m Rv ps, RepE B m Rv S.length H ρ σ ∧ Fx.St B m Rv S H ∧ RepVs B m Rv S.length H ps vs ∧
  Post B Ws0 m Rv S H (gTupGo gs ps ρ S) fun ρ' m' Rv' S' H' => ∀ σ', RepE B m' Rv' S'.length H' ρ' σ' → SameBut is σ σ' → Q σ' H'
structure JG (B : Bx) (X : Cx) (e : Expr) (is : List Nat) (g : GF) : Prop where
  pg : PG X e (tJG B is g)
structure JGs (B : Bx) (X : Cx) (es : List Expr) (is : List Nat) (gs : List GF) : Prop where
  pgs : PGs X es (tJGs B is gs)

section
variable {B : Bx} {W : WX} {X : Cx} {a b c : Expr} {f g h : EF} {pos : Pos} {is js : List Nat}
theorem jg_var {i : Nat} {x : Str} (hN : X.N.Nodup) (hi : X.N[i]? = some x) (hx : Loc X.env.scope x) (hf : X.fn x = true ∨ X.env.scope.names.lookup x = some .local) : JG B X (.Name x pos) [i] (gVar i) :=
  ⟨PG.imp' (pg_name hN hi hx hf) fun v σ H Q ⟨ρ, S, m, Rv, p, he, hs, hr, hp⟩ => Post.ok hs hp _ (he.set i hr) .set⟩
theorem jgs_nil : JGs B X [] [] [] := by
  refine ⟨PGs.imp' pgs_nil fun vs σ H Q ⟨ρ, S, m, Rv, ps, he, hs, hr, hp⟩ => ?_⟩
  cases ps with
  | nil => exact ⟨hr.inv0, Post.ok hs hp _ he .refl⟩
  | cons _ _ => exact hp.elim
theorem jgs_cons {es : List Expr} {g : GF} {gs : List GF} (h1 : JG B X a is g) (h2 : JGs B X es js gs) (hs : (assignEach (a :: es) X.env).map (·.2) = assign a X.env :: (assignEach es X.env).map (·.2)) : JGs B X (a :: es) (is ++ js) (g :: gs) := by
  refine ⟨PGs.imp' (pgs_cons h1.pg h2.pgs hs) fun vs σ H Q ⟨ρ, S, m, Rv, ps, he, hs, hr, hp⟩ => ?_⟩
  cases ps with
  | nil => exact hp.elim
  | cons p ps =>
    obtain ⟨w, ws, rfl, r1, r2⟩ := hr.inv
    refine ⟨w, ws, rfl, ρ, S, m, Rv, p, he, hs, r1, (Post.bind hs hp).mono fun ρ1 m1 Rv1 S1 H1 _ e q σ1 he1 sb => ?_⟩
    refine ⟨ρ1, S1, m1, Rv1, ps, he1, e.st, RepVs.stay (e.stay hs) _ _ r2, q.mono fun ρ2 m2 Rv2 S2 H2 _ e2 q2 σ2 he2 sb2 => ?_⟩
    exact q2 σ2 he2 (sb.trans sb2)
theorem jg_tup_imp {es : List Expr} {gs : List GF} {v : V} {σ : L2.St} {H : Hp} {Q : L2.St → Hp → Prop} (hl : (assignEach es X.env).length = gs.length) (h : tJG B is (gTup gs) v σ H Q) : L2.gTup X.K (assignEach es X.env).length (tJGs B is gs) v σ H Q := by
  obtain ⟨ρ, S, m, Rv, p, he, hs, hr, hp⟩ := h
  have go : ∀ {ps : List PV} {q : Addr} {vs : List V}, v = .ref q → SqT X.K H q vs → RepVs B m Rv S.length H ps vs → Post B Ws0 m Rv S H (if Nat.beq ps.length gs.length then gTupGo gs ps ρ S else .no) (fun ρ' m' Rv' S' H' => ∀ σ', RepE B m' Rv' S'.length H' ρ' σ' → SameBut is σ σ' → Q σ' H') →
      L2.gTup X.K (assignEach es X.env).length (tJGs B is gs) v σ H Q := fun {ps q vs} ev h1 h2 hp => by
    split at hp
    · rename_i hb
      exact ⟨q, vs, ev, h1, by rw [hl, ← h2.length]; exact Nat.eq_of_beq_eq_true hb, ρ, S, m, Rv, ps, he, hs, h2, hp⟩
    · exact hp.elim
  cases p with
  | tup ps =>
    unfold RepV at hr
    obtain ⟨q, o, vs, ev, h1, _, h2⟩ := hr
    exact go ev (.inl (.inr ⟨o, h1⟩)) h2 hp
  | prs ps =>
    unfold RepV at hr
    obtain ⟨q, vs, ev, h1, h2⟩ := hr
    exact go ev (.of h1) h2 hp
  | _ => exact hp.elim
theorem jg_tup {es : List Expr} {gs : List GF} {k : Nat} (hc : X.calm = true) (hh : JGs B X es is gs) (hst : (assignEach es X.env).findIdx? (·.1) = none) (hl : (assignEach es X.env).length = gs.length) : JG B X (.Tuple es k pos) is (gTup gs) :=
  ⟨PG.imp' (pg_tup hc hh.pgs rfl hst) fun v σ H Q h => jg_tup_imp hl h⟩
/-- o[i] = v, by values -/
def PM (B : Bx) (m : Mp) (Rv : Rsv) (S : Sto) (H : Hp) (o : Option (PV × Sto)) (Q : VK) : Prop := match o with
  | some (v, S') => ∀ m' Rv' H' z, Ext B m Rv S H m' Rv' S' H' → RepV B m' Rv' S'.length H' v z → Q z H'
  | none => False
theorem PM.of {W : WXs} {m : Mp} {Rv : Rsv} {S : Sto} {H : Hp} {o : Option (PV × Sto)} {Q : VK} (h : Post B W m Rv S H (ofM o) fun v m' Rv' S' H' => ∀ x, RepV B m' Rv' S'.length H' v x → Q x H') : PM B m Rv S H o Q := by
  cases o with
  | none => exact h.elim
  | some v => exact fun m' Rv' H' z e r => h m' Rv' H' e z r
def rSet3 (B : Bx) (st : PV → PV → PV → Sto → Option (PV × Sto)) : TSet := fun o i v H Q => ∃ m Rv S po pi pv, Fx.St B m Rv S H ∧ RepV B m Rv S.length H po o ∧ RepV B m Rv S.length H pi i ∧ RepV B m Rv S.length H pv v ∧
  PM B m Rv S H (st po pi pv S) fun _ H' => Q H'
theorem jg_sub {st : PV → PV → PV → Sto → Option (PV × Sto)} (ha : JE B W0 X a f) (hb : JE B W0 X b g) (hs : PSet X (rSet3 B st))
    (hq : ∀ v, assign (.Subscript a b pos) X.env v = (do
      let ov ← holding [v] (eval a X.env)
      let iv ← holding [v, ov] (eval b X.env)
      standAt pos
      holding [v, ov, iv] (setItem ov iv v)
      release [v, ov, iv] [])) : JG B X (.Subscript a b pos) [] (gSub f g st) := by
  refine ⟨PG.imp' (pg_sub ha.pe hb.pe hs hq) fun v σ H Q ⟨ρ, S, m, Rv, p, he, hs, hr, hp⟩ => ?_⟩
  refine ⟨ρ, S, m, Rv, he, hs, (Post.bind hs hp).mono fun o m1 Rv1 S1 H1 _ e q ov ro => ?_⟩
  refine ⟨ρ, S1, m1, Rv1, he.stay (e.stay hs), e.st, (Post.bind e.st q).mono fun i m2 Rv2 S2 H2 _ e2 q2 iv ri => ?_⟩
  refine ⟨m2, Rv2, S2, o, i, p, e2.st, RepV.stay (e2.stay e.st) _ _ ro, ri, RepV.stay (e2.stay e.st) _ _ (RepV.stay (e.stay hs) _ _ hr), ?_⟩
  have he2 := (he.stay (e.stay hs)).stay (e2.stay e.st)
  cases es : st o i p S2 with
  | none => rw [es] at q2; exact q2.elim
  | some vs =>
    obtain ⟨v', S3⟩ := vs
    rw [es] at q2
    intro m3 Rv3 H3 z e3 rz
    exact q2 m3 Rv3 H3 e3 σ (he2.stay (e3.stay e2.st)) .refl

/-! ### what is walked -/
def Src.at (s : Src) (S : Sto) (i : Nat) : Option (Option PV) := match s with
  | .items xs => some xs[i]?
  | .gen n => genAt n S i
def Src.fin (s : Src) (i : Nat) : Prop := match s with
  | .items xs => i = xs.length
  | .gen _ => True
def Src.len (s : Src) : Nat := match s with
  | .items xs => xs.length
  | .gen _ => fuel
/-- the iterator J walks s from here on -/
def Walks (B : Bx) (J : It) (m : Mp) (Rv : Rsv) (S : Sto) (H : Hp) (s : Src) : Prop :=
  ∀ m2 Rv2 S2 H2, ExtW B m Rv S H m2 Rv2 S2 H2 → ∀ i, match s.at S2 i with
    | some (some x) => J.go i H2 ∧ ∀ v H', J.yld i H2 v H' → Ext B m2 Rv2 S2 H2 m2 Rv2 S2 H' ∧ RepV B m2 Rv2 S2.length H' x v
    | some none => s.fin i → J.stop i H2
    | none => True
def tJI (B : Bx) (W : WX) (it : IF) : TI := fun σ H R => tK B W it σ H fun s m' Rv' S' H' => ∀ J, Walks B J m' Rv' S' H' s → R J H'
structure JI (B : Bx) (W : WX) (X : Cx) (tg iter : Expr) (it : IF) : Prop where
  pi : PI X tg iter (tJI B W it)
theorem PI.imp' {X : Cx} {tg e : Expr} {t t' : TI} (h : PI X tg e t) (k : ∀ σ H Q, t' σ H Q → t σ H Q) : PI X tg e t' := ⟨fun pins s σ H Q I q => h.run pins s σ H Q I (k σ H Q q)⟩

/-! ### comprehensions -/
/-- the rest of a comprehension, from turn i on (k: what is left) -/
def compFrom (f : PV → Sto → R (Option PV)) (s : Src) (i k : Nat) (S : Sto) : R (List PV) := match s with
  | .items xs => compGo f (xs.drop i) S
  | .gen n => compCell f n k i S
def Inx (s : Src) (i k : Nat) : Prop := match s with
  | .items xs => i + k = xs.length
  | .gen _ => True
theorem compFrom_step {f : PV → Sto → R (Option PV)} {s : Src} {i k : Nat} {S : Sto} (h : Inx s i k) :
    (∃ x k', k = k' + 1 ∧ Inx s (i + 1) k' ∧ s.at S i = some (some x) ∧ compFrom f s i k S = (f x S).bind fun o S1 => (compFrom f s (i + 1) k' S1).bind fun ys S2 => .ok (consO o ys) S2) ∨
    (s.at S i = some none ∧ s.fin i ∧ compFrom f s i k S = .ok [] S) ∨ compFrom f s i k S = .no := by
  cases s with
  | items xs =>
    have h' : i + k = xs.length := h
    by_cases hi : i < xs.length
    · obtain ⟨k', rfl⟩ : ∃ k', k = k' + 1 := ⟨k - 1, by omega⟩
      refine .inl ⟨xs[i], k', rfl, show i + 1 + k' = xs.length by omega, by simp [Src.at, hi], ?_⟩
      show compGo f (xs.drop i) S = _
      rw [List.drop_eq_getElem_cons hi]
      rfl
    · refine .inr (.inl ⟨by simp [Src.at]; omega, show i = xs.length by omega, ?_⟩)
      show compGo f (xs.drop i) S = _
      rw [List.drop_eq_nil_of_le (by omega)]
      rfl
  | gen n =>
    cases k with
    | zero => exact .inr (.inr rfl)
    | succ k =>
      cases e : genAt n S i with
      | none =>
        refine .inr (.inr ?_)
        show compCell f n (k + 1) i S = _
        unfold compCell
        rw [e]
      | some o =>
        cases o with
        | none =>
          refine .inr (.inl ⟨e, trivial, ?_⟩)
          show compCell f n (k + 1) i S = _
          unfold compCell
          rw [e]
        | some x =>
          refine .inl ⟨x, k, rfl, trivial, e, ?_⟩
          show compCell f n (k + 1) i S = _
          rw [compCell, e]
          rfl
/-- a reserved list that is no cell is written: seen from a heap in which it did not stand -/
theorem Ext.poke {m m' : Mp} {Rv Rv' : Rsv} {S S' : Sto} {H H' : Hp} {D : Addr} {xs ys : List V} (e : Ext B m Rv S H m' Rv' S' H') (hr : Rv' D) (hm : ∀ n, n < S'.length → m' n ≠ D) (h0 : Free (H D)) (hd : H' D = some (.lst xs)) :
    Ext B m Rv S H m' Rv' S' (upd H' D (.lst ys)) ∧ Stay m' Rv' S'.length H' m' Rv' S'.length (upd H' D (.lst ys)) := by
  have kp : ∀ b u, b ≠ D → H' b = some u → upd H' D (.lst ys) b = some u := fun b u hb e => by rw [upd_ne hb]; exact e
  have there : ∀ b, ¬ Free (H' b) → ¬ Free (upd H' D (.lst ys) b) := fun b h => by
    by_cases hb : b = D
    · rw [hb, upd_same]; exact Free.lst
    · rw [upd_ne hb]; exact h
  have sy : Stay m' Rv' S'.length H' m' Rv' S'.length (upd H' D (.lst ys)) :=
    ⟨Nat.le_refl _, fun _ _ => rfl, fun _ h => .inl h, fun b us q => kp b _ (fun z => by rw [z, hd] at q; cases q) q, fun b o u q => kp b _ (fun z => by rw [z, hd] at q; cases q) q, fun b us q hb => kp b _ (fun z => hb (z ▸ hr)) q, fun b us q => kp b _ (fun z => by rw [z, hd] at q; cases q) q⟩
  refine ⟨⟨e.len, e.same, e.new, e.rsv, e.rsv', fun b u q nt k => kp b u (fun z => notFree q nt (z ▸ h0)) (e.keep b u q nt k), fun b q => there b (e.stays b q), ⟨fun n us q => ?_, e.st.inj, e.st.rsv, fun r q => ?_, tabs_upd e.st.tabs (some_lst hd)⟩⟩, sy⟩
  · obtain ⟨vs, h1, h2⟩ := e.st.cells n us q
    exact ⟨vs, kp _ _ (hm n (lt_of_get q)) h1, RepVs.stay sy _ _ h2⟩
  · by_cases hb : r = D
    · rw [hb, upd_same]; trivial
    · rw [upd_ne hb]; exact e.st.soft r q
def OkAnd {α : Type} (r : R α) (P : α → Sto → Prop) : Prop := match r with
  | .ok a S => P a S
  | _ => False
theorem Post.of0 {α : Type} {W : WXs} {m : Mp} {Rv : Rsv} {S : Sto} {H : Hp} {r : R α} {P : α → Sto → Prop} (h : OkAnd r P) : Post B W m Rv S H r fun a _ _ S1 _ => P a S1 := by
  cases r with
  | ok a S1 => exact fun _ _ _ _ => h
  | exc x S1 => exact h.elim
  | no => exact h
/-- what holds when all turns are through -/
def Thru {α : Type} (B : Bx) (m : Mp) (Rv : Rsv) (S : Sto) (H : Hp) (r : R α) (P : α → Prop) (K : α → Mp → Rsv → Sto → Hp → Prop) : Prop := match r with
  | .ok a S' => P a ∧ ∀ m' Rv' H', Ext B m Rv S H m' Rv' S' H' → K a m' Rv' S' H'
  | _ => False
theorem Thru.bind {α β : Type} {m : Mp} {Rv : Rsv} {S : Sto} {H : Hp} {r : R α} {k : α → Sto → R β} {P : β → Prop} {K : β → Mp → Rsv → Sto → Hp → Prop} (h : Thru B m Rv S H (r.bind k) P K) : OkAnd r fun a S1 => Thru B m Rv S H (k a S1) P K := by
  cases r with
  | ok a S1 => exact h
  | exc x S1 => exact h
  | no => exact h
def LcT (B : Bx) (m1 : Mp) (Rv1 : Rsv) (S1 : Sto) (H1 : Hp) (D : Addr) (Q : VK) (accP : List PV) (r : R (List PV)) : Prop :=
  Thru B m1 Rv1 S1 H1 r (fun ys => (accP ++ ys).length ≤ 16777216) fun ys m' Rv' S' H' => Rv' D → (∀ n, n < S'.length → m' n ≠ D) → ∀ vs, H' D = some (.lst vs) → RepVs B m' Rv' S'.length H' (accP ++ ys) vs → Q (.ref D) H'
theorem LcT.bind {α : Type} {m1 : Mp} {Rv1 : Rsv} {S1 : Sto} {H1 : Hp} {D : Addr} {Q : VK} {accP : List PV} {r : R α} {k : α → Sto → R (List PV)} (h : LcT B m1 Rv1 S1 H1 D Q accP (r.bind k)) : OkAnd r fun a S' => LcT B m1 Rv1 S1 H1 D Q accP (k a S') := Thru.bind h
theorem lc_imp {own : List Nat} {it : IF} {G : GF} {t : TF} {e : EF} {σ : L2.St} {H : Hp} {Q : VK} (his : ∀ i ∈ is, i ∈ own)
    (h : tJF B W (cComp own it G t e) σ H Q) : tLc (tJI B W it) (tJG B is G) (tJT B W0 t) (tJ B W0 e) own σ H Q := by
  obtain ⟨ρ, S, m, Rv, he, hs, hp⟩ := h
  refine ⟨ρ, S, m, Rv, he, hs, (Post.bind hs hp).mono fun s m1 Rv1 S1 H1 _ e1 p J hJ => ?_⟩
  intro D nD
  have nD0 : Free (H D) := Classical.byContradiction fun z => e1.stays D z (.of nD)
  have he1 := he.stay (e1.stay hs)
  generalize hf : compTurn G t e (Fx.wipe ρ own) = f at p
  -- all turns through
  have thru : Thru B m1 Rv1 S1 H1 (compFrom f s 0 s.len S1) (fun ys => ys.length ≤ 16777216) fun ys m' Rv' S' H' => Rv' D → (∀ n, n < S'.length → m' n ≠ D) → ∀ vs, H' D = some (.lst vs) → RepVs B m' Rv' S'.length H' ys vs → Q (.ref D) H' := by
    have ec : compSrc f s S1 = compFrom f s 0 s.len S1 := by
      cases s with
      | items xs => rfl
      | gen n => rfl
    rw [ec] at p
    cases er : compFrom f s 0 s.len S1 with
    | exc x S2 => rw [er] at p; exact p
    | no => rw [er] at p; exact p
    | ok ys S2 =>
      rw [er] at p
      have p2 : Post B (fun c d H' => W c d σ H') m1 Rv1 S1 H1 (if lenOk ys.length then R.ok (PV.lst ys) S2 else R.no) (KF B Rv H Q) := p
      split at p2
      · rename_i hl
        exact ⟨Nat.le_of_ble_eq_true hl, fun m' Rv' H' e' hr hm vs hd rv => p2 m' Rv' H' e' D vs ys rfl hr hm nD0 hd rv⟩
      · exact p2.elim
  refine ⟨fun i μ H2 => ∃ k m2 Rv2 S2 acc accP, Inx s i k ∧ Ext B m1 Rv1 S1 H1 m2 Rv2 S2 H2 ∧ Rv2 D ∧ (∀ n, n < S2.length → m2 n ≠ D) ∧ H2 D = some (.lst acc) ∧ RepVs B m2 Rv2 S2.length H2 accP acc ∧ μ = k ∧
    LcT B m1 Rv1 S1 H1 D Q accP (compFrom f s i k S2),
    ⟨s.len, s.len, m1, _, S1, [], [], ?_, Ext.laidR trivial e1.st nD, .inr rfl, fun n hn z => e1.st.there _ (e1.st.rsv n hn) (z ▸ nD), upd_same, RepVs.nil, rfl, thru⟩, ?_⟩
  · cases s with
    | items xs => exact Nat.zero_add _
    | gen n => trivial
  rintro i μ H2 ⟨k, m2, Rv2, S2, acc, accP, hin, e2, hr, hm, hd, ra, rfl, hth⟩
  rcases compFrom_step (f := f) (S := S2) hin with ⟨x, k', rfl, hin', hat, hrun⟩ | ⟨hat, hend, hrun⟩ | hrun
  · -- a turn
    have w := hJ m2 Rv2 S2 H2 (e2.w e1.st) i
    rw [hat] at w
    rw [hrun] at hth
    refine .inr ⟨w.1, fun H' => ∃ μ' < k' + 1, ∃ k m2 Rv2 S2 acc accP, Inx s (i + 1) k ∧ Ext B m1 Rv1 S1 H1 m2 Rv2 S2 H' ∧ Rv2 D ∧ (∀ n, n < S2.length → m2 n ≠ D) ∧ H' D = some (.lst acc) ∧ RepVs B m2 Rv2 S2.length H' accP acc ∧ μ' = k ∧
      LcT B m1 Rv1 S1 H1 D Q accP (compFrom f s (i + 1) k S2),
      fun H' ⟨μ', h1, h2⟩ => ⟨μ', h1, h2⟩, fun v H' hy => ?_⟩
    obtain ⟨e3, rx⟩ := w.2 v H' hy
    have he3 : RepE B m2 Rv2 S2.length H' (Fx.wipe ρ own) (L2.wipe σ own) := ((he1.stay (e2.stay e1.st)).stay (e3.stay e2.st)).wipe own
    have t1 : LcT B m1 Rv1 S1 H1 D Q accP ((G x (Fx.wipe ρ own) S2).bind fun ρ1 S1' => ((t ρ1 S1').bind fun b S2' => if b then (e ρ1 S2').bind fun y S3 => .ok (some y) S3 else .ok none S2').bind fun o S1'' => (compFrom f s (i + 1) k' S1'').bind fun ys S2'' => .ok (consO o ys) S2'') := by
      have hfx : f x S2 = (G x (Fx.wipe ρ own) S2).bind fun ρ1 S1' => ((t ρ1 S1').bind fun b S2' => if b then (e ρ1 S2').bind fun y S3 => .ok (some y) S3 else .ok none S2') := by rw [← hf]; rfl
      rw [hfx] at hth
      cases eg : G x (Fx.wipe ρ own) S2 with
      | ok ρ1 S1' => rw [eg] at hth; exact hth
      | exc _ _ => rw [eg] at hth; exact hth
      | no => rw [eg] at hth; exact hth
    refine ⟨_, S2, m2, Rv2, x, he3, e3.st, rx, Post.mono (Post.of0 (LcT.bind t1)) fun ρ1 m4 Rv4 S4 H4 _ e4 t2 σ' he4 sb => ⟨(sb.mono his).wipe, ?_⟩⟩
    have dst : ∀ {m5 Rv5 S5 H5}, Ext B m2 Rv2 S2 H' m5 Rv5 S5 H5 → Rv5 D ∧ (∀ n, n < S5.length → m5 n ≠ D) ∧ H5 D = some (.lst acc) := fun {m5 Rv5 S5 H5} e5 => by
      have hD' : H' D = some (.lst acc) := e3.keep D _ hd (fun _ z => nomatch z) hm
      refine ⟨e5.rsv' D hr, fun n hn z => ?_, e5.keep D _ hD' (fun _ z => nomatch z) hm⟩
      by_cases hn2 : n < S2.length
      · exact hm n hn2 (by rw [← e5.same n hn2]; exact z)
      · have q := e5.new n (by omega) hn
        rw [z, hD'] at q; exact q.lst
    refine ⟨ρ1, S4, m4, Rv4, he4, e4.st, Post.mono (Post.of0 (LcT.bind (B := B) (accP := accP) (D := D) (Q := Q) (m1 := m1) (Rv1 := Rv1) (S1 := S1) (H1 := H1) (r := t ρ1 S4) (k := fun b S2' => (if b then (e ρ1 S2').bind fun y S3 => .ok (some y) S3 else .ok none S2' : R (Option PV)).bind fun o S1'' => (compFrom f s (i + 1) k' S1'').bind fun ys S2'' => .ok (consO o ys) S2'') ?_)) fun b m5 Rv5 S5 H5 _ e5 t3 => ?_⟩
    · cases et : t ρ1 S4 with
      | ok b S5 => rw [et] at t2; exact t2
      | exc _ _ => rw [et] at t2; exact t2
      | no => rw [et] at t2; exact t2
    have e25 := e4.trans e3.st e5
    cases b with
    | false =>
      obtain ⟨r5, hm5, hd5⟩ := dst e25
      have t4 : LcT B m1 Rv1 S1 H1 D Q accP ((compFrom f s (i + 1) k' S5).bind fun ys S2'' => .ok ys S2'') := t3
      dsimp only
      rw [if_neg Bool.false_ne_true]
      refine ⟨k', Nat.lt_succ_self _, k', m5, Rv5, S5, acc, accP, hin', (e2.trans e1.st e3).trans e1.st e25, r5, hm5, hd5, RepVs.stay (e25.stay e3.st) _ _ (RepVs.stay (e3.stay e2.st) _ _ ra), rfl, ?_⟩
      cases er : compFrom f s (i + 1) k' S5 with
      | ok ys S6 => rw [er] at t4; exact t4
      | exc _ _ => rw [er] at t4; exact t4
      | no => rw [er] at t4; exact t4
    | true =>
      dsimp only
      rw [if_pos rfl]
      refine ⟨ρ1, S5, m5, Rv5, he4.stay (e5.stay e4.st), e5.st, Post.mono (Post.of0 (LcT.bind (B := B) (accP := accP) (D := D) (Q := Q) (m1 := m1) (Rv1 := Rv1) (S1 := S1) (H1 := H1) (r := e ρ1 S5) (k := fun y S1'' => (compFrom f s (i + 1) k' S1'').bind fun ys S2'' => .ok (consO (some y) ys) S2'') ?_)) fun y m6 Rv6 S6 H6 _ e6 t4 yv ry => ?_⟩
      · cases et : e ρ1 S5 with
        | ok b S6 =>
          have t3' := t3
          simp only [if_pos, et] at t3'
          exact t3'
        | exc _ _ => simp only [if_pos, et] at t3; exact t3
        | no => simp only [if_pos, et] at t3; exact t3
      have e26 := e25.trans e3.st e6
      obtain ⟨r6, hm6, hd6⟩ := dst e26
      have e16 := (e2.trans e1.st e3).trans e1.st e26
      obtain ⟨e17, sy⟩ := Ext.poke (ys := acc ++ [yv]) e16 r6 hm6 (.of nD) hd6
      have ra6 := RepVs.stay (e26.stay e3.st) _ _ (RepVs.stay (e3.stay e2.st) _ _ ra)
      cases er : compFrom f s (i + 1) k' S6 with
      | ok ys S7 =>
        rw [er] at t4
        have hlen : acc.length < sizeLine := by
          have q1 : (accP ++ y :: ys).length ≤ 16777216 := t4.1
          have q2 := ra.length
          rw [List.length_append, List.length_cons] at q1
          rw [sizeLine_eq]
          omega
        refine ⟨acc, hd6, hlen, k', Nat.lt_succ_self _, k', m6, Rv6, S6, acc ++ [yv], accP ++ [y], hin', e17, r6, hm6, upd_same, RepVs.stay sy _ _ (ra6.append (.cons ry .nil)), rfl, ?_⟩
        rw [er]
        refine ⟨?_, fun m' Rv' H'' e' h1 h2 vs h3 h4 => ?_⟩
        · show (accP ++ [y] ++ ys).length ≤ 16777216
          rw [List.append_assoc]; exact t4.1
        · rw [List.append_assoc] at h4
          exact t4.2 m' Rv' H'' e' h1 h2 vs h3 h4
      | exc _ _ => rw [er] at t4; exact (show False from t4).elim
      | no => rw [er] at t4; exact (show False from t4).elim
  · -- the end
    have w := hJ m2 Rv2 S2 H2 (e2.w e1.st) i
    rw [hat] at w
    rw [hrun] at hth
    refine .inl ⟨w hend, ?_⟩
    exact hth.2 m2 Rv2 H2 e2 hr hm acc hd (by rw [List.append_nil]; exact ra)
  · rw [hrun] at hth
    exact hth.elim

/-- [elt for tg in iter if ..] -/
theorem jf_comp {elt tg iter : Expr} {ifs : List Expr} {scope : Scope} {own : List (Str × Nat)} {it : IF} {G : GF} {t : TF} {e : EF} (hc : X.calm = true) (hN : X.N.Nodup) (hi : JI B W X tg iter it) (ok : BlkOk X.N X.env.scope scope own) (his : ∀ i ∈ is, i ∈ own.map (·.2))
    (hg : ∀ s H C cl fp, JG B (X.blk s H scope (compEnvC scope cl C X.env) fp) tg is G) (ht : ∀ s H C cl fp, PTs (X.blk s H scope (compEnvC scope cl C X.env) fp) ifs (tJT B W0 t))
    (he : ∀ s H C cl fp, JE B W0 (X.blk s H scope (compEnvC scope cl C X.env) fp) elt e) (hs : ∀ x, foldedSetIterable iter X.env x = pure x) :
    JF B W X (.ListComp elt [⟨tg, iter, ifs, 0⟩] scope pos) (cComp (own.map (·.2)) it G t e) :=
  ⟨PE.imp' (pe_lc hc hN hi.pi ok (fun s H C cl fp => (hg s H C cl fp).pg) ht (fun s H C cl fp => (he s H C cl fp).pe) hs) fun σ H Q h => lc_imp his h⟩

/-! ### statements -/
def PostF (B : Bx) (W : WX) (m : Mp) (Rv : Rsv) (S : Sto) (H : Hp) (r : F) (D : Ends) : Prop := match r with
  | .nx ρ' S' => ∀ m' Rv' H' σ', Ext B m Rv S H m' Rv' S' H' → RepE B m' Rv' S'.length H' ρ' σ' → D.nx σ' H'
  | .ret v S' => ∀ m' Rv' H' x, Ext B m Rv S H m' Rv' S' H' → RepV B m' Rv' S'.length H' v x → D.rt x H'
  | .exc x ρ' S' => ∀ m' Rv' H' σ' c d, Ext B m Rv S H m' Rv' S' H' → RepE B m' Rv' S'.length H' ρ' σ' → ExcRep B m' Rv' S'.length H' x c d → W c d σ' H'
  | .no => False
def tJS (B : Bx) (W : WX) (f : SF) : TS := fun D σ H => ∃ ρ S m Rv, RepE B m Rv S.length H ρ σ ∧ Fx.St B m Rv S H ∧ PostF B W m Rv S H (f ρ S) D
structure JS (B : Bx) (W : WX) (X : Cx) (s : Stmt) (f : SF) : Prop where
  ps : PS X s (tJS B W f)
structure JSs (B : Bx) (W : WX) (X : Cx) (s : List Stmt) (f : SF) : Prop where
  pss : PSs X s (tJS B W f)
theorem PostF.ext {m m' : Mp} {Rv Rv' : Rsv} {S S' : Sto} {H H' : Hp} {r : F} {D : Ends} (s : Fx.St B m Rv S H) (e : Ext B m Rv S H m' Rv' S' H') (h : PostF B W m Rv S H r D) : PostF B W m' Rv' S' H' r D := by
  cases r with
  | nx ρ S2 => exact fun m2 Rv2 H2 σ' e2 => h m2 Rv2 H2 σ' (e.trans s e2)
  | ret v S2 => exact fun m2 Rv2 H2 x e2 => h m2 Rv2 H2 x (e.trans s e2)
  | exc x ρ S2 => exact fun m2 Rv2 H2 σ' c d e2 => h m2 Rv2 H2 σ' c d (e.trans s e2)
  | no => exact h
theorem PostF.st {α : Type} {m : Mp} {Rv : Rsv} {S : Sto} {H : Hp} {ρ : Env} {σ : L2.St} {r : R α} {k : α → Sto → F} {D : Ends} (he : RepE B m Rv S.length H ρ σ) (s : Fx.St B m Rv S H) (h : PostF B W m Rv S H (r.st ρ k) D) :
    Post B (fun c d H' => W c d σ H') m Rv S H r fun a m1 Rv1 S1 H1 => PostF B W m1 Rv1 S1 H1 (k a S1) D := by
  cases r with
  | ok a S1 => exact fun m1 Rv1 H1 e => PostF.ext s e (show PostF B W m Rv S H (k a S1) D from h)
  | exc x S1 => exact fun m1 Rv1 H1 c d e q => h m1 Rv1 H1 σ c d e (he.stay (e.stay s)) q
  | no => exact h
theorem PostF.sg {m : Mp} {Rv : Rsv} {S : Sto} {H : Hp} {r : R Env} {k : Env → Sto → F} {D : Ends} (s : Fx.St B m Rv S H) (h : PostF B W m Rv S H (r.sg k) D) :
    Post B Ws0 m Rv S H r fun a m1 Rv1 S1 H1 => PostF B W m1 Rv1 S1 H1 (k a S1) D := by
  cases r with
  | ok a S1 => exact fun m1 Rv1 H1 e => PostF.ext s e (show PostF B W m Rv S H (k a S1) D from h)
  | exc x S1 => exact h.elim
  | no => exact h
theorem PostF.seq {m : Mp} {Rv : Rsv} {S : Sto} {H : Hp} {r : F} {g : SF} {D : Ends} (s : Fx.St B m Rv S H) (h : PostF B W m Rv S H (r.seq g) D) : PostF B W m Rv S H r { D with nx := tJS B W g D } := by
  cases r with
  | nx ρ S1 => exact fun m1 Rv1 H1 σ' e he => ⟨ρ, S1, m1, Rv1, he, e.st, PostF.ext s e h⟩
  | ret v S1 => exact h
  | exc x ρ S1 => exact h
  | no => exact h
variable {s : Stmt} {ss : List Stmt} {p q : SF}
theorem jss_nil : JSs B W X [] sNil := ⟨PSs.imp' pss_nil fun D σ H ⟨ρ, S, m, Rv, he, hs, hp⟩ => hp m Rv H σ (Ext.refl hs) he⟩
theorem jss_cons (h1 : JS B W X s p) (h2 : JSs B W X ss q) : JSs B W X (s :: ss) (sSeq p q) :=
  ⟨PSs.imp' (pss_cons h1.ps h2.pss) fun D σ H ⟨ρ, S, m, Rv, he, hs, hp⟩ => ⟨ρ, S, m, Rv, he, hs, PostF.seq hs hp⟩⟩
theorem js_expr (ha : JE B W X a f) (hs : swapsWith a none pos.line X.env = pure false) : JS B W X (.Expr a pos) (sExpr f) := by
  refine ⟨PS.imp' (ps_expr ha.pe hs) fun D σ H ⟨ρ, S, m, Rv, he, hs, hp⟩ => ?_⟩
  exact ⟨ρ, S, m, Rv, he, hs, (PostF.st he hs hp).mono fun v m1 Rv1 S1 H1 _ e p2 x rx => p2 m1 Rv1 H1 σ (Ext.refl e.st) (he.stay (e.stay hs))⟩
theorem js_ret (ha : JE B W X a f) : JS B W X (.Return (some a) pos) (sRet f) := by
  refine ⟨PS.imp' (ps_ret ha.pe) fun D σ H ⟨ρ, S, m, Rv, he, hs, hp⟩ => ?_⟩
  exact ⟨ρ, S, m, Rv, he, hs, (PostF.st he hs hp).mono fun v m1 Rv1 S1 H1 _ e p2 x rx => p2 m1 Rv1 H1 x (Ext.refl e.st) rx⟩
theorem js_retN : JS B W X (.Return none pos) sRetN :=
  ⟨PS.imp' ps_retN fun D σ H ⟨ρ, S, m, Rv, he, hs, hp⟩ => hp m Rv H .non (Ext.refl hs) repV_non'⟩
theorem js_if {t : TF} {ss' : List Stmt} (hc : JT B W X a t) (h1 : JSs B W X ss p) (h2 : JSs B W X ss' q) : JS B W X (.If a ss ss' pos) (sIf t p q) := by
  refine ⟨PS.imp' (ps_if hc.pt h1.pss h2.pss) fun D σ H ⟨ρ, S, m, Rv, he, hs, hp⟩ => ?_⟩
  refine ⟨ρ, S, m, Rv, he, hs, (PostF.st he hs hp).mono fun b m1 Rv1 S1 H1 _ e p2 => ?_⟩
  cases b with
  | true => exact ⟨ρ, S1, m1, Rv1, he.stay (e.stay hs), e.st, p2⟩
  | false => exact ⟨ρ, S1, m1, Rv1, he.stay (e.stay hs), e.st, p2⟩
theorem asg_imp {g : GF} {σ : L2.St} {H : Hp} {D : Ends} (h : tJS B W (sAsg g f) D σ H) : tAsg (tJ B W f) (tJG B is g) D σ H := by
  obtain ⟨ρ, S, m, Rv, he, hs, hp⟩ := h
  refine ⟨ρ, S, m, Rv, he, hs, (PostF.st he hs hp).mono fun v m1 Rv1 S1 H1 _ e p2 x rx => ?_⟩
  exact ⟨ρ, S1, m1, Rv1, v, he.stay (e.stay hs), e.st, rx, (PostF.sg e.st p2).mono fun ρ2 m2 Rv2 S2 H2 _ e2 p3 σ' he' _ => p3 m2 Rv2 H2 σ' (Ext.refl e2.st) he'⟩
theorem js_asg {g : GF} {tg : Expr} (ha : JE B W X a f) (hg : JG B X tg is g) (hs : swapsWithSole [tg] a pos.line X.env = pure false) (hw : swappedStores [tg] a X.env = pure none)
    (h1 : (assignEach [tg] X.env).map (·.2) = [assign tg X.env]) : JS B W X (.Assign [tg] a pos) (sAsg g f) :=
  ⟨PS.imp' (ps_asg ha.pe hg.pg hs hw h1) fun D σ H h => asg_imp h⟩
/-- what a name is set to is a comprehension's list, frozen or a cell -/
theorem set_imp {i : Nat} {te : TE} {σ : L2.St} {H : Hp} {D : Ends} (ht : ∀ σ H Q, tJ B W f σ H Q → te σ H Q) (h : tJS B W (sAsg (gVar i) f) D σ H) : tAsg te (gName i) D σ H := by
  obtain ⟨ρ, S, m, Rv, he, hs, hp⟩ := h
  refine ht _ _ _ ⟨ρ, S, m, Rv, he, hs, (PostF.st he hs hp).mono fun v m1 Rv1 S1 H1 _ e p2 x rx => ?_⟩
  exact p2 m1 Rv1 H1 _ (Ext.refl e.st) ((he.stay (e.stay hs)).set i rx)
theorem jf_je {te : TE} (h : ∀ σ H Q, tJF B W f σ H Q → te σ H Q) : ∀ σ H Q, tJ B W f σ H Q → te σ H Q := fun σ H Q ⟨ρ, S, m, Rv, he, hs, hp⟩ => by
  refine h _ _ _ ⟨ρ, S, m, Rv, he, hs, ?_⟩
  cases e1 : f ρ S with
  | ok v S' =>
    rw [e1] at hp
    intro m' Rv' H' e p vs xs ev hr hm h0 hp' rx
    subst ev
    refine hp m' _ H' (Ext.freed hs e hm h0) _ ?_
    unfold RepV
    exact ⟨p, vs, rfl, hp', fun z => z.2 rfl, rx.freed⟩
  | exc x S' => rw [e1] at hp; exact hp
  | no => rw [e1] at hp; exact hp
theorem jf_mu {te : TE} (h : ∀ σ H Q, tJF B W f σ H Q → te σ H Q) : ∀ σ H Q, tJ B W (cMu f) σ H Q → te σ H Q := fun σ H Q ⟨ρ, S, m, Rv, he, hs, hp⟩ => by
  refine h _ _ _ ⟨ρ, S, m, Rv, he, hs, ?_⟩
  unfold cMu at hp
  cases e1 : f ρ S with
  | ok v S' =>
    rw [e1] at hp
    intro m' Rv' H' e p vs xs ev hr hm h0 hp' rx
    subst ev
    have e2 := Ext.cell_new e hr hm h0 hp' rx
    refine hp _ Rv' H' e2 _ ?_
    unfold RepV
    refine ⟨by simp, ?_⟩
    unfold mAdd
    rw [if_neg (Nat.lt_irrefl _)]
  | exc x S' => rw [e1] at hp; exact hp
  | no => rw [e1] at hp; exact hp
theorem js_setLc {i : Nat} {y : Str} {py : Pos} {elt tg iter : Expr} {ifs : List Expr} {scope : Scope} {own : List (Str × Nat)} {spos : Pos} {it : IF} {G : GF} {t : TF} {e : EF} (hc : X.calm = true) (hN : X.N.Nodup) (hy : X.N[i]? = some y) (hyl : X.env.scope.names.lookup y = some .local)
    (hsw : swapsWith (.ListComp elt [⟨tg, iter, ifs, 0⟩] scope pos) (some (.Name y py)) spos.line X.env = pure true) (hi : JI B W X tg iter it) (ok : BlkOk X.N X.env.scope scope own) (his : ∀ i ∈ is, i ∈ own.map (·.2))
    (hg : ∀ s H C cl fp, JG B (X.blk s H scope (compEnvC scope cl C X.env) fp) tg is G) (ht : ∀ s H C cl fp, PTs (X.blk s H scope (compEnvC scope cl C X.env) fp) ifs (tJT B W0 t))
    (he : ∀ s H C cl fp, JE B W0 (X.blk s H scope (compEnvC scope cl C X.env) fp) elt e) (hs : ∀ x, foldedSetIterable iter X.env x = pure x) (h : EF)
    (hh : ∀ te : TE, (∀ σ H Q, tJF B W (cComp (own.map (·.2)) it G t e) σ H Q → te σ H Q) → ∀ σ H Q, tJ B W h σ H Q → te σ H Q) :
    JS B W X (.Assign [.Name y py] (.ListComp elt [⟨tg, iter, ifs, 0⟩] scope pos) spos) (sAsg (gVar i) h) :=
  ⟨PS.imp' (ps_setLc hc hN hy hyl hsw hi.pi ok (fun s H C cl fp => (hg s H C cl fp).pg) ht (fun s H C cl fp => (he s H C cl fp).pe) hs) fun D σ H q => set_imp (hh _ fun σ H Q h => lc_imp his h) q⟩
/-- the rest of a for loop -/
def forFrom (g : GF) (b : SF) (s : Src) (i k : Nat) : SF := match s with
  | .items xs => forGo g b (xs.drop i)
  | .gen n => forCell g b n k i
theorem forFrom_step {g : GF} {b : SF} {s : Src} {i k : Nat} {ρ : Env} {S : Sto} (h : Inx s i k) :
    (∃ x k', k = k' + 1 ∧ Inx s (i + 1) k' ∧ s.at S i = some (some x) ∧ forFrom g b s i k ρ S = (g x ρ S).sg fun ρ1 S1 => (b ρ1 S1).seq (forFrom g b s (i + 1) k')) ∨
    (s.at S i = some none ∧ s.fin i ∧ forFrom g b s i k ρ S = .nx ρ S) ∨ forFrom g b s i k ρ S = .no := by
  cases s with
  | items xs =>
    have h' : i + k = xs.length := h
    by_cases hi : i < xs.length
    · obtain ⟨k', rfl⟩ : ∃ k', k = k' + 1 := ⟨k - 1, by omega⟩
      refine .inl ⟨xs[i], k', rfl, show i + 1 + k' = xs.length by omega, by simp [Src.at, hi], ?_⟩
      show forGo g b (xs.drop i) ρ S = _
      rw [List.drop_eq_getElem_cons hi]
      rfl
    · refine .inr (.inl ⟨by simp [Src.at]; omega, show i = xs.length by omega, ?_⟩)
      show forGo g b (xs.drop i) ρ S = _
      rw [List.drop_eq_nil_of_le (by omega)]
      rfl
  | gen n =>
    cases k with
    | zero => exact .inr (.inr rfl)
    | succ k =>
      cases e : genAt n S i with
      | none =>
        refine .inr (.inr ?_)
        show forCell g b n (k + 1) i ρ S = _
        unfold forCell
        rw [e]
      | some o =>
        cases o with
        | none =>
          refine .inr (.inl ⟨e, trivial, ?_⟩)
          show forCell g b n (k + 1) i ρ S = _
          unfold forCell
          rw [e]
        | some x =>
          refine .inl ⟨x, k, rfl, trivial, e, ?_⟩
          show forCell g b n (k + 1) i ρ S = _
          rw [forCell, e]
          rfl
theorem Walks.ext {J : It} {m m' : Mp} {Rv Rv' : Rsv} {S S' : Sto} {H H' : Hp} {s : Src} (h : Walks B J m Rv S H s) (st : Fx.St B m Rv S H) (e : Ext B m Rv S H m' Rv' S' H') : Walks B J m' Rv' S' H' s :=
  fun m2 Rv2 S2 H2 e2 i => h m2 Rv2 S2 H2 ((e.w st).trans e2) i
theorem js_for {tg iter : Expr} {it : IF} {g : GF} (hp : PassesOwn (model X.prog X.w) X.A X.env X.xe) (hc : X.calm = true) (hi : JI B W X tg iter it) (hg : JG B X tg is g) (hb : JSs B W X ss p) (hs : ∀ x, foldedSetIterable iter X.env x = pure x) :
    JS B W X (.For tg iter ss [] pos) (sFor it g p) := by
  refine ⟨PS.imp' (ps_for hp hc hi.pi hg.pg hb.pss hs) fun D σ H ⟨ρ, S, m, Rv, he, hs, hp⟩ => ?_⟩
  refine ⟨ρ, S, m, Rv, he, hs, (PostF.st he hs hp).mono fun s m1 Rv1 S1 H1 _ e1 p2 J hJ => ?_⟩
  have ec : forSrc g p s ρ S1 = forFrom g p s 0 s.len ρ S1 := by
    cases s with
    | items xs => rfl
    | gen n => rfl
  rw [ec] at p2
  refine ⟨fun i μ σ2 H2 => ∃ ρ2 S2 m2 Rv2, Inx s i μ ∧ RepE B m2 Rv2 S2.length H2 ρ2 σ2 ∧ Fx.St B m2 Rv2 S2 H2 ∧ Walks B J m2 Rv2 S2 H2 s ∧ PostF B W m2 Rv2 S2 H2 (forFrom g p s i μ ρ2 S2) D,
    ⟨s.len, ρ, S1, m1, Rv1, ?_, he.stay (e1.stay hs), e1.st, hJ, p2⟩, ?_⟩
  · cases s with
    | items xs => exact Nat.zero_add _
    | gen n => trivial
  rintro i μ σ2 H2 ⟨ρ2, S2, m2, Rv2, hin, he2, hs2, hw, q⟩
  rcases forFrom_step (g := g) (b := p) (ρ := ρ2) (S := S2) hin with ⟨x, k', rfl, hin', hat, hrun⟩ | ⟨hat, hend, hrun⟩ | hrun
  · have w := hw m2 Rv2 S2 H2 ((Ext.refl hs2).w hs2) i
    rw [hat] at w
    rw [hrun] at q
    refine .inr ⟨w.1, fun σ' H' => ∃ ρ2 S2 m2 Rv2, Inx s (i + 1) k' ∧ RepE B m2 Rv2 S2.length H' ρ2 σ' ∧ Fx.St B m2 Rv2 S2 H' ∧ Walks B J m2 Rv2 S2 H' s ∧ PostF B W m2 Rv2 S2 H' (forFrom g p s (i + 1) k' ρ2 S2) D,
      fun σ' H' hN => ⟨k', Nat.lt_succ_self _, hN⟩, fun v H' hy => ?_⟩
    obtain ⟨e3, rx⟩ := w.2 v H' hy
    have q3 := PostF.ext hs2 e3 q
    refine ⟨ρ2, S2, m2, Rv2, x, he2.stay (e3.stay hs2), e3.st, rx, (PostF.sg e3.st q3).mono fun ρ4 m4 Rv4 S4 H4 _ e4 q4 σ4 he4 _ => ?_⟩
    refine ⟨ρ4, S4, m4, Rv4, he4, e4.st, ?_⟩
    have hw4 := (hw.ext hs2 e3).ext e3.st e4
    cases er : p ρ4 S4 with
    | nx ρ5 S5 =>
      rw [er] at q4
      exact fun m5 Rv5 H5 σ5 e5 he5 => ⟨ρ5, S5, m5, Rv5, hin', he5, e5.st, hw4.ext e4.st e5, PostF.ext e4.st e5 q4⟩
    | ret v S5 => rw [er] at q4; exact q4
    | exc x ρ5 S5 => rw [er] at q4; exact q4
    | no => rw [er] at q4; exact q4
  · have w := hw m2 Rv2 S2 H2 ((Ext.refl hs2).w hs2) i
    rw [hat] at w
    rw [hrun] at q
    exact .inl ⟨w hend, q m2 Rv2 H2 σ2 (Ext.refl hs2) he2⟩
  · rw [hrun] at q
    exact q.elim
theorem js_while {t : TF} (hp : PassesOwn (model X.prog X.w) X.A X.env X.xe) (hc : JT B W X a t) (hb : JSs B W X ss p) : JS B W X (.While a ss [] pos) (sWhile t p) := by
  refine ⟨PS.imp' (ps_while hp hc.pt hb.pss) fun D σ H ⟨ρ, S, m, Rv, he, hs, hp⟩ => ?_⟩
  refine ⟨fun μ σ2 H2 => ∃ ρ2 S2 m2 Rv2, RepE B m2 Rv2 S2.length H2 ρ2 σ2 ∧ Fx.St B m2 Rv2 S2 H2 ∧ PostF B W m2 Rv2 S2 H2 (whileGo t p μ ρ2 S2) D, ⟨fuel, ρ, S, m, Rv, he, hs, hp⟩, ?_⟩
  rintro μ σ2 H2 ⟨ρ2, S2, m2, Rv2, he2, hs2, q⟩
  cases μ with
  | zero => exact q.elim
  | succ μ =>
    refine ⟨ρ2, S2, m2, Rv2, he2, hs2, (PostF.st he2 hs2 (show PostF B W m2 Rv2 S2 H2 ((t ρ2 S2).st ρ2 fun c S1 => if c then (p ρ2 S1).seq (whileGo t p μ) else .nx ρ2 S1) D from q)).mono fun b m3 Rv3 S3 H3 _ e3 q3 => ?_⟩
    have he3 := he2.stay (e3.stay hs2)
    cases b with
    | false => exact q3 m3 Rv3 H3 σ2 (Ext.refl e3.st) he3
    | true =>
      refine ⟨fun σ' H' => ∃ ρ2 S2 m2 Rv2, RepE B m2 Rv2 S2.length H' ρ2 σ' ∧ Fx.St B m2 Rv2 S2 H' ∧ PostF B W m2 Rv2 S2 H' (whileGo t p μ ρ2 S2) D, fun σ' H' hN => ⟨μ, Nat.lt_succ_self _, hN⟩, ρ2, S3, m3, Rv3, he3, e3.st, ?_⟩
      have q4 : PostF B W m3 Rv3 S3 H3 ((p ρ2 S3).seq (whileGo t p μ)) D := q3
      cases er : p ρ2 S3 with
      | nx ρ5 S5 =>
        rw [er] at q4
        exact fun m5 Rv5 H5 σ5 e5 he5 => ⟨ρ5, S5, m5, Rv5, he5, e5.st, PostF.ext e3.st e5 q4⟩
      | ret v S5 => rw [er] at q4; exact q4
      | exc x ρ5 S5 => rw [er] at q4; exact q4
      | no => rw [er] at q4; exact q4
end
end Fx

/-! Fx5: the operations on values are what the machine does. -/
namespace Fx
open PySem PySem.Spec PyProof.Rows L2
section
variable {B : Bx} {W : WX} {X : Cx} {m : Mp} {Rv : Rsv} {S : Sto} {N : Nat} {H : Hp}

/-! ### shapes -/
theorem repV_tup {xs : List PV} {v : V} (h : RepV B m Rv N H (.tup xs) v) : ∃ a o vs, v = .ref a ∧ H a = some (.frz o (.tup vs)) ∧ o.dict = none ∧ RepVs B m Rv N H xs vs := by unfold RepV at h; exact h
theorem repV_tup' {xs : List PV} {a : Addr} {o : Obj} {vs : List V} (h : H a = some (.frz o (.tup vs))) (hd : o.dict = none) (r : RepVs B m Rv N H xs vs) : RepV B m Rv N H (.tup xs) (.ref a) := by unfold RepV; exact ⟨a, o, vs, rfl, h, hd, r⟩
theorem sqT {K : PySem.W.Frag} {a : Addr} {o : Obj} {vs : List V} (h : H a = some (.frz o (.tup vs))) : SqT K H a vs := .inl (.inr ⟨o, h⟩)
theorem rep_list {x : PV} {v : V} {xs : List PV} (s : Fx.St B m Rv S H) (r : RepV B m Rv S.length H x v) (h : listOf S x = some xs) : ∃ a vs, v = .ref a ∧ H a = some (.lst vs) ∧ RepVs B m Rv S.length H xs vs := by
  cases x with
  | lst ys =>
    cases h
    unfold RepV at r
    obtain ⟨a, vs, rfl, h1, _, h2⟩ := r
    exact ⟨a, vs, rfl, h1, h2⟩
  | ref n =>
    unfold RepV at r
    obtain ⟨hn, rfl⟩ := r
    unfold listOf at h
    dsimp only at h
    split at h
    · rename_i ys e
      cases h
      obtain ⟨vs, h1, h2⟩ := s.cells n _ e
      exact ⟨_, vs, rfl, h1, h2⟩
    · cases h
  | _ => cases h
theorem rep_seq {x : PV} {v : V} {xs : List PV} (s : Fx.St B m Rv S H) (r : RepV B m Rv S.length H x v) (h : seqOf S x = some xs) : ∃ a vs, v = .ref a ∧ (H a = some (.lst vs) ∨ ∃ o, H a = some (.frz o (.tup vs))) ∧ RepVs B m Rv S.length H xs vs := by
  cases x with
  | tup ys =>
    cases h
    obtain ⟨a, o, vs, e, h1, _, h2⟩ := repV_tup r
    exact ⟨a, vs, e, .inr ⟨o, h1⟩, h2⟩
  | lst ys =>
    obtain ⟨a, vs, e, h1, h2⟩ := rep_list s r h
    exact ⟨a, vs, e, .inl h1, h2⟩
  | ref n =>
    obtain ⟨a, vs, e, h1, h2⟩ := rep_list s r h
    exact ⟨a, vs, e, .inl h1, h2⟩
  | _ => cases h
theorem ints_eq : ∀ {xs : List PV} {ns : List Int}, ints? xs = some ns → xs = ns.map .int
  | [], ns, h => by cases h; rfl
  | .int i :: xs, ns, h => by
    unfold ints? at h
    cases e : ints? xs with
    | none => rw [e] at h; cases h
    | some ms => rw [e] at h; cases h; rw [ints_eq e]; rfl
  | .non :: _, _, h => by cases h
  | .bl _ :: _, _, h => by cases h
  | .str _ :: _, _, h => by cases h
  | .ref _ :: _, _, h => by cases h
  | .fn _ :: _, _, h => by cases h
  | .scr _ :: _, _, h => by cases h
  | .tup _ :: _, _, h => by cases h
  | .lst _ :: _, _, h => by cases h
  | .prs _ :: _, _, h => by cases h
theorem bools_eq : ∀ {xs : List PV} {ns : List Bool}, bools? xs = some ns → xs = ns.map .bl
  | [], ns, h => by cases h; rfl
  | .bl i :: xs, ns, h => by
    unfold bools? at h
    cases e : bools? xs with
    | none => rw [e] at h; cases h
    | some ms => rw [e] at h; cases h; rw [bools_eq e]; rfl
  | .non :: _, _, h => by cases h
  | .int _ :: _, _, h => by cases h
  | .str _ :: _, _, h => by cases h
  | .ref _ :: _, _, h => by cases h
  | .fn _ :: _, _, h => by cases h
  | .scr _ :: _, _, h => by cases h
  | .tup _ :: _, _, h => by cases h
  | .lst _ :: _, _, h => by cases h
  | .prs _ :: _, _, h => by cases h
theorem repVs_ints : ∀ {ns : List Int} {vs : List V}, RepVs B m Rv N H (ns.map .int) vs → vs = ns.map V.int
  | [], vs, h => h.inv0
  | n :: ns, vs, h => by
    obtain ⟨w, ws, rfl, h1, h2⟩ := RepVs.inv (xs := ns.map .int) (x := .int n) h
    rw [repV_int h1, repVs_ints h2]; rfl
theorem repVs_bools : ∀ {ns : List Bool} {vs : List V}, RepVs B m Rv N H (ns.map .bl) vs → vs = ns.map V.bl
  | [], vs, h => h.inv0
  | n :: ns, vs, h => by
    obtain ⟨w, ws, rfl, h1, h2⟩ := RepVs.inv (xs := ns.map .bl) (x := .bl n) h
    rw [repV_bl h1, repVs_bools h2]; rfl
def vOf : PV → V
  | .non => .non | .bl b => .bl b | .int i => .int i | .str x => .str x | _ => .non
theorem rep_flat {x : PV} {v : V} (f : flatP x = true) (r : RepV B m Rv N H x v) : v = vOf x := by
  cases x with
  | non => exact repV_non r
  | bl b => exact repV_bl r
  | int i => exact repV_int r
  | str x => exact repV_str r
  | _ => cases f
theorem rep_flats : ∀ {xs : List PV} {vs : List V}, xs.all flatP = true → RepVs B m Rv N H xs vs → vs = xs.map vOf
  | [], vs, _, r => r.inv0
  | x :: xs, vs, f, r => by
    obtain ⟨w, ws, rfl, h1, h2⟩ := r.inv
    rw [List.all_cons, Bool.and_eq_true] at f
    rw [rep_flat f.1 h1, rep_flats f.2 h2]; rfl
theorem flatV_vOf {x : PV} : flatV (vOf x) = true := by cases x <;> rfl
theorem flats_vOf {xs : List PV} : (xs.map vOf).all flatV = true := by
  rw [List.all_map]; exact List.all_eq_true.mpr fun _ _ => flatV_vOf
theorem eqV_vOf {y x : PV} (fy : flatP y = true) (fx : flatP x = true) : eqV (vOf y) (vOf x) = eqF y x := by
  cases y <;> cases x <;> first | rfl | (simp [flatP] at fy; done) | (simp [flatP] at fx; done) | simp [vOf, eqV, eqF, b2i, Bool.beq_eq_decide_eq]
theorem same_upd' {p : Addr} {o : HO} (h : H p = none) {b : Addr} {u : HO} (e : H b = some u) : upd H p o b = some u := by rw [upd_ne (ne_of_none e h)]; exact e

/-! ### + - * // % ** -/
theorem fresh_tup {xs : List PV} {vs : List V} {Q : VK} (s : Fx.St B m Rv S H) (h : PO B m Rv S H (some (.tup xs)) Q) (r : RepVs B m Rv S.length H xs vs) : Fx0.rNewT H vs Q := fun p o np hd => by
  have e := Ext.laid (o := .frz o (.tup vs)) s np
  exact h m Rv _ _ e (repV_tup' upd_same hd (RepVs.stay (e.stay s) _ _ r))
theorem fresh_lst {xs : List PV} {vs : List V} {Q : VK} (s : Fx.St B m Rv S H) (h : PO B m Rv S H (some (.lst xs)) Q) (r : RepVs B m Rv S.length H xs vs) : ∀ p, H p = none → Q (.ref p) (upd H p (.lst vs)) := fun p np => by
  have e := Ext.laid (o := .lst vs) s np
  refine h m Rv _ _ e ?_
  unfold RepV
  exact ⟨p, vs, rfl, upd_same, fun z => s.there p z np, RepVs.stay (e.stay s) _ _ r⟩
theorem ho_add : OpR X (binaryOp .Add) (rO2 B oAdd) := by
  intro pins s σ H xv yv v u Q I rx ry h
  obtain ⟨m, Rv, S, p, q, hs, hp, hq, ho⟩ := h
  unfold oAdd at ho
  split at ho
  · rename_i i j
    exact op_add pins s σ H _ _ v u Q I rx ry ⟨i, j, repV_int hp, repV_int hq, PO.same hs ho repV_int'⟩
  · rename_i i j
    exact op_add_ib pins s σ H _ _ v u Q I rx ry ⟨i, j, repV_int hp, repV_bl hq, PO.same hs ho repV_int'⟩
  · rename_i xs ys
    split at ho
    · rename_i hl
      obtain ⟨a, o1, vs, e1, h1, d1, r1⟩ := repV_tup hp
      obtain ⟨b, o2, ws, e2, h2, d2, r2⟩ := repV_tup hq
      refine Fx0.op_catF pins s σ H _ _ v u Q I rx ry ⟨a, b, vs, ws, e1, e2, sqT h1, sqT h2, by rw [← r1.length, ← r2.length]; exact lenOk_le hl, fun z => ?_, fun _ z => ?_, fun _ _ => fresh_tup hs ho (r1.append r2)⟩
      · subst z
        have hx : xs = [] := List.length_eq_zero_iff.mp (by rw [r1.length]; rfl)
        subst hx
        exact PO.same hs ho (repV_tup' h2 d2 r2)
      · subst z
        have hy : ys = [] := List.length_eq_zero_iff.mp (by rw [r2.length]; rfl)
        subst hy
        exact PO.same hs ho (repV_tup' h1 d1 (by rw [List.append_nil]; exact r1))
    · exact ho.elim
  · rename_i a b
    split at ho
    · rename_i hl
      exact op_add_str pins s σ H _ _ v u Q I rx ry ⟨a, b, repV_str hp, repV_str hq, lenOk_le hl, PO.same hs ho (by unfold RepV; rfl)⟩
    · exact ho.elim
  · rename_i x y _ _ _ _
    split at ho
    · rename_i xs ys e1 e2
      split at ho
      · rename_i hl
        obtain ⟨a, vs, ea, h1, r1⟩ := rep_list hs hp e1
        obtain ⟨b, ws, eb, h2, r2⟩ := rep_list hs hq e2
        exact op_cat pins s σ H _ _ v u Q I rx ry ⟨a, b, vs, ws, ea, eb, h1, h2, by rw [← r1.length, ← r2.length]; exact lenOk_le hl, fresh_lst hs ho (r1.append r2)⟩
      · exact ho.elim
    · exact ho.elim
theorem ho_sub : OpR X (binaryOp .Sub) (rO2 B oSub) := by
  intro pins s σ H xv yv v u Q I rx ry h
  obtain ⟨m, Rv, S, p, q, hs, hp, hq, ho⟩ := h
  unfold oSub at ho
  split at ho
  · rename_i i j
    exact op_sub pins s σ H _ _ v u Q I rx ry ⟨i, j, repV_int hp, repV_int hq, PO.same hs ho repV_int'⟩
  · exact ho.elim
theorem smallI_ok {i : Int} (h : smallI i = true) : -(2 ^ 64) < i ∧ i < 2 ^ 64 := by
  unfold smallI at h
  rw [Bool.and_eq_true] at h
  exact ⟨of_decide_eq_true h.1, of_decide_eq_true h.2⟩
theorem ho_div : OpR X (binaryOp .FloorDiv) (rO2 B oDiv) := by
  intro pins s σ H xv yv v u Q I rx ry h
  obtain ⟨m, Rv, S, p, q, hs, hp, hq, ho⟩ := h
  unfold oDiv at ho
  split at ho
  · rename_i i j
    split at ho
    · rename_i c
      rw [Bool.and_eq_true] at c
      exact op_fdiv pins s σ H _ _ v u Q I rx ry ⟨i, j, repV_int hp, repV_int hq, ⟨of_decide_eq_true c.1, of_decide_eq_true c.2⟩, PO.same hs ho repV_int'⟩
    · exact ho.elim
  · exact ho.elim
theorem ho_mod : OpR X (binaryOp .Mod) (rO2 B oMod) := by
  intro pins s σ H xv yv v u Q I rx ry h
  obtain ⟨m, Rv, S, p, q, hs, hp, hq, ho⟩ := h
  unfold oMod at ho
  split at ho
  · rename_i i j
    split at ho
    · rename_i c
      exact op_mod pins s σ H _ _ v u Q I rx ry ⟨i, j, repV_int hp, repV_int hq, of_decide_eq_true c, PO.same hs ho repV_int'⟩
    · exact ho.elim
  · exact ho.elim
theorem ho_pow : OpR X (binaryOp .Pow) (rO2 B oPow) := by
  intro pins s σ H xv yv v u Q I rx ry h
  obtain ⟨m, Rv, S, p, q, hs, hp, hq, ho⟩ := h
  unfold oPow at ho
  split at ho
  · rename_i i j
    split at ho
    · rename_i c
      rw [Bool.and_eq_true, Bool.and_eq_true] at c
      exact op_pow pins s σ H _ _ v u Q I rx ry ⟨i, j, repV_int hp, repV_int hq, ⟨of_decide_eq_true c.1.1, of_decide_eq_true c.1.2, of_decide_eq_true c.2⟩, PO.same hs ho repV_int'⟩
    · exact ho.elim
  · exact ho.elim
theorem ho_mul : OpR X (binaryOp .Mult) (rO2 B oMul) := by
  intro pins s σ H xv yv v u Q I rx ry h
  obtain ⟨m, Rv, S, p, q, hs, hp, hq, ho⟩ := h
  unfold oMul at ho
  split at ho
  · rename_i i j
    split at ho
    · rename_i c
      rw [Bool.or_eq_true] at c
      exact op_mul pins s σ H _ _ v u Q I rx ry ⟨i, j, repV_int hp, repV_int hq, c.imp smallI_ok smallI_ok, PO.same hs ho repV_int'⟩
    · exact ho.elim
  · rename_i xs k
    obtain ⟨a, o1, vs, e1, h1, d1, r1⟩ := repV_tup hp
    split at ho
    · rename_i c
      exact Fx0.op_repF pins s σ H _ _ v u Q I rx ry ⟨a, k, vs, e1, repV_int hq, sqT h1, .inl ⟨of_decide_eq_true c, PO.same hs ho (repV_tup' h1 d1 r1)⟩⟩
    · split at ho
      · rename_i c
        rw [Bool.and_eq_true, Bool.and_eq_true, Bool.and_eq_true] at c
        refine Fx0.op_repF pins s σ H _ _ v u Q I rx ry ⟨a, k, vs, e1, repV_int hq, sqT h1, .inr ⟨fun z => ?_, of_decide_eq_true c.1.1.2, of_decide_eq_true c.1.2, by rw [← r1.length]; exact Nat.le_of_ble_eq_true c.2, fresh_tup hs ho (r1.rep _)⟩⟩
        have hx : xs = [] := List.length_eq_zero_iff.mp (by rw [r1.length, z]; rfl)
        rw [hx] at c
        exact absurd c.1.1.1 (by decide)
      · exact ho.elim
  · rename_i x k _ _
    split at ho
    · rename_i xs e1
      split at ho
      · rename_i c
        rw [Bool.and_eq_true, Bool.and_eq_true] at c
        obtain ⟨a, vs, ea, h1, r1⟩ := rep_list hs hp e1
        exact op_rep pins s σ H _ _ v u Q I rx ry ⟨a, k, vs, ea, repV_int hq, h1, of_decide_eq_true c.1.1, of_decide_eq_true c.1.2, by rw [← r1.length]; exact lenOk_le c.2, fresh_lst hs ho (r1.rep _)⟩
      · exact ho.elim
    · exact ho.elim
  · exact ho.elim
theorem ho_neg : UnR X (unaryOp .USub) (rO1 B oNeg) := by
  intro pins s σ H xv v Q I rx h
  obtain ⟨m, Rv, S, p, hs, hp, ho⟩ := h
  unfold oNeg at ho
  split at ho
  · rename_i i
    exact un_neg pins s σ H _ v Q I rx ⟨i, repV_int hp, PO.same hs ho repV_int'⟩
  · exact ho.elim

/-! ### comparisons -/
theorem ho_cmp {op : CmpOp} {f : Int → Int → Bool} (h0 : OpR X (compareOp op) (rI0 fun i j => .bl (f i j))) : OpR X (compareOp op) (rO2 B (oCmp f)) := by
  intro pins s σ H xv yv v u Q I rx ry h
  obtain ⟨m, Rv, S, p, q, hs, hp, hq, ho⟩ := h
  unfold oCmp at ho
  split at ho
  · rename_i i j
    exact h0 pins s σ H _ _ v u Q I rx ry ⟨i, j, repV_int hp, repV_int hq, PO.same hs ho repV_bl'⟩
  · exact ho.elim
theorem ho_lt : OpR X (compareOp .Lt) (rO2 B oLt) := ho_cmp op_lt
theorem ho_le : OpR X (compareOp .LtE) (rO2 B oLe) := ho_cmp op_le
theorem ho_gt : OpR X (compareOp .Gt) (rO2 B oGt) := ho_cmp op_gt
theorem ho_ge : OpR X (compareOp .GtE) (rO2 B oGe) := ho_cmp op_ge
mutual
theorem dp_of (s : Fx.St B m Rv S H) : ∀ (x : PV) (v : V) (d : PyData), toD S x = some d → RepV B m Rv S.length H x v → Dp B.K H v d
  | .non, v, d, h, r => by cases h; rw [repV_non r]; exact .non
  | .bl b, v, d, h, r => by cases h; rw [repV_bl r]; exact .bl b
  | .int i, v, d, h, r => by cases h; rw [repV_int r]; exact .int i
  | .str x, v, d, h, r => by cases h; rw [repV_str r]; exact .str x
  | .tup xs, v, d, h, r => by
    unfold toD at h
    obtain ⟨a, o, vs, rfl, h1, _, r1⟩ := repV_tup r
    cases e : toDs S xs with
    | none => rw [e] at h; cases h
    | some ds => rw [e] at h; cases h; exact .tup (sqT h1) (dps_of s xs vs ds e r1)
  | .lst xs, v, d, h, r => by
    unfold toD at h
    obtain ⟨a, vs, rfl, h1, r1⟩ := rep_list s r rfl
    cases e : toDs S xs with
    | none => rw [e] at h; cases h
    | some ds => rw [e] at h; cases h; exact .lst (.of h1) (dps_of s xs vs ds e r1)
  | .ref n, v, d, h, r => by cases h
  | .fn n, v, d, h, r => by cases h
  | .scr n, v, d, h, r => by cases h
  | .prs n, v, d, h, r => by cases h
theorem dps_of (s : Fx.St B m Rv S H) : ∀ (xs : List PV) (vs : List V) (ds : List PyData), toDs S xs = some ds → RepVs B m Rv S.length H xs vs → DpAll B.K H vs ds
  | [], vs, ds, h, r => by cases h; rw [r.inv0]; exact .nil
  | x :: xs, vs, ds, h, r => by
    obtain ⟨w, ws, rfl, h1, h2⟩ := r.inv
    unfold toDs at h
    split at h
    · rename_i d ds' e1 e2
      cases h
      exact .cons (dp_of s x w d e1 h1) (dps_of s xs ws ds' e2 h2)
    · cases h
end
theorem dp1_of (s : Fx.St B m Rv S H) {x : PV} {v : V} {d : PyData} (h : toD1 S x = some d) (r : RepV B m Rv S.length H x v) : Dp B.K H v d := by
  unfold toD1 at h
  split at h
  · rename_i n
    unfold RepV at r
    obtain ⟨hn, rfl⟩ := r
    split at h
    · rename_i xs e
      obtain ⟨vs, h1, h2⟩ := s.cells n _ e
      cases e2 : toDs S xs with
      | none => rw [e2] at h; cases h
      | some ds => rw [e2] at h; cases h; exact .lst (.of h1) (dps_of s xs vs ds e2 h2)
    · cases h
  · exact dp_of s x v d h r
theorem eqD_of (s : Fx.St B m Rv S H) {x y : PV} {v u : V} {b : Bool} (h : eqD x y S = some b) (r : RepV B m Rv S.length H x v) (r' : RepV B m Rv S.length H y u) :
    ∃ d e, Dp B.K H v d ∧ Dp B.K H u e ∧ SeqAt.shaped d = true ∧ SeqAt.shaped e = true ∧ PyData.eqv d e = b := by
  unfold eqD at h
  split at h
  · rename_i d e e1 e2
    split at h
    · rename_i c
      rw [Bool.and_eq_true] at c
      cases h
      exact ⟨d, e, dp1_of s e1 r, dp1_of s e2 r', c.1, c.2, rfl⟩
    · cases h
  · cases h
theorem ho_eq (hK : B.K = X.K) (hu : X.A.units + 64 < cLine) : OpR X (compareOp .Eq) (rO2 B oEq) := by
  intro pins s σ H xv yv v u Q I rx ry h
  obtain ⟨m, Rv, S, p, q, hs, hp, hq, ho⟩ := h
  unfold oEq at ho
  split at ho
  · rename_i i j
    have e1 := repV_int hp
    have e2 := repV_int hq
    subst e1 e2
    refine op_eq pins s σ H _ _ v u Q I rx ry ⟨rfl, ?_⟩
    have := PO.same hs ho repV_bl'
    rw [show decide (V.int i = V.int j) = decide (i = j) by simp]
    exact this
  · split at ho
    · rename_i b e
      obtain ⟨d, e', h1, h2, h3, h4, rfl⟩ := eqD_of hs e hp hq
      exact op_eqD hu pins s σ H _ _ v u Q I rx ry ⟨d, e', hK ▸ h1, hK ▸ h2, h3, h4, PO.same hs ho repV_bl'⟩
    · exact ho.elim
theorem ho_ne (hK : B.K = X.K) (hu : X.A.units + 64 < cLine) : OpR X (compareOp .NotEq) (rO2 B oNe) := by
  intro pins s σ H xv yv v u Q I rx ry h
  obtain ⟨m, Rv, S, p, q, hs, hp, hq, ho⟩ := h
  unfold oNe at ho
  split at ho
  · rename_i i j
    have e1 := repV_int hp
    have e2 := repV_int hq
    subst e1 e2
    refine op_ne pins s σ H _ _ v u Q I rx ry ⟨rfl, ?_⟩
    have := PO.same hs ho repV_bl'
    rw [show decide (V.int i = V.int j) = decide (i = j) by simp]
    exact this
  · split at ho
    · rename_i b e
      obtain ⟨d, e', h1, h2, h3, h4, rfl⟩ := eqD_of hs e hp hq
      exact op_neD hu pins s σ H _ _ v u Q I rx ry ⟨d, e', hK ▸ h1, hK ▸ h2, h3, h4, PO.same hs ho repV_bl'⟩
    · exact ho.elim
theorem inV_eq {x : PV} (fx : flatP x = true) : ∀ {xs : List PV}, xs.all flatP = true → inV (vOf x) (xs.map vOf) = xs.any fun y => eqF y x
  | [], _ => rfl
  | y :: ys, f => by
    rw [List.all_cons, Bool.and_eq_true] at f
    show (eqV (vOf y) (vOf x) || inV (vOf x) (ys.map vOf)) = _
    rw [eqV_vOf f.1 fx, inV_eq fx f.2]; rfl
theorem ho_in (hK : B.K = X.K) : OpR X (compareOp .In) (rO2 B (oIn false)) := by
  intro pins s σ H xv yv v u Q I rx ry h
  obtain ⟨m, Rv, S, p, q, hs, hp, hq, ho⟩ := h
  unfold oIn at ho
  split at ho
  · rename_i xs e
    split at ho
    · rename_i c
      rw [Bool.and_eq_true] at c
      obtain ⟨a, vs, ea, h1, r1⟩ := rep_seq hs hq e
      have ev := rep_flats c.2 r1
      have ex := rep_flat c.1 hp
      subst ev ex
      refine op_in_seq pins s σ H _ _ v u Q I rx ry ⟨a, _, ea, h1.imp .of (fun ⟨_, z⟩ => sqT z), flatV_vOf, flats_vOf, ?_⟩
      rw [if_neg Bool.false_ne_true, inV_eq c.1 c.2]
      exact PO.same hs ho (by rw [if_neg Bool.false_ne_true]; exact repV_bl')
    · exact ho.elim
  · exact ho.elim
theorem ho_notin (hK : B.K = X.K) : OpR X (compareOp .NotIn) (rO2 B (oIn true)) := by
  intro pins s σ H xv yv v u Q I rx ry h
  obtain ⟨m, Rv, S, p, q, hs, hp, hq, ho⟩ := h
  unfold oIn at ho
  split at ho
  · rename_i xs e
    split at ho
    · rename_i c
      rw [Bool.and_eq_true] at c
      obtain ⟨a, vs, ea, h1, r1⟩ := rep_seq hs hq e
      have ev := rep_flats c.2 r1
      have ex := rep_flat c.1 hp
      subst ev ex
      refine op_notIn_seq pins s σ H _ _ v u Q I rx ry ⟨a, _, ea, h1.imp .of (fun ⟨_, z⟩ => sqT z), flatV_vOf, flats_vOf, ?_⟩
      rw [if_pos rfl, inV_eq c.1 c.2]
      exact PO.same hs ho (by rw [if_pos rfl]; exact repV_bl')
    · exact ho.elim
  · exact ho.elim
end
end Fx

/-! Fx6: subscripts, slices, built-in functions, methods, what loops walk. -/
namespace Fx
open PySem PySem.Spec PyProof.Rows L2
section
variable {B : Bx} {W : WX} {X : Cx} {m : Mp} {Rv : Rsv} {S : Sto} {N : Nat} {H : Hp} {a b c : Expr} {f g h : EF} {pos : Pos}

/-! ### subscripts -/
theorem atI_eq {xs : List PV} {vs : List V} {i : Int} {x : PV} (r : RepVs B m Rv N H xs vs) (h : ((ixN xs.length i).bind fun j => xs[j]?) = some x) : ∃ v, atI vs i = some v ∧ RepV B m Rv N H x v := by
  have e : ixN xs.length i = L2.ixN vs.length i := by rw [r.length]; rfl
  unfold atI
  rw [← e]
  cases q : ixN xs.length i with
  | none => rw [q] at h; cases h
  | some j =>
    rw [q] at h
    exact r.get h
theorem ix_ok (hK : B.K = X.K) : IxR X (rO2 B oIdx) := by
  intro value slice pins s σ H x y v u Q I rx ry h hs
  obtain ⟨m, Rv, S, p, q, hst, hp, hq, ho⟩ := h
  unfold oIdx at ho
  split at ho
  · rename_i i
    split at ho
    · rename_i xs e
      split at ho
      · rename_i z ez
        obtain ⟨a, vs, ea, h1, r1⟩ := rep_seq hst hp e
        obtain ⟨w, h2, h3⟩ := atI_eq r1 ez
        rcases h1 with h1 | ⟨o, h1⟩
        · exact ix_list value slice pins s σ H _ _ v u Q I rx ry ⟨a, vs, i, w, ea, repV_int hq, .of h1, h2, PO.same hst ho h3⟩ hs
        · exact ix_tup value slice pins s σ H _ _ v u Q I rx ry ⟨a, vs, i, w, ea, repV_int hq, sqT h1, h2, PO.same hst ho h3⟩ hs
      · exact ho.elim
    · exact ho.elim
  · exact ho.elim
theorem je_idx (hK : B.K = X.K) (ha : JE B W X a f) (hb : JE B W X b g) (hs : PlainIx b) : JE B W X (.Subscript a b pos) (cBin oIdx f g) := by
  refine ⟨PE.imp' (pe_ix (ix_ok hK) ha.pe hb.pe hs) fun σ H Q h => ?_⟩
  refine tK.step h fun x m1 Rv1 S1 H1 ρ he hs hp xv rx => ?_
  refine ⟨ρ, S1, m1, Rv1, he, hs, (Post.bind hs hp).mono fun y m2 Rv2 S2 H2 _ e p yv ry => ?_⟩
  exact ⟨m2, Rv2, S2, x, y, e.st, RepV.stay (e.stay hs) _ _ rx, ry, PO.of p⟩
theorem sIx_eq (n d : Nat) (o : Option Int) : sIx n d o = HT.sIx n d o := by cases o <;> rfl
theorem cut_rep {xs : List PV} {vs : List V} {lo hi : Option Int} (r : RepVs B m Rv N H xs vs) : RepVs B m Rv N H (cut xs lo hi) (cutV vs lo hi) := by
  unfold cut cutV
  rw [r.length, sIx_eq, sIx_eq]
  exact (r.drop _).take _
def rSl (B : Bx) : V → Option Int → Option Int → Hp → VK → Prop := fun x lo hi H Q => ∃ m Rv S p, Fx.St B m Rv S H ∧ RepV B m Rv S.length H p x ∧ PO B m Rv S H (oSlc p lo hi S) Q
theorem sl_ok (hK : B.K = X.K) : SlR X (rSl B) := by
  intro pins s σ H x v vl vu lo hi sl Q I rx hs pl pu h
  obtain ⟨m, Rv, S, p, hst, hp, ho⟩ := h
  unfold oSlc at ho
  split at ho
  · rename_i xs
    obtain ⟨a, o, vs, ea, h1, hd, r1⟩ := repV_tup hp
    refine Fx0.sl_tupF pins s σ H _ v vl vu lo hi sl Q I rx hs pl pu ⟨a, vs, ea, sqT h1, fun hw => ?_, fun _ => fresh_tup hst ho (cut_rep r1)⟩
    have ec : cut xs lo hi = xs := by
      unfold cut
      rw [sIx_eq, sIx_eq, r1.length, hw.1, hw.2, List.drop_zero, Nat.sub_zero, ← r1.length, List.take_length]
    rw [ec] at ho
    exact PO.same hst ho (repV_tup' h1 hd r1)
  · split at ho
    · rename_i xs e
      obtain ⟨a, vs, ea, h1, r1⟩ := rep_list hst hp e
      exact sl_list pins s σ H _ v vl vu lo hi sl Q I rx hs pl pu ⟨a, vs, ea, .of h1, fresh_lst hst ho (cut_rep r1)⟩
    · exact ho.elim
def tJO (B : Bx) (W : WX) (f : OF) : TO := fun σ H Q => tK B W f σ H fun o _ _ _ H' => Q o H'
structure JO (B : Bx) (W : WX) (X : Cx) (e : Option Expr) (f : OF) : Prop where
  po : L2.PO X e (tJO B W f)
theorem jo_none : JO B W X none pNo := ⟨⟨fun pins s σ H Q I ⟨ρ, S, m, Rv, he, hs, hp⟩ => po_none.run pins s σ H Q I (Post.ok hs hp)⟩⟩
theorem jo_some (ha : JE B W X a f) : JO B W X (some a) (pSo f) := by
  refine ⟨⟨fun pins s σ H Q I h => (po_some ha.pe).run pins s σ H Q I ?_⟩⟩
  refine tK.step h fun x m1 Rv1 S1 H1 ρ he hs hp xv rx => ?_
  split at hp
  · exact ⟨_, repV_int rx, Post.ok hs hp⟩
  · exact hp.elim
theorem je_slc {lo hi : Option Expr} {p q : OF} {p2 : Pos} (hK : B.K = X.K) (ha : JE B W X a f) (hl : JO B W X lo p) (hh : JO B W X hi q) : JE B W X (.Subscript a (.Slice lo hi none p2) pos) (cSlc f p q) := by
  refine ⟨PE.imp' (pe_slice (sl_ok hK) ha.pe hl.po hh.po) fun σ H Q h => ?_⟩
  refine tK.step h fun x m1 Rv1 S1 H1 ρ he hs hp xv rx => ?_
  refine ⟨ρ, S1, m1, Rv1, he, hs, (Post.bind hs hp).mono fun l m2 Rv2 S2 H2 _ e p => ?_⟩
  refine ⟨ρ, S2, m2, Rv2, he.stay (e.stay hs), e.st, (Post.bind e.st p).mono fun u m3 Rv3 S3 H3 _ e3 p3 => ?_⟩
  exact ⟨m3, Rv3, S3, x, e3.st, RepV.stay (e3.stay e.st) _ _ (RepV.stay (e.stay hs) _ _ rx), PO.of p3⟩
/-- t[::-1] of a tuple -/
theorem fmap_congr {α β : Type} {f g : α → Option β} : ∀ {l : List α}, (∀ k ∈ l, f k = g k) → l.filterMap f = l.filterMap g
  | [], _ => rfl
  | x :: l, h => by
    rw [List.filterMap_cons, List.filterMap_cons, h x List.mem_cons_self, fmap_congr fun k hk => h k (List.mem_cons_of_mem _ hk)]
theorem getItem_tuple_rev {prog : Program} {w : World} {A : Around} {E : Value → Shared → Prop} {s : Shared} {t sl : Addr} {items : Array Value} {vs : Value} {Q : Value → Shared → Prop} (ht : IsTup s.heap t items) (hs : s.heap.IsSliceOf sl .none .none vs) (pv : IsPart vs (some (-1)))
    (h : Q (.ref s.heap.objs.size) { s with heap := s.heap.push { cls := .type "tuple", data := .seq items.toList.reverse.toArray } }) (hsz : items.size ≤ sizeLine) : wpAny (model prog w) A (getItem (.ref t) (.ref sl)) Q E s := by
  obtain ⟨os, hos, hcs, hds⟩ := id hs
  have hTs : s.TypeIs (.ref sl) "slice" := ⟨os, hos, hcs⟩
  unfold getItem
  try with_reducible refine wpAny_holding ?_
  first | refine wpAny_bind (wpAny_pure ?_) | skip
  refine wpAny_bind (wpAny_sequenceKey ht.typeIs (by decide) ?_)
  refine wpAny_bind (wpAny_callSpecial?_slot (name := Str.ofString "__getitem__") ht.typeIs PyProof.Rows.slot_tuple_getitem
    (wpAny_call_entry PyProof.Rows.slot_tuple_getitem ht.typeIs entry_tuple_getitem ?_ (args_tuple_getitem _ _)))
  show wpAny _ _ (Builtin.Tuple.tupleItemsOf (.ref t) >>= _) _ _ s
  refine wpAny_bind (tupleItemsOf_ ht ?_)
  refine wpAny_bind (wpAny_typeOf hTs ?_)
  rw [if_pos (by decide)]
  unfold Builtin.Slice.sliceApplied Builtin.Slice.sliceFields
  refine wpAny_bind (wpAny_bind (wpAny_bind (wpAny_field hos hds (x := .none) rfl (wpAny_bind (wpAny_field hos hds (x := .none) rfl (wpAny_bind (wpAny_field hos hds (x := vs) rfl (wpAny_pure ?_))))))))
  refine wpAny_bind (HT.slicePart_ pv ?_)
  show wpAny _ _ (if ((-1 : Int) == 0) = true then _ else _) _ _ s
  rw [if_neg (by decide)]
  refine wpAny_bind (HT.slicePart_ .none (wpAny_bind (HT.slicePart_ .none (wpAny_bind (wpAny_pure ?_)))))
  have ea : Builtin.Slice.sliceAdjust none none (-1) (items.size : Int) = ((items.size : Int) - 1, -1) := by
    unfold Builtin.Slice.sliceAdjust; rfl
  show wpAny _ _ (match Builtin.Slice.sliceAdjust none none (-1) (items.size : Int) with | (lo, hi) => pure (lo, (-1 : Int), Builtin.Slice.slicePlaces lo hi (-1))) _ _ s
  rw [ea]
  have ep : Builtin.Slice.slicePlaces ((items.size : Int) - 1) (-1) (-1) = items.size := by
    unfold Builtin.Slice.slicePlaces
    rw [if_neg (by decide)]
    by_cases hz : items.size = 0
    · rw [hz]; rfl
    · rw [if_pos (by omega)]
      have : ((items.size : Int) - 1 - -1 - 1) / (- -1) + 1 = items.size := by
        rw [show (- -1 : Int) = 1 by rfl, Int.ediv_one]; omega
      rw [this]; simp
  show wpAny _ _ (pure ((items.size : Int) - 1, (-1 : Int), Builtin.Slice.slicePlaces ((items.size : Int) - 1) (-1) (-1))) _ _ s
  rw [ep]
  refine wpAny_pure ?_
  have hno : ¬ ((((items.size : Int) - 1) == 0 && (-1 : Int) == 1 && items.size == items.size) = true) := by
    intro q
    rw [Bool.and_eq_true, Bool.and_eq_true] at q
    exact absurd q.1.2 (by decide)
  show wpAny _ _ (if (((items.size : Int) - 1) == 0 && (-1 : Int) == 1 && items.size == items.size) = true then _ else _) _ _ s
  rw [if_neg hno]
  have epick : ((List.range items.size).filterMap fun (k : Nat) => items[((items.size : Int) - 1 + (k : Int) * (-1)).toNat]?).toArray = items.toList.reverse.toArray := by
    have e2 : (List.range items.size).filterMap (fun (k : Nat) => items[((items.size : Int) - 1 + (k : Int) * (-1)).toNat]?) = (List.range items.size).filterMap fun k => items[items.size - 1 - k]? := by
      apply fmap_congr
      intro k hk
      have hk' := List.mem_range.mp hk
      have : ((items.size : Int) - 1 + (k : Int) * (-1)).toNat = items.size - 1 - k := by omega
      rw [this]
    rw [e2]
    have e3 : (List.range items.size).filterMap (fun k => items[items.size - 1 - k]?) = ((List.range items.size).map fun k => items.size - 1 - k).filterMap fun k => items[k]? := by
      rw [List.filterMap_map]; rfl
    rw [e3, PySem.W.krv_range, List.filterMap_reverse, PySem.W.krv_all]
  rw [epick]
  have htake : sizeOk (.seq items.toList.reverse.toArray) := by
    show items.toList.reverse.toArray.size ≤ sizeLine
    simpa using hsz
  first
    | exact wpAny_bind (m := Builtin.Tuple.tupleExact _) (wpAny_newObj_type (wpAny_pure ⟨_, rfl, wpAny_pure h⟩) htake)
    | exact wpAny_bind (m := Builtin.Tuple.tupleExact _) (wpAny_newObj_type (wpAny_bind (wpAny_pure (wpAny_pure ⟨_, rfl, wpAny_pure h⟩))) htake)
    | exact wpAny_bind (wpAny_bind (m := Builtin.Tuple.tupleExact _) (wpAny_newObj_type (wpAny_pure (wpAny_pure ⟨_, rfl, wpAny_pure h⟩)) htake))
    | exact wpAny_bind (wpAny_bind (m := Builtin.Tuple.tupleExact _) (wpAny_newObj_type (wpAny_pure ⟨_, rfl, wpAny_pure h⟩) htake))
theorem pe_rev {e : Expr} {te : TE} {k : Nat} {p1 p2 p3 : Pos} (he : PE X e te) : PE X (.Subscript e (.Slice none none (some (.UnaryOp .USub (.Constant (.int 1) k p1) p2)) p3) pos)
    (fun σ H Q => te σ H fun x H1 => (∃ a xs, x = .ref a ∧ SqL X.K H1 a xs ∧ ∀ p, H1 p = none → Q (.ref p) (upd H1 p (.lst xs.reverse))) ∨ ∃ a xs, x = .ref a ∧ SqT X.K H1 a xs ∧ Fx0.rNewT H1 xs.reverse Q) := by
  refine ⟨fun pins s σ H Q I h => ?_⟩
  refine Subscript_ (thn (he.run pins s σ H _ I h) fun v s1 ⟨x, H1, I1, r1, q1⟩ => ?_)
  have hst : L2.PO X (some (.UnaryOp .USub (.Constant (.int 1) k p1) p2)) (tPart (tUn (rU fun i => .int (-i)) (tC (.int 1)))) := po_some (pe_un un_neg pe_int)
  refine wpAny_Slice (thn (po_none.run pins s1 σ H1 (fun o H2 => o = none ∧ H2 = H1) I1 ⟨rfl, rfl⟩) fun vl s2 ⟨l, H2, I2, pl, el, e2⟩ => ?_)
  subst el e2
  refine thn (po_none.run pins s2 σ H2 (fun o H3 => o = none ∧ H3 = H2) I2 ⟨rfl, rfl⟩) fun vu s3 ⟨u, H3, I3, pu, eu, e3⟩ => ?_
  subst eu e3
  refine thn (hst.run pins s3 σ H3 (fun o H4 => o = some (-1) ∧ H4 = H3) I3 ⟨1, rfl, -1, rfl, rfl, rfl⟩) fun vs s4 ⟨o, H4, I4, ps, eo, e4⟩ => ?_
  subst eo e4
  have I5 : Inv X pins σ H4 { s4 with heap := s4.heap.push { cls := .type "slice", data := .fields #[vl, vu, vs] } } := I4.kept (t' := s4.toks) fun b ob q => Heap.get?_push_of_some _ q
  rcases q1 with ⟨a, xs, ex, hx, q⟩ | ⟨a, xs, ex, hx, q⟩
  · subst ex
    cases r1
    obtain ⟨its, r, ht, hz⟩ := I5.list hx
    have hlen := r.length
    show wpAny (model X.prog X.w) X.A (subscriptTail e (.Slice none none (some (.UnaryOp .USub (.Constant (.int 1) k p1) p2)) p3) (.ref a) (.ref s4.heap.objs.size)) (EP X pins σ Q) X.xe { s4 with heap := s4.heap.push { cls := .type "slice", data := .fields #[vl, vu, vs] } }
    refine tail_any (ops := [.ref a, .ref s4.heap.objs.size]) ht.isList.typeIs (PySem.slot_list_getitem.lookup) ?_ (by with_unfolding_all rfl)
    refine wpAny_getItem_list_slice ht.isList (Heap.IsSliceOf.new _ vl vu vs) pl pu ps (by decide) ?_ (by rw [List.size_toArray]; omega)
    rw [PySem.W.krv_pick]
    refine ⟨.ref _, _, I5.laid (t' := s4.toks) (o := .lst xs.reverse) (fun b ob q => Heap.get?_push_of_some _ q) (Nat.le_refl _) ?_, rfl, q _ (I5.hok.fresh (Nat.le_refl _))⟩
    exact ⟨by rw [List.length_reverse]; exact hz, _, 0, r.reverse, Heap.get?_push_size _ rfl⟩
  · subst ex
    cases r1
    obtain ⟨its, r, ht, hz⟩ := I5.tuple hx
    have hlen := r.length
    show wpAny (model X.prog X.w) X.A (subscriptTail e (.Slice none none (some (.UnaryOp .USub (.Constant (.int 1) k p1) p2)) p3) (.ref a) (.ref s4.heap.objs.size)) (EP X pins σ Q) X.xe { s4 with heap := s4.heap.push { cls := .type "slice", data := .fields #[vl, vu, vs] } }
    refine tail_any (ops := [.ref a, .ref s4.heap.objs.size]) ht.typeIs (PyProof.Rows.slot_tuple_getitem.lookup) ?_ (by with_unfolding_all rfl)
    cases pl
    cases pu
    refine getItem_tuple_rev ht (Heap.IsSliceOf.new _ .none .none vs) ps ?_ (by rw [List.size_toArray]; omega)
    exact ⟨.ref _, _, I5.laid (t' := s4.toks) (fun b ob q => Heap.get?_push_of_some _ q) (Nat.le_refl _) (Fx0.new_frz (s := s) (by rw [List.length_reverse]; exact hz) r.reverse (Heap.get?_push_size _ rfl)), rfl, q _ _ (I5.hok.fresh (Nat.le_refl _)) rfl⟩
theorem je_rev {k : Nat} {p1 p2 p3 : Pos} (hK : B.K = X.K) (ha : JE B W X a f) : JE B W X (.Subscript a (.Slice none none (some (.UnaryOp .USub (.Constant (.int 1) k p1) p2)) p3) pos) (cUn oRev f) := by
  refine ⟨PE.imp' (pe_rev ha.pe) fun σ H Q h => ?_⟩
  refine tK.step h fun x m1 Rv1 S1 H1 ρ he hs hp xv rx => ?_
  have ho := PO.of hp
  unfold oRev at ho
  split at ho
  · obtain ⟨a, o, vs, ea, h1, hd, r1⟩ := repV_tup rx
    exact .inr ⟨a, vs, ea, sqT h1, fresh_tup hs ho r1.rev⟩
  · split at ho
    · rename_i xs e
      obtain ⟨a, vs, ea, h1, r1⟩ := rep_list hs rx e
      exact .inl ⟨a, vs, ea, .of h1, fresh_lst hs ho r1.rev⟩
    · exact ho.elim
end
end Fx

namespace Fx
open PySem PySem.Spec PyProof.Rows L2
section
variable {B : Bx} {W : WX} {X : Cx} {m : Mp} {Rv : Rsv} {S : Sto} {N : Nat} {H : Hp} {a b c : Expr} {f g h : EF} {pos : Pos}
/-! ### built-in functions -/
def rOB (B : Bx) (o : VO) : List V → Hp → VK → Prop := fun xs H Q => ∃ m Rv S ps, Fx.St B m Rv S H ∧ RepVs B m Rv S.length H ps xs ∧ PO B m Rv S H (o ps S) Q
/-- a new list -/
def rOF (B : Bx) (o : VO) : List V → Hp → VK → Prop := fun xs H Q => ∃ m Rv S ps ys, Fx.St B m Rv S H ∧ RepVs B m Rv S.length H ps xs ∧ o ps S = some (.lst ys) ∧ ∀ vs p, RepVs B m Rv S.length H ys vs → H p = none → Q (.ref p) (upd H p (.lst vs))
theorem KF.new {Rv0 : Rsv} {H0 : Hp} {Q : VK} {W : WXs} {ys : List PV} {vs : List V} {p : Addr} (hs : Fx.St B m Rv S H) (h0 : ∀ b, ¬ Free (H0 b) → ¬ Free (H b)) (hp : Post B W m Rv S H (.ok (.lst ys) S) (KF B Rv0 H0 Q)) (r : RepVs B m Rv S.length H ys vs) (np : H p = none) : Q (.ref p) (upd H p (.lst vs)) := by
  have e2 := Ext.laidR (o := .lst vs) trivial hs np
  have nq0 : Free (H0 p) := Classical.byContradiction fun z => h0 p z (.of np)
  exact hp m _ _ e2 p vs ys rfl (.inr rfl) (fun n hn z => hs.there _ (hs.rsv n hn) (z ▸ np)) nq0 upd_same (RepVs.stay (e2.stay hs) _ _ r)
theorem je_bi {o : VO} {x : Str} {es : List Expr} {k : AF} {id : String} {p : Pos} (hc : CallR X (.builtin id) (rOB B o)) (hg : Gl X x) (hm : X.mg x = none) (hv : bootBuiltins x = some (.builtin id)) (ha : JA B W X (a :: es) k) (hn : x ≠ "__name__") (hdb : (x == ("__debug__" : Str)) = false)
    (he : starEach (a :: es) X.env = (false, eval a X.env) :: starEach es X.env) (hpl : (backTo pos (starEach es X.env)).any (·.1) = false) : JE B W X (.Call (.Name x p) (a :: es) [] pos) (cBi o k) := by
  refine ⟨PE.imp' (pe_callB hc hg hm hv ha.pa hn hdb he hpl) fun σ H Q h => ?_⟩
  refine tK.step h fun x m1 Rv1 S1 H1 ρ he hs hp xv rx => ?_
  exact ⟨m1, Rv1, S1, x, hs, rx, PO.of hp⟩
theorem je_ty {o : VO} {x : Str} {es : List Expr} {k : AF} {T : String} {p : Pos} (hc : CallR X (.type T) (rOB B o)) (hg : Gl X x) (hm : X.mg x = none) (hv : bootBuiltins x = some (.type T)) (ha : JA B W X (a :: es) k) (hn : x ≠ "__name__") (hdb : (x == ("__debug__" : Str)) = false)
    (he : starEach (a :: es) X.env = (false, eval a X.env) :: starEach es X.env) (hpl : (backTo pos (starEach es X.env)).any (·.1) = false) : JE B W X (.Call (.Name x p) (a :: es) [] pos) (cBi o k) := by
  refine ⟨PE.imp' (pe_callTy hc hg hm hv ha.pa hn hdb he hpl) fun σ H Q h => ?_⟩
  refine tK.step h fun x m1 Rv1 S1 H1 ρ he hs hp xv rx => ?_
  exact ⟨m1, Rv1, S1, x, hs, rx, PO.of hp⟩
theorem biF_imp {o : VO} {k : AF} (hl : ∀ ps S v, o ps S = some v → ∃ ys, v = .lst ys) {σ : L2.St} {H : Hp} {Q : VK} (h : tJF B W (cBi o k) σ H Q) : tCB (rOF B o) (tJA B W k) σ H Q := by
  obtain ⟨ρ, S, m, Rv, he, hs, hp⟩ := h
  refine ⟨ρ, S, m, Rv, he, hs, (Post.bind hs hp).mono fun ps m1 Rv1 S1 H1 _ e p xv rx => ?_⟩
  cases eo : o ps S1 with
  | none => rw [eo] at p; exact p.elim
  | some v =>
    obtain ⟨ys, rfl⟩ := hl _ _ _ eo
    rw [eo] at p
    exact ⟨m1, Rv1, S1, ps, ys, e.st, rx, eo, fun vs q r nq => KF.new e.st e.stays p r nq⟩
theorem jf_bi {o : VO} {x : Str} {es : List Expr} {k : AF} {id : String} {p : Pos} (hl : ∀ ps S v, o ps S = some v → ∃ ys, v = .lst ys) (hc : CallR X (.builtin id) (rOF B o)) (hg : Gl X x) (hm : X.mg x = none) (hv : bootBuiltins x = some (.builtin id)) (ha : JA B W X (a :: es) k) (hn : x ≠ "__name__") (hdb : (x == ("__debug__" : Str)) = false)
    (he : starEach (a :: es) X.env = (false, eval a X.env) :: starEach es X.env) (hpl : (backTo pos (starEach es X.env)).any (·.1) = false) : JF B W X (.Call (.Name x p) (a :: es) [] pos) (cBi o k) :=
  ⟨PE.imp' (pe_callB hc hg hm hv ha.pa hn hdb he hpl) fun σ H Q h => biF_imp hl h⟩
theorem jf_ty {o : VO} {x : Str} {es : List Expr} {k : AF} {T : String} {p : Pos} (hl : ∀ ps S v, o ps S = some v → ∃ ys, v = .lst ys) (hc : CallR X (.type T) (rOF B o)) (hg : Gl X x) (hm : X.mg x = none) (hv : bootBuiltins x = some (.type T)) (ha : JA B W X (a :: es) k) (hn : x ≠ "__name__") (hdb : (x == ("__debug__" : Str)) = false)
    (he : starEach (a :: es) X.env = (false, eval a X.env) :: starEach es X.env) (hpl : (backTo pos (starEach es X.env)).any (·.1) = false) : JF B W X (.Call (.Name x p) (a :: es) [] pos) (cBi o k) :=
  ⟨PE.imp' (pe_callTy hc hg hm hv ha.pa hn hdb he hpl) fun σ H Q h => biF_imp hl h⟩
theorem one_of {o : PV → Sto → Option PV} {ps : List PV} {S : Sto} {Q : VK} (h : PO B m Rv S H (op1 o ps S) Q) : ∃ p, ps = [p] ∧ PO B m Rv S H (o p S) Q := by
  unfold op1 at h
  split at h
  · exact ⟨_, rfl, h⟩
  · exact h.elim
theorem rep1 {p : PV} {xs : List V} (r : RepVs B m Rv N H [p] xs) : ∃ v, xs = [v] ∧ RepV B m Rv N H p v := by
  obtain ⟨w, ws, rfl, h1, h2⟩ := r.inv
  rw [h2.inv0]; exact ⟨w, rfl, h1⟩
theorem rep2 {p q : PV} {xs : List V} (r : RepVs B m Rv N H [p, q] xs) : ∃ v u, xs = [v, u] ∧ RepV B m Rv N H p v ∧ RepV B m Rv N H q u := by
  obtain ⟨w, ws, rfl, h1, h2⟩ := r.inv
  obtain ⟨u, rfl, h3⟩ := rep1 h2
  exact ⟨w, u, rfl, h1, h3⟩
theorem hc_len (hK : B.K = X.K) : CallR X (.builtin "len") (rOB B bLen) := by
  intro pins s σ H xs us Q I r h
  obtain ⟨m, Rv, S, ps, hs, rp, ho⟩ := h
  obtain ⟨p, ep, ho2⟩ := one_of ho
  clear ho
  subst ep
  have ho := ho2
  clear ho2
  obtain ⟨v, rfl, rv⟩ := rep1 rp
  split at ho
  · rename_i ys e
    obtain ⟨a, vs, rfl, h1, r1⟩ := rep_seq hs rv e
    refine call_len pins s σ H _ us Q I r ⟨.ref a, vs.length, rfl, ?_, by rw [← r1.length]; exact PO.same hs ho repV_int'⟩
    exact h1.imp (fun z => ⟨vs, .of z, rfl⟩) (fun ⟨o, z⟩ => ⟨vs, sqT z, rfl⟩)
  · split at ho
    · rename_i y _
      split at ho
      · rename_i hl
        rw [repV_str rv] at r
        exact call_len pins s σ H _ us Q I r ⟨.str y, y.length, rfl, ⟨lenOk_le hl, rfl⟩, PO.same hs ho repV_int'⟩
      · exact ho.elim
    · exact ho.elim
theorem bind_some {α β : Type} {o : Option α} {k : α → Option β} {y : β} (h : o.bind k = some y) : ∃ x, o = some x ∧ k x = some y := by
  cases o with
  | none => cases h
  | some x => exact ⟨x, rfl, h⟩
/-- a list or a tuple of ints -/
theorem rep_ints {x : PV} {v : V} {ns : List Int} (s : Fx.St B m Rv S H) (r : RepV B m Rv S.length H x v) (h : (seqOf S x).bind ints? = some ns) : ∃ a, v = .ref a ∧ (H a = some (.lst (ns.map V.int)) ∨ ∃ o, H a = some (.frz o (.tup (ns.map V.int)))) := by
  obtain ⟨xs, e1, e2⟩ := bind_some h
  obtain ⟨a, vs, rfl, h1, r1⟩ := rep_seq s r e1
  have := ints_eq e2
  subst this
  have := repVs_ints r1
  subst this
  exact ⟨a, rfl, h1⟩
theorem hc_sum (hc : X.calm = true) : CallR X (.builtin "sum") (rOB B bSum) := by
  intro pins s σ H xs us Q I r h
  obtain ⟨m, Rv, S, ps, hs, rp, ho⟩ := h
  obtain ⟨p, ep, ho2⟩ := one_of ho
  clear ho
  subst ep
  have ho := ho2
  clear ho2
  obtain ⟨v, rfl, rv⟩ := rep1 rp
  split at ho
  · rename_i ns e
    obtain ⟨a, rfl, h1⟩ := rep_ints hs rv e
    rcases h1 with h1 | ⟨o, h1⟩
    · exact cr_sum hc pins s σ H _ us Q I r ⟨a, ns, rfl, .of h1, PO.same hs ho repV_int'⟩
    · obtain ⟨its, r2, pl, _⟩ := I.tuple (sqT h1)
      rw [Vals.ref1 r]
      exact Fx0.sum_tup (I.ok.hd hc) pl r2.ints fun h' tk t' hk => ⟨.int _, H, I.kept hk, ⟨_, rfl⟩, PO.same hs ho repV_int'⟩
  · exact ho.elim
theorem maxI_mem : ∀ (ns : List Int) (n : Int), maxI n ns ∈ n :: ns ∧ ∀ y ∈ n :: ns, y ≤ maxI n ns
  | [], n => ⟨by simp [maxI], by simp [maxI]⟩
  | x :: xs, n => by
    unfold maxI
    obtain ⟨h1, h2⟩ := maxI_mem xs (if x > n then x else n)
    generalize maxI (if x > n then x else n) xs = M at h1 h2
    refine ⟨?_, fun y hy => ?_⟩
    · rcases List.mem_cons.mp h1 with e | e
      · rw [e]; split <;> simp
      · simp [e]
    · have h0 := h2 _ List.mem_cons_self
      rcases List.mem_cons.mp hy with e | hy
      · subst e; split at h0 <;> omega
      · rcases List.mem_cons.mp hy with e | hy
        · subst e; split at h0 <;> omega
        · exact h2 y (List.mem_cons_of_mem _ hy)
theorem minI_mem : ∀ (ns : List Int) (n : Int), minI n ns ∈ n :: ns ∧ ∀ y ∈ n :: ns, minI n ns ≤ y
  | [], n => ⟨by simp [minI], by simp [minI]⟩
  | x :: xs, n => by
    unfold minI
    obtain ⟨h1, h2⟩ := minI_mem xs (if x < n then x else n)
    generalize minI (if x < n then x else n) xs = M at h1 h2
    refine ⟨?_, fun y hy => ?_⟩
    · rcases List.mem_cons.mp h1 with e | e
      · rw [e]; split <;> simp
      · simp [e]
    · have h0 := h2 _ List.mem_cons_self
      rcases List.mem_cons.mp hy with e | hy
      · subst e; split at h0 <;> omega
      · rcases List.mem_cons.mp hy with e | hy
        · subst e; split at h0 <;> omega
        · exact h2 y (List.mem_cons_of_mem _ hy)
theorem hc_max (hc : X.calm = true) : CallR X (.builtin "max") (rOB B bMax) := by
  intro pins s σ H xs us Q I r h
  obtain ⟨m, Rv, S, ps, hs, rp, ho⟩ := h
  unfold bMax at ho
  split at ho
  · rename_i i j
    obtain ⟨v, u, rfl, r1, r2⟩ := rep2 rp
    rw [repV_int r1, repV_int r2] at r
    exact call_max2 hc pins s σ H _ us Q I r ⟨i, j, rfl, PO.same hs ho repV_int'⟩
  · rename_i x
    obtain ⟨v, rfl, rv⟩ := rep1 rp
    split at ho
    · rename_i n ns e
      obtain ⟨a, rfl, h1⟩ := rep_ints hs rv e
      have q := PO.same hs ho repV_int'
      obtain ⟨m1, m2⟩ := maxI_mem ns n
      have key : ∀ M, M ∈ n :: ns → (∀ y, y ∈ n :: ns → y ≤ M) → Q (.int M) H := fun M hM hy => by
        have : M = maxI n ns := by
          have a1 := hy _ m1
          have a2 := m2 _ hM
          omega
        rw [this]; exact q
      rcases h1 with h1 | ⟨o, h1⟩
      · exact cr_max hc pins s σ H _ us Q I r ⟨a, n :: ns, rfl, .of h1, by simp, key⟩
      · obtain ⟨its, r2, pl, _⟩ := I.tuple (sqT h1)
        rw [Vals.ref1 r]
        exact Fx0.max_tup (I.ok.hd hc) pl r2.ints (by simp) fun h' tk M t' hk hM hy => ⟨.int _, H, I.kept hk, ⟨_, rfl⟩, key M hM hy⟩
    · exact ho.elim
  · exact ho.elim
theorem hc_min (hc : X.calm = true) : CallR X (.builtin "min") (rOB B bMin) := by
  intro pins s σ H xs us Q I r h
  obtain ⟨m, Rv, S, ps, hs, rp, ho⟩ := h
  unfold bMin at ho
  split at ho
  · rename_i i j
    obtain ⟨v, u, rfl, r1, r2⟩ := rep2 rp
    rw [repV_int r1, repV_int r2] at r
    exact call_min2 hc pins s σ H _ us Q I r ⟨i, j, rfl, PO.same hs ho repV_int'⟩
  · rename_i x
    obtain ⟨v, rfl, rv⟩ := rep1 rp
    split at ho
    · rename_i n ns e
      obtain ⟨a, rfl, h1⟩ := rep_ints hs rv e
      have q := PO.same hs ho repV_int'
      obtain ⟨m1, m2⟩ := minI_mem ns n
      have key : ∀ M, M ∈ n :: ns → (∀ y, y ∈ n :: ns → M ≤ y) → Q (.int M) H := fun M hM hy => by
        have : M = minI n ns := by
          have a1 := hy _ m1
          have a2 := m2 _ hM
          omega
        rw [this]; exact q
      rcases h1 with h1 | ⟨o, h1⟩
      · exact cr_min hc pins s σ H _ us Q I r ⟨a, n :: ns, rfl, .of h1, by simp, key⟩
      · obtain ⟨its, r2, pl, _⟩ := I.tuple (sqT h1)
        rw [Vals.ref1 r]
        exact Fx0.min_tup (I.ok.hd hc) pl r2.ints (by simp) fun h' tk M t' hk hM hy => ⟨.int _, H, I.kept hk, ⟨_, rfl⟩, key M hM hy⟩
    · exact ho.elim
  · exact ho.elim
theorem rep_bools {x : PV} {v : V} {ns : List Bool} (s : Fx.St B m Rv S H) (r : RepV B m Rv S.length H x v) (h : (listOf S x).bind bools? = some ns) : ∃ a, v = .ref a ∧ H a = some (.lst (ns.map V.bl)) := by
  obtain ⟨xs, e1, e2⟩ := bind_some h
  obtain ⟨a, vs, rfl, h1, r1⟩ := rep_list s r e1
  have := bools_eq e2
  subst this
  have := repVs_bools r1
  subst this
  exact ⟨a, rfl, h1⟩
theorem hc_all (hc : X.calm = true) : CallR X (.builtin "all") (rOB B bAll) := by
  intro pins s σ H xs us Q I r h
  obtain ⟨m, Rv, S, ps, hs, rp, ho⟩ := h
  obtain ⟨p, ep, ho2⟩ := one_of ho
  clear ho
  subst ep
  have ho := ho2
  clear ho2
  obtain ⟨v, rfl, rv⟩ := rep1 rp
  split at ho
  · rename_i ns e
    obtain ⟨a, rfl, h1⟩ := rep_bools hs rv e
    exact cr_all hc pins s σ H _ us Q I r ⟨a, ns, rfl, .of h1, PO.same hs ho repV_bl'⟩
  · exact ho.elim
theorem hc_any (hc : X.calm = true) : CallR X (.builtin "any") (rOB B bAny) := by
  intro pins s σ H xs us Q I r h
  obtain ⟨m, Rv, S, ps, hs, rp, ho⟩ := h
  obtain ⟨p, ep, ho2⟩ := one_of ho
  clear ho
  subst ep
  have ho := ho2
  clear ho2
  obtain ⟨v, rfl, rv⟩ := rep1 rp
  split at ho
  · rename_i ns e
    obtain ⟨a, rfl, h1⟩ := rep_bools hs rv e
    exact cr_any hc pins s σ H _ us Q I r ⟨a, ns, rfl, .of h1, PO.same hs ho repV_bl'⟩
  · exact ho.elim
theorem hc_abs : CallR X (.builtin "abs") (rOB B bAbs) := by
  intro pins s σ H xs us Q I r h
  obtain ⟨m, Rv, S, ps, hs, rp, ho⟩ := h
  obtain ⟨p, ep, ho2⟩ := one_of ho
  clear ho
  subst ep
  have ho := ho2
  clear ho2
  obtain ⟨v, rfl, rv⟩ := rep1 rp
  split at ho
  · rename_i i
    rw [repV_int rv] at r
    exact call_abs pins s σ H _ us Q I r ⟨i, rfl, PO.same hs ho repV_int'⟩
  · exact ho.elim
theorem hc_int : CallR X (.type "int") (rOB B bInt) := by
  intro pins s σ H xs us Q I r h
  obtain ⟨m, Rv, S, ps, hs, rp, ho⟩ := h
  obtain ⟨p, ep, ho2⟩ := one_of ho
  clear ho
  subst ep
  have ho := ho2
  clear ho2
  obtain ⟨v, rfl, rv⟩ := rep1 rp
  split at ho
  · rename_i i
    rw [repV_int rv] at r
    exact call_int1 pins s σ H _ us Q I r (.inl ⟨i, rfl, PO.same hs ho repV_int'⟩)
  · rename_i i
    rw [repV_bl rv] at r
    exact call_int1 pins s σ H _ us Q I r (.inr ⟨i, rfl, PO.same hs ho repV_int'⟩)
  · exact ho.elim
theorem hc_tuple : CallR X (.type "tuple") (rOB B bTuple) := by
  intro pins s σ H xs us Q I r h
  obtain ⟨m, Rv, S, ps, hs, rp, ho⟩ := h
  obtain ⟨p, ep, ho2⟩ := one_of ho
  clear ho
  subst ep
  have ho := ho2
  clear ho2
  obtain ⟨v, rfl, rv⟩ := rep1 rp
  split at ho
  · rename_i ys e
    cases p with
    | tup zs =>
      cases e
      obtain ⟨a, o, vs, rfl, h1, hd, r1⟩ := repV_tup rv
      exact Fx0.call_tupF pins s σ H _ us Q I r ⟨a, vs, rfl, .inr ⟨sqT h1, PO.same hs ho (repV_tup' h1 hd r1)⟩⟩
    | lst zs =>
      obtain ⟨a, vs, rfl, h1, r1⟩ := rep_list hs rv e
      exact Fx0.call_tupF pins s σ H _ us Q I r ⟨a, vs, rfl, .inl ⟨.of h1, fresh_tup hs ho r1⟩⟩
    | ref n =>
      obtain ⟨a, vs, rfl, h1, r1⟩ := rep_list hs rv e
      exact Fx0.call_tupF pins s σ H _ us Q I r ⟨a, vs, rfl, .inl ⟨.of h1, fresh_tup hs ho r1⟩⟩
    | _ => cases e
  · exact ho.elim
theorem hc_str : CallR X (.type "str") (rOB B bStr) := by
  intro pins s σ H xs us Q I r h
  obtain ⟨m, Rv, S, ps, hs, rp, ho⟩ := h
  obtain ⟨p, ep, ho2⟩ := one_of ho
  clear ho
  subst ep
  have ho := ho2
  clear ho2
  obtain ⟨v, rfl, rv⟩ := rep1 rp
  split at ho
  · rename_i a
    rw [repV_str rv] at r
    exact SkE.call_str_str pins s σ H _ us Q I r ⟨a, rfl, PO.same hs ho (by unfold RepV; rfl)⟩
  · rename_i i
    split at ho
    · rename_i hl
      rw [repV_int rv] at r
      exact call_str_int pins s σ H _ us Q I r ⟨i, rfl, of_decide_eq_true hl, PO.same hs ho (by unfold RepV; rfl)⟩
    · exact ho.elim
  · exact ho.elim
theorem bList_lst : ∀ ps S v, bList ps S = some v → ∃ ys, v = PV.lst ys := fun ps S v h => by
  unfold bList op1 at h
  split at h
  · dsimp only at h
    split at h
    · cases h; exact ⟨_, rfl⟩
    · split at h
      · cases h; exact ⟨_, rfl⟩
      · cases h
  · cases h
theorem bSorted_lst : ∀ ps S v, bSorted ps S = some v → ∃ ys, v = PV.lst ys := fun ps S v h => by
  unfold bSorted op1 at h
  split at h
  · dsimp only at h
    split at h
    · cases h; exact ⟨_, rfl⟩
    · cases h
  · cases h
theorem hc_list (hK : B.K = X.K) : CallR X (.type "list") (rOF B bList) := by
  intro pins s σ H xs us Q I r h
  obtain ⟨m, Rv, S, ps, ys, hs, rp, eo, q⟩ := h
  unfold bList op1 at eo
  split at eo
  · rename_i p
    obtain ⟨v, rfl, rv⟩ := rep1 rp
    dsimp only at eo
    split at eo
    · rename_i ns
      cases eo
      unfold RepV at rv
      obtain ⟨a, rfl, h1⟩ := rv
      have hl : SqL X.K H a (ns.map V.int) := by
        rcases h1 with ⟨o, h1⟩ | h1 | ⟨h1, _⟩
        · exact .inl (.inr ⟨o, h1⟩)
        · rw [← hK]
          rcases h1 with h1 | h1
          · rcases h1 with h1 | ⟨o, h1⟩
            · cases h1
            · cases h1
          · exact .inr h1
        · exact .inl (.inl h1)
      exact call_list_of pins s σ H _ us Q I r ⟨a, _, rfl, .inl hl, fun l nl => q _ l (RepVs.ints ns) nl⟩
    · split at eo
      · rename_i zs e
        cases eo
        obtain ⟨a, vs, rfl, h1, r1⟩ := rep_seq hs rv e
        exact call_list_of pins s σ H _ us Q I r ⟨a, vs, rfl, h1.imp .of (fun ⟨o, z⟩ => sqT z), fun l nl => q vs l r1 nl⟩
      · cases eo
  · cases eo
theorem insI_perm (x : Int) : ∀ xs : List Int, (insI x xs).Perm (x :: xs)
  | [] => .refl _
  | y :: ys => by
    unfold insI
    split
    · exact .refl _
    · exact ((insI_perm x ys).cons y).trans (.swap x y ys)
theorem sortI_perm : ∀ xs : List Int, (sortI xs).Perm xs
  | [] => .refl _
  | x :: xs => (insI_perm x (sortI xs)).trans ((sortI_perm xs).cons x)
theorem insI_sorted (x : Int) : ∀ xs : List Int, xs.Pairwise (· ≤ ·) → (insI x xs).Pairwise (· ≤ ·)
  | [], _ => by simp [insI]
  | y :: ys, h => by
    unfold insI
    split
    · rename_i hxy
      refine List.pairwise_cons.mpr ⟨fun z hz => ?_, h⟩
      rcases List.mem_cons.mp hz with e | hz
      · subst e; exact hxy
      · exact Int.le_trans hxy ((List.pairwise_cons.mp h).1 z hz)
    · rename_i hxy
      refine List.pairwise_cons.mpr ⟨fun z hz => ?_, insI_sorted x ys (List.pairwise_cons.mp h).2⟩
      rcases List.mem_cons.mp ((insI_perm x ys).mem_iff.mp hz) with e | hz
      · subst e; omega
      · exact (List.pairwise_cons.mp h).1 z hz
theorem sortI_sorted : ∀ xs : List Int, (sortI xs).Pairwise (· ≤ ·)
  | [] => .nil
  | x :: xs => insI_sorted x _ (sortI_sorted xs)
theorem sorted_one : ∀ {xs ys : List Int}, xs.Perm ys → xs.Pairwise (· ≤ ·) → ys.Pairwise (· ≤ ·) → xs = ys
  | [], ys, p, _, _ => p.nil_eq
  | x :: xs, [], p, _, _ => absurd p.length_eq (by simp)
  | x :: xs, y :: ys, p, h1, h2 => by
    have hx : x ∈ y :: ys := p.mem_iff.mp List.mem_cons_self
    have hy : y ∈ x :: xs := p.mem_iff.mpr List.mem_cons_self
    have e : x = y := by
      have a1 : y ≤ x := by
        rcases List.mem_cons.mp hx with e | e
        · omega
        · exact (List.pairwise_cons.mp h2).1 x e
      have a2 : x ≤ y := by
        rcases List.mem_cons.mp hy with e | e
        · omega
        · exact (List.pairwise_cons.mp h1).1 y e
      omega
    subst e
    rw [sorted_one (p.cons_inv) (List.pairwise_cons.mp h1).2 (List.pairwise_cons.mp h2).2]
theorem cr_sortedTI : CallR X (.builtin "sorted") (fun vs H Q => ∃ (a : Addr) (ns : List Int), vs = [V.ref a] ∧ SqT X.K H a (ns.map V.int) ∧ ∀ (ns' : List Int) (p : Addr), ns'.Perm ns → ns'.Pairwise (· ≤ ·) → H p = none → Q (.ref p) (upd H p (.lst (ns'.map V.int)))) := by
  intro pins s σ H vs us Q I r h
  obtain ⟨a, ns, rfl, hs, q⟩ := h
  obtain ⟨its, rv, ⟨o, ho, hc, n, hd⟩, hz⟩ := I.tuple hs
  rw [Vals.ref1 r]
  have hi := rv.ints
  have hz' : its.length ≤ sizeLine := by rw [← rv.length]; exact hz
  refine Calls.call_function_entry kind_sorted plain_sorted entry_sorted (args_sorted1 _) ?_
  unfold Builtin.«sorted»
  refine wpAny_bind (m := checkCount "sorted" 1 1 _) (wpAny_pure ?_)
  refine wpAny_bind (wpAny_collect_seq a (items := its.toArray) (.inr rfl) ho hc hd (fun h1 k1 => ?_) (by simpa using hz'))
  have el : its.toArray.toList = its := by simp
  rw [el]
  refine wpAny_bind (wpAny_newList ?_ hz')
  have I1 : Inv X pins σ H { s with heap := h1 } := I.kept (t' := s.toks) k1
  have hoL : (h1.push (seqObj "list" its.toArray 0)).get? h1.objs.size = some (seqObj "list" its.toArray 0) := Heap.get?_push_size _ rfl
  show wpAny _ _ _ _ _ { s with heap := h1.push (seqObj "list" its.toArray 0) }
  refine wpAny_bind (wpAny_holding (wpAny_call_entry slot_list_sort ⟨_, hoL, rfl⟩ entry_list_sort (SrtO.list_sort_ord SrtO.swo_int hoL hz' (fun h2 => SrtO.ints_sortable hi h2) fun out hs hb => ⟨_, rfl, ?_⟩) (args_list_sort _)))
  refine wpAny_pure ⟨_, rfl, ?_⟩
  obtain ⟨c1, c2, c3⟩ := SrtO.ints_out hi hs hb
  obtain ⟨ep, he'⟩ := sortedHeap_at (out := out.toArray) hoL
  have hlen : ((out.map SrtO.iv).map V.int).length ≤ sizeLine := by
    rw [List.length_map, c2.length_eq]
    rw [List.length_map] at hz
    exact hz
  have nf : H h1.objs.size = none := I1.hok.fresh (Nat.le_refl _)
  refine ⟨.ref _, upd H h1.objs.size (.lst ((out.map SrtO.iv).map V.int)), I1.laid (t' := s.toks) (fun b u e => ?_) (Nat.le_refl _) ⟨hlen, out, ep, vals_of_ints c1, he'⟩, rfl, q _ _ c2 c3 nf⟩
  have hb : b < h1.objs.size := Heap.lt_size e
  rw [sortedHeap_old (Nat.ne_of_lt hb) (by rw [Heap.size_push]; exact Nat.lt_succ_of_lt hb)]
  exact Heap.get?_push_of_some _ e
theorem hc_sorted (hK : B.K = X.K) : CallR X (.builtin "sorted") (rOF B bSorted) := by
  intro pins s σ H xs us Q I r h
  obtain ⟨m, Rv, S, ps, ys, hs, rp, eo, q⟩ := h
  unfold bSorted op1 at eo
  split at eo
  · rename_i p
    obtain ⟨v, rfl, rv⟩ := rep1 rp
    dsimp only at eo
    split at eo
    · rename_i ns e
      cases eo
      obtain ⟨l, e1, e2⟩ := bind_some e
      obtain ⟨a, vs, rfl, h1, r1⟩ := rep_seq hs rv e1
      have := ints_eq e2
      subst this
      have := repVs_ints r1
      subst this
      have fin : ∀ (ns' : List Int) (p : Addr), ns'.Perm ns → ns'.Pairwise (· ≤ ·) → H p = none → Q (.ref p) (upd H p (.lst (ns'.map V.int))) := fun ns' p hp ho np => by
        have : ns' = sortI ns := sorted_one (hp.trans (sortI_perm ns).symm) ho (sortI_sorted ns)
        subst this
        exact q _ p (RepVs.ints _) np
      rcases h1 with h1 | ⟨o, h1⟩
      · exact cr_sortedI pins s σ H _ us Q I r ⟨a, ns, rfl, .of h1, fin⟩
      · exact cr_sortedTI pins s σ H _ us Q I r ⟨a, ns, rfl, sqT h1, fin⟩
    · cases eo
  · cases eo
end
end Fx

/-! Fx7: what loops walk: lists, tuples, ranges, zip, enumerate. -/
namespace Fx
open PySem PySem.Spec PyProof.Rows L2

theorem meets_enumerate_newB1 {v : Value} {o : Obj} {H : Heap → Prop} (B : Begins v o H) :
    Meets (Builtin.«enumerate.__new__» ⟨[.type "enumerate", v], []⟩) (fun _ R s => H s.heap ∧
      R (.ok (.ret (.ref (s.heap.push o).objs.size))) { s with heap := (s.heap.push o).push { cls := .type "enumerate", data := .fields #[.none, .bool false, .ref s.heap.objs.size, rawInt 0, .none, .none] } }) :=
  .of_wp fun prog w A R s h => by
    obtain ⟨hp, g, d, tk, os⟩ := s; obtain ⟨h1, h⟩ := h
    have hsub := sub_enumerate
    have q1 : ∀ {A' : Around} {E : Value → Shared → Prop} {Q : Value → Shared → Prop}, Q (.ref hp.objs.size) ⟨hp.push o, g, d, tk, os⟩ → wpAny (model prog w) A' (pyIter v) Q E ⟨hp, g, d, tk, os⟩ :=
      fun q => B.iter prog w _ _ ⟨hp, g, d, tk, os⟩ _ h1 q
    wp_walk using q1
    refine wpAny_stack_any fun st => wpAny_pure ?_
    split
    · rename_i c _ _ _ _ _
      cases (c == Value.type "enumerate")
      · wp_walk using q1
        exact ⟨_, rfl, h⟩
      · wp_walk using q1
        exact ⟨_, rfl, h⟩
    · wp_walk using q1
      exact ⟨_, rfl, h⟩
theorem enum_begins1 {prog : Program} {w : World} {A : Around} {E : Value → Shared → Prop} {s : Shared} {v : Value} {o : Obj} {H : Heap → Prop} {Q : Value → Shared → Prop} (B : Begins v o H) (h1 : H s.heap)
    (h : ∀ h', IsEnum h' (s.heap.objs.size + 1) s.heap.objs.size 0 .none → h'.get? s.heap.objs.size = some o → h'.objs.size = s.heap.objs.size + 2 →
      (∀ b o, s.heap.get? b = some o → h'.get? b = some o) → Q (.ref (s.heap.objs.size + 1)) { s with heap := h' }) :
    wpAny (model prog w) A (call (.type "enumerate") [v]) Q E s := by
  refine callType_new F.called_enumerate (by decide) (F.typeCall_enumerate_1 _) (F.newCall_enumerate_1 _) (fun obj => F.args_object_init_2 obj _) F.entry_enumerate_new
    (meets_enumerate_newB1 B) ⟨h1, ?_⟩
  have hz : (s.heap.push o).objs.size = s.heap.objs.size + 1 := Heap.size_push ..
  show _ ∧ _
  rw [hz]
  have he : IsEnum ((s.heap.push o).push { cls := .type "enumerate", data := .fields #[.none, .bool false, .ref s.heap.objs.size, rawInt 0, .none, .none] }) (s.heap.objs.size + 1) s.heap.objs.size 0 .none := by
    have := Heap.get?_push_size (s.heap.push o) (o := { cls := .type "enumerate", data := .fields #[.none, .bool false, .ref s.heap.objs.size, rawInt 0, .none, .none] }) rfl
    rw [hz] at this; exact this
  refine ⟨⟨_, he, rfl⟩, h _ he (Heap.get?_push_of_some _ (Heap.get?_push_size _ B.free)) (by rw [Heap.size_push, hz]) fun b o x => Heap.get?_push_of_some _ (Heap.get?_push_of_some _ x)⟩

/-! ### rows -/
def JR {C : Type} (rows : C → List (List V)) (Hd : C → Hp → Prop) : It :=
  ⟨fun i H => ∃ c, Hd c H ∧ i < (rows c).length, fun i H v H' => ∃ T vs, v = .ref T ∧ H T = none ∧ H' = upd H T (.tup vs) ∧ ∀ c, Hd c H → (rows c)[i]? = some vs, fun i H => ∃ c, Hd c H ∧ i = (rows c).length⟩
theorem turn_rows {C D : Type} {P : Program} {w : World} {K : PySem.W.Frag} {elts : List Expr} {kk : Nat} {tpos : Pos} {rows : C → List (List V)} {Hd : C → Hp → Prop} {rel : C → D → Prop} {I : Addr} {ow wr : List Addr} {Pt : D → Nat → Array Value → Prop} {Ow : Nat → Heap → Prop} {Ba : D → Heap → Prop}
    (hW : ∀ c d, rel c d → ∀ A : Around, A.handled = none → ∃ fp Mid, WalksT P w A I fp wr (rows c).length (Pt d) (fun i h => Ow i h ∧ Ba d h) Mid) (hwr : ∀ b ∈ wr, b ∈ ow) (hI : I ∈ ow)
    (hobj : ∀ i h, Ow i h → ∀ b ∈ ow, ∃ o, h.get? b = some o ∧ ∀ v, o.data ≠ .cell v)
    (hkeep : ∀ i h h', Ow i h → (∀ b ∈ ow, ∀ o, h.get? b = some o → h'.get? b = some o) → Ow i h')
    (hself : ∀ (A : Around) (i : Nat) (s : Shared) (Q : Value → Shared → Prop) (E : Value → Shared → Prop), Ow i s.heap → Q (.ref I) s → wpAny (model P w) A (pyIter (.ref I)) Q E s)
    (hBa : ∀ (X : Cx) pins σ H s c, X.prog = P → X.w = w → X.K = K → Inv X pins σ H s → Hd c H → ∃ d, rel c d ∧ Ba d s.heap)
    (hfun : ∀ c c' H, Hd c H → Hd c' H → c = c')
    (hPt : ∀ c d, rel c d → ∀ i vals, Pt d i vals → i < (rows c).length → ∃ vs, (rows c)[i]? = some vs ∧ Vals vs vals.toList ∧ vs.length ≤ sizeLine) :
    Turn P w K (.Tuple elts kk tpos) (JR rows Hd) ow I Ow where
  mem := hI
  obj := hobj
  keep := hkeep
  item := by
    intro X hP hw hK hc i pins s σ H E Iv hf st hg
    obtain ⟨c, hd, hi⟩ := hg
    obtain ⟨d, hr, hb⟩ := hBa X pins σ H s c hP hw hK Iv hd
    obtain ⟨fp, Mid, W⟩ := hW c d hr X.A (Iv.ok.hd hc)
    refine W.item i s _ E hi ⟨st, hb⟩ fun T vals h' tk hp hT ht hm hk => ?_
    refine ⟨_, rfl, ?_⟩
    refine W.go elts kk tpos i T { s with heap := h', toks := tk } _ E hm fun h'' st'' hk'' => ?_
    obtain ⟨vs, hr, hv, hz⟩ := hPt c d hr i vals hp hi
    have ht'' : h''.IsTuple T vals := ht.at fun o e => hk'' T o (W.apart i T h' hm) e
    have new : ObjOk X.prog X.w (upd H T (.tup vs)) h'' T (.tup vs) := ⟨hz, vals.toList, hv, by rw [Array.toArray_toList]; exact ht''⟩
    have I1 : Inv X pins σ (upd H T (.tup vs)) { s with heap := h'', toks := tk } :=
      Iv.turnedNew (ch := wr) (fun b ob hb q => hk'' b ob hb (hk b ob hb q)) (fun b hb => hf b (hwr b hb)) hT new
    refine ⟨.ref T, _, I1, rfl, ⟨T, vs, rfl, Iv.hok.fresh hT, rfl, fun c' hc' => by rw [hfun c' c H hc' hd]; exact hr⟩, st''.1, fun b hb => ?_⟩
    obtain ⟨ob, e, _⟩ := hobj i s.heap st b hb
    rw [upd_ne (Nat.ne_of_lt (Nat.lt_of_lt_of_le (Heap.lt_size e) hT))]
    exact (hf b hb).1
  done := by
    intro X hP hw hK hc i pins s σ H E Iv hf st hg
    obtain ⟨c, hd, rfl⟩ := hg
    obtain ⟨d, hr, hb⟩ := hBa X pins σ H s c hP hw hK Iv hd
    obtain ⟨fp, Mid, W⟩ := hW c d hr X.A (Iv.ok.hd hc)
    refine W.done s _ E ⟨st, hb⟩ fun h' tk hk => ⟨rfl, ?_⟩
    have nit : ∀ b u, H b = some u → b ∉ wr := fun b u e z => by
      have q := (hf b (hwr b z)).1
      rw [q] at e; cases e
    refine Iv.step (g' := s.gens) (d' := s.drawn) (ch := wr) (fun b hb => ⟨(hf b (hwr b hb)).2.2.2.1, (hf b (hwr b hb)).2.1, (hf b (hwr b hb)).2.2.2.2.1, (hf b (hwr b hb)).2.2.2.2.2⟩) (fun b o _ _ hc e _ => hk b o hc e) (fun b o _ _ hc e _ => ⟨o.slots, hk b o hc e⟩)
      (fun b o _ e n => n) (fun b o hc e => ⟨o, hk b o hc e⟩) (fun b xs e => e) (fun b o u e => e) (fun b ps e => ⟨#[], ?_⟩) (fun m hm => ?_) (fun b u e => ?_) Iv.bare
    · rw [e]; simp
    · obtain ⟨o, es, ep, ho, r⟩ := hm
      exact ⟨o, es, ep, hk _ o (fun z => (hf _ (hwr _ z)).2.1 rfl) ho, r⟩
    · refine (Iv.hok b u e).stay (fun c v hc q => hk c v ?_ q) (fun c q => q) fun c xs q => q
      rcases hc with z | z
      · rw [z]; exact nit b u e
      · exact nit c _ z
  self := hself

/-! ### a list or a tuple that is walked -/
def sObj (k : Bool) (a : Addr) : Obj := { cls := .type (if k then "list_iterator" else "tuple_iterator"), data := .fields #[.ref a, .int 0 0] }
def sIt (k : Bool) (it a : Addr) (i : Nat) (h : Heap) : Prop := if k then h.IsListIter it a i else h.IsTupleIter it a i
def sBa (k : Bool) (a : Addr) (items : Array Value) (h : Heap) : Prop := if k then h.IsList a items else h.IsTuple a items
def sHd (k : Bool) (H : Hp) (a : Addr) (xs : List V) : Prop := if k then H a = some (.lst xs) else ∃ o, H a = some (.frz o (.tup xs))
theorem sIt.keep {k : Bool} {it a : Addr} {i : Nat} {h h' : Heap} (x : sIt k it a i h) (e : ∀ o, h.get? it = some o → h'.get? it = some o) : sIt k it a i h' := by
  cases k with
  | true => exact Heap.IsListIter.at (show h.IsListIter it a i from x) e
  | false => exact Heap.IsTupleIter.at (show h.IsTupleIter it a i from x) e
theorem sIt.obj {k : Bool} {it a : Addr} {i : Nat} {h : Heap} (x : sIt k it a i h) : ∃ o, h.get? it = some o ∧ ∀ v, o.data ≠ .cell v := by
  cases k with
  | true => obtain ⟨o, ho, hc, hd⟩ := (show h.IsListIter it a i from x); exact ⟨o, ho, fun v e => by rw [hd] at e; cases e⟩
  | false => obtain ⟨o, ho, hc, hd⟩ := (show h.IsTupleIter it a i from x); exact ⟨o, ho, fun v e => by rw [hd] at e; cases e⟩
theorem sBegins (k : Bool) (a : Addr) (items : Array Value) : Begins (.ref a) (sObj k a) (sBa k a items) := by
  cases k with
  | true => exact begins_list a items
  | false => exact begins_tuple a items
theorem sIt.new {k : Bool} {it a : Addr} {h : Heap} (e : h.get? it = some (sObj k a)) : sIt k it a 0 h := by
  cases k with
  | true => exact ⟨_, e, rfl, rfl⟩
  | false => exact ⟨_, e, rfl, rfl⟩
theorem sDraws {P : Program} {w : World} {A : Around} (hh : A.handled = none) (k : Bool) (it a : Addr) (hne : a ≠ it) (items : Array Value) :
    Draws P w A it [it, a] items.size (fun i v => items[i]? = some v) (fun i h => sIt k it a i h ∧ sBa k a items h) := by
  cases k with
  | true => exact Draws.list hh it a hne items
  | false => exact Draws.tuple hh it a hne items
theorem sHd.ba {X : Cx} {pins : List (Addr × Obj)} {σ : L2.St} {H : Hp} {s : Shared} {k : Bool} {a : Addr} {xs : List V} (I : Inv X pins σ H s) (h : sHd k H a xs) : ∃ its : List Value, Vals xs its ∧ sBa k a its.toArray s.heap ∧ xs.length ≤ sizeLine := by
  cases k with
  | true =>
    obtain ⟨its, r, p, z⟩ := I.list (xs := xs) (.of h)
    exact ⟨its, r, p.isList, z⟩
  | false =>
    obtain ⟨o, h⟩ := h
    obtain ⟨its, r, p, z⟩ := I.tuple (xs := xs) (a := a) (.inl (.inr ⟨o, h⟩))
    exact ⟨its, r, p, z⟩
theorem sHd.inj {X : Cx} {pins : List (Addr × Obj)} {σ : L2.St} {H H' : Hp} {s s' : Shared} {k : Bool} {a : Addr} {xs : List V} {items : Array Value} (I : Inv X pins σ H s) (h : sHd k H a xs) (b : sBa k a items s.heap) : Vals xs items.toList := by
  obtain ⟨its, r, p, _⟩ := h.ba I
  have e : its.toArray = items := by
    cases k with
    | true =>
      obtain ⟨o, ho, hc, n, hd⟩ := (show s.heap.IsList a its.toArray from p)
      obtain ⟨o', ho', hc', n', hd'⟩ := (show s.heap.IsList a items from b)
      rw [ho] at ho'; cases ho'
      rw [hd] at hd'; injection hd'
    | false =>
      obtain ⟨o, ho, hc, n, hd⟩ := (show s.heap.IsTuple a its.toArray from p)
      obtain ⟨o', ho', hc', n', hd'⟩ := (show s.heap.IsTuple a items from b)
      rw [ho] at ho'; cases ho'
      rw [hd] at hd'; injection hd'
  rw [← e]; exact r
def enumV (i : Int) : List V → List (List V)
  | [] => []
  | x :: xs => [.int i, x] :: enumV (i + 1) xs
theorem enumV_get : ∀ (xs : List V) (c : Int) (i : Nat), (enumV c xs)[i]? = (xs[i]?).map fun x => [V.int (c + i), x]
  | [], c, i => rfl
  | x :: xs, c, 0 => by simp [enumV]
  | x :: xs, c, i + 1 => by
    show (enumV (c + 1) xs)[i]? = _
    rw [enumV_get xs (c + 1) i]
    simp only [List.getElem?_cons_succ]
    congr 1
    funext y
    congr 2
    omega
theorem enumV_length : ∀ (xs : List V) (c : Int), (enumV c xs).length = xs.length
  | [], _ => rfl
  | x :: xs, c => by show (enumV (c + 1) xs).length + 1 = _; rw [enumV_length xs]; rfl
theorem line3 : 3 ≤ sizeLine := by rw [sizeLine_eq]; decide
abbrev relV (xs : List V) (its : List Value) : Prop := Vals xs its
theorem sHd.fun {k : Bool} {H : Hp} {a : Addr} {xs ys : List V} (h : sHd k H a xs) (h' : sHd k H a ys) : xs = ys := by
  cases k with
  | true =>
    have h1 : H a = some (.lst xs) := h
    have h2 : H a = some (.lst ys) := h'
    rw [h1] at h2; cases h2; rfl
  | false =>
    obtain ⟨o, h1⟩ := (show ∃ o, H a = some (.frz o (.tup xs)) from h)
    obtain ⟨o', h2⟩ := (show ∃ o, H a = some (.frz o (.tup ys)) from h')
    rw [h1] at h2; cases h2; rfl
/-- another shape of the state -/
theorem WalksT.reshape {P : Program} {w : World} {A : Around} {I : Addr} {fp wr : List Addr} {n n' : Nat} {Pt : Nat → Array Value → Prop} {St St' : Nat → Heap → Prop} {Mid : Nat → Addr → Heap → Prop} (W : WalksT P w A I fp wr n Pt St Mid) (hn : n = n') (h1 : ∀ i h, St' i h → St i h) (h2 : ∀ i h, St i h → St' i h) :
    WalksT P w A I fp wr n' Pt St' Mid := by
  subst hn
  exact { sub := W.sub, frame := fun i h h' st hk => h2 i h' (W.frame i h h' (h1 i h st) hk), item := fun i s Q E hi st hQ => W.item i s Q E hi (h1 i _ st) hQ, go := fun elts k pos i T s Q E hm hQ => W.go elts k pos i T s Q E hm fun h' st hk => hQ h' (h2 _ _ st) hk, apart := W.apart, done := fun s Q E st hQ => W.done s Q E (h1 _ _ st) hQ, self := fun i s Q E st hQ => W.self i s Q E (h1 _ _ st) hQ }
theorem turn_enumS {P : Program} {w : World} {K : PySem.W.Frag} {elts : List Expr} {kk : Nat} {tpos : Pos} {k : Bool} {a e it : Addr} (hei : e ≠ it) (hea : e ≠ a) (hia : a ≠ it) :
    Turn P w K (.Tuple elts kk tpos) (JR (enumV 0) fun xs H => sHd k H a xs) [e, it] e (fun i h => (∃ old, IsEnum h e it ((0 : Int) + (i : Nat)) old) ∧ sIt k it a i h) := by
  refine turn_rows (rel := relV) (Ba := fun its => sBa k a its.toArray) (Pt := fun its i vals => ∃ t x, its.toArray[i]? = some x ∧ vals = #[.int ((0 : Int) + (i : Nat)) t, x]) (wr := [e, it]) (fun xs its hv A hh => ?_) (fun b hb => hb) (by simp) (fun i h ⟨⟨old, he⟩, hi⟩ b hb => ?_) (fun i h h' ⟨⟨old, he⟩, hi⟩ hk => ?_) (fun A i s Q E ⟨⟨old, he⟩, hi⟩ q => wpAny_pyIter_enum he q)
    (fun X pins σ H s xs hP hw hK I hd => let ⟨its, r, b, _⟩ := hd.ba I; ⟨its, r, b⟩) (fun c c' H h1 h2 => h1.fun h2) (fun xs its hv i vals ⟨t, x, hx, ev⟩ hi => ?_)
  · have hh1 : A.in1.handled = none := hh
    have W := WalksT.enumFrom (prog := P) (w := w) (A := A) 0 (sDraws (P := P) (w := w) hh1 k it a hia its.toArray) e hei (by simp [hei, hea]) (by simp)
    exact ⟨_, _, WalksT.reshape W (by rw [enumV_length, List.size_toArray, hv.length]) (fun i h st => ⟨st.1.1, st.1.2, st.2⟩) (fun i h st => ⟨⟨st.1, st.2.1⟩, st.2.2⟩)⟩
  · rcases List.mem_cons.mp hb with rfl | hb
    · exact ⟨_, he, fun v z => by cases z⟩
    · rw [List.mem_singleton.mp hb]; exact hi.obj
  · exact ⟨⟨old, hk e (by simp) _ he⟩, hi.keep fun o z => hk it (by simp) o z⟩
  · subst ev
    rw [enumV_length] at hi
    have hx' : its[i]? = some x := by simpa using hx
    have hg : xs[i]? = some xs[i] := List.getElem?_eq_getElem hi
    obtain ⟨u, hu, ru⟩ := hv.get hg
    rw [hx'] at hu
    cases hu
    exact ⟨[.int (0 + i), xs[i]], by rw [enumV_get, hg]; rfl, .cons ⟨t, rfl⟩ (.cons ru .nil), Nat.le_trans (by decide : 2 ≤ 3) line3⟩
def zipV : List V → List V → List (List V)
  | x :: xs, y :: ys => [x, y] :: zipV xs ys
  | _, _ => []
def zipV3 : List V → List V → List V → List (List V)
  | x :: xs, y :: ys, z :: zs => [x, y, z] :: zipV3 xs ys zs
  | _, _, _ => []
theorem zipV_length : ∀ (xs ys : List V), (zipV xs ys).length = min xs.length ys.length
  | [], _ => by simp [zipV]
  | _ :: _, [] => by simp [zipV]
  | x :: xs, y :: ys => by simp only [zipV, List.length_cons, zipV_length xs ys]; omega
theorem zipV3_length : ∀ (xs ys zs : List V), (zipV3 xs ys zs).length = min (min xs.length ys.length) zs.length
  | [], _, _ => by simp [zipV3]
  | _ :: _, [], _ => by simp [zipV3]
  | _ :: _, _ :: _, [] => by simp [zipV3]
  | x :: xs, y :: ys, z :: zs => by simp only [zipV3, List.length_cons, zipV3_length xs ys zs]; omega
theorem zipV_get : ∀ {xs ys : List V} {i : Nat} {x y : V}, xs[i]? = some x → ys[i]? = some y → (zipV xs ys)[i]? = some [x, y]
  | [], _, i, _, _, h, _ => by simp at h
  | _ :: _, [], i, _, _, _, h => by simp at h
  | x :: xs, y :: ys, 0, _, _, h, h' => by simp at h h'; subst h h'; rfl
  | x :: xs, y :: ys, i + 1, _, _, h, h' => by simpa [zipV] using zipV_get (xs := xs) (ys := ys) (by simpa using h) (by simpa using h')
theorem zipV3_get : ∀ {xs ys zs : List V} {i : Nat} {x y z : V}, xs[i]? = some x → ys[i]? = some y → zs[i]? = some z → (zipV3 xs ys zs)[i]? = some [x, y, z]
  | [], _, _, i, _, _, _, h, _, _ => by simp at h
  | _ :: _, [], _, i, _, _, _, _, h, _ => by simp at h
  | _ :: _, _ :: _, [], i, _, _, _, _, _, h => by simp at h
  | x :: xs, y :: ys, z :: zs, 0, _, _, _, h, h', h'' => by simp at h h' h''; subst h h' h''; rfl
  | x :: xs, y :: ys, z :: zs, i + 1, _, _, _, h, h', h'' => by simpa [zipV3] using zipV3_get (xs := xs) (ys := ys) (zs := zs) (by simpa using h) (by simpa using h') (by simpa using h'')
theorem at_val {xs : List V} {its : List Value} (hv : Vals xs its) {i : Nat} {v : Value} (h : its.toArray[i]? = some v) : ∃ x, xs[i]? = some x ∧ RelV x v := by
  have h1 : its[i]? = some v := by simpa using h
  have hi : i < xs.length := by rw [hv.length]; exact (List.getElem?_eq_some_iff.mp h1).1
  have hg : xs[i]? = some xs[i] := List.getElem?_eq_getElem hi
  obtain ⟨u, hu, ru⟩ := hv.get hg
  rw [h1] at hu
  cases hu
  exact ⟨_, hg, ru⟩
theorem turn_zip2 {P : Program} {w : World} {K : PySem.W.Frag} {elts : List Expr} {kk : Nat} {tpos : Pos} {k1 k2 : Bool} {a1 a2 N : Addr} (l1 : a1 < N) (l2 : a2 < N) :
    Turn P w K (.Tuple elts kk tpos) (JR (fun c : List V × List V => zipV c.1 c.2) fun c H => sHd k1 H a1 c.1 ∧ sHd k2 H a2 c.2) [N + 4, N + 2, N + 3, N, N + 1] (N + 4)
      (fun i h => IsZip h (N + 4) (N + 2) (N + 3) .none ∧ IsTupOf2 h (N + 2) (.ref N) (.ref (N + 1)) ∧ (∃ x y, IsTupOf2 h (N + 3) x y) ∧ sIt k1 N a1 i h ∧ sIt k2 (N + 1) a2 i h) := by
  refine turn_rows (rel := fun c (d : List Value × List Value) => Vals c.1 d.1 ∧ Vals c.2 d.2) (Ba := fun d h => sBa k1 a1 d.1.toArray h ∧ sBa k2 a2 d.2.toArray h)
    (Pt := fun d i vals => ∃ x1 x2, d.1.toArray[i]? = some x1 ∧ d.2.toArray[i]? = some x2 ∧ vals = #[x1, x2]) (wr := [N + 4, N + 3, N, N + 1]) (fun c d hv A hh => ?_) (fun b hb => ?_) (by simp) (fun i h st b hb => ?_) (fun i h h' st hk => ?_) (fun A i s Q E st q => wpAny_pyIter_zip st.1 q)
    (fun X pins σ H s c hP hw hK I hd => ?_) (fun c c' H h1 h2 => Prod.ext (h1.1.fun h2.1) (h1.2.fun h2.2)) (fun c d hv i vals ⟨x, y, hx, hy, ev⟩ hi => ?_)
  · have hh1 : A.in1.handled = none := hh
    have W := WalksT.zipD2 (prog := P) (w := w) (A := A) (zip_sep2 (N := N) (fp1 := [a1]) (fp2 := [a2]) (by simpa using l1) (by simpa using l2)) (sDraws (P := P) (w := w) hh1 k1 N a1 (Nat.ne_of_lt l1) d.1.toArray) (sDraws (P := P) (w := w) hh1 k2 (N + 1) a2 (Nat.ne_of_lt (Nat.lt_succ_of_lt l2)) d.2.toArray)
    exact ⟨_, _, WalksT.reshape W (by rw [zipV_length, List.size_toArray, List.size_toArray, hv.1.length, hv.2.length]) (fun i h ⟨⟨s1, s2, s3, s4, s5⟩, b1, b2⟩ => ⟨s1, s2, s3, ⟨s4, b1⟩, ⟨s5, b2⟩⟩) (fun i h ⟨s1, s2, s3, ⟨s4, b1⟩, ⟨s5, b2⟩⟩ => ⟨⟨s1, s2, s3, s4, s5⟩, b1, b2⟩)⟩
  · simp only [List.mem_cons, List.not_mem_nil, or_false] at hb ⊢; rcases hb with h | h | h | h <;> simp [h]
  · obtain ⟨hz, hTI, ⟨x, y, hTO⟩, h1, h2⟩ := st
    simp only [List.mem_cons, List.not_mem_nil, or_false] at hb
    rcases hb with e | e | e | e | e
    · rw [e]; exact ⟨_, hz, fun v q => nomatch q⟩
    · rw [e]; exact ⟨_, hTI, fun v q => nomatch q⟩
    · rw [e]; exact ⟨_, hTO, fun v q => nomatch q⟩
    · rw [e]; exact h1.obj
    · rw [e]; exact h2.obj
  · obtain ⟨hz, hTI, ⟨x, y, hTO⟩, h1, h2⟩ := st
    exact ⟨hk _ (by simp) _ hz, hk _ (by simp) _ hTI, ⟨x, y, hk _ (by simp) _ hTO⟩, h1.keep fun o z => hk _ (by simp) o z, h2.keep fun o z => hk _ (by simp) o z⟩
  · obtain ⟨d1, r1, b1, _⟩ := hd.1.ba I
    obtain ⟨d2, r2, b2, _⟩ := hd.2.ba I
    exact ⟨(d1, d2), ⟨r1, r2⟩, b1, b2⟩
  · subst ev
    obtain ⟨u, hu, ru⟩ := at_val hv.1 hx
    obtain ⟨u2, hu2, ru2⟩ := at_val hv.2 hy
    exact ⟨[u, u2], zipV_get hu hu2, .cons ru (.cons ru2 .nil), Nat.le_trans (by decide : 2 ≤ 3) line3⟩
theorem turn_zip3 {P : Program} {w : World} {K : PySem.W.Frag} {elts : List Expr} {kk : Nat} {tpos : Pos} {k1 k2 k3 : Bool} {a1 a2 a3 N : Addr} (l1 : a1 < N) (l2 : a2 < N) (l3 : a3 < N) :
    Turn P w K (.Tuple elts kk tpos) (JR (fun c : List V × List V × List V => zipV3 c.1 c.2.1 c.2.2) fun c H => sHd k1 H a1 c.1 ∧ sHd k2 H a2 c.2.1 ∧ sHd k3 H a3 c.2.2) [N + 5, N + 3, N + 4, N, N + 1, N + 2] (N + 5)
      (fun i h => IsZip h (N + 5) (N + 3) (N + 4) .none ∧ IsTupOf3 h (N + 3) (.ref N) (.ref (N + 1)) (.ref (N + 2)) ∧ (∃ x y z, IsTupOf3 h (N + 4) x y z) ∧ sIt k1 N a1 i h ∧ sIt k2 (N + 1) a2 i h ∧ sIt k3 (N + 2) a3 i h) := by
  refine turn_rows (rel := fun c (d : List Value × List Value × List Value) => Vals c.1 d.1 ∧ Vals c.2.1 d.2.1 ∧ Vals c.2.2 d.2.2) (Ba := fun d h => sBa k1 a1 d.1.toArray h ∧ sBa k2 a2 d.2.1.toArray h ∧ sBa k3 a3 d.2.2.toArray h)
    (Pt := fun d i vals => ∃ x1 x2 x3, d.1.toArray[i]? = some x1 ∧ d.2.1.toArray[i]? = some x2 ∧ d.2.2.toArray[i]? = some x3 ∧ vals = #[x1, x2, x3]) (wr := [N + 5, N + 4, N, N + 1, N + 2]) (fun c d hv A hh => ?_) (fun b hb => ?_) (by simp) (fun i h st b hb => ?_) (fun i h h' st hk => ?_) (fun A i s Q E st q => wpAny_pyIter_zip st.1 q)
    (fun X pins σ H s c hP hw hK I hd => ?_) (fun c c' H h1 h2 => Prod.ext (h1.1.fun h2.1) (Prod.ext (h1.2.1.fun h2.2.1) (h1.2.2.fun h2.2.2))) (fun c d hv i vals ⟨x, y, z, hx, hy, hz, ev⟩ hi => ?_)
  · have hh1 : A.in1.handled = none := hh
    have W := WalksT.zipD3 (prog := P) (w := w) (A := A) (zip_sep3 (N := N) (fp1 := [a1]) (fp2 := [a2]) (fp3 := [a3]) (by simpa using l1) (by simpa using l2) (by simpa using l3)) (sDraws (P := P) (w := w) hh1 k1 N a1 (Nat.ne_of_lt l1) d.1.toArray) (sDraws (P := P) (w := w) hh1 k2 (N + 1) a2 (Nat.ne_of_lt (Nat.lt_succ_of_lt l2)) d.2.1.toArray)
      (sDraws (P := P) (w := w) hh1 k3 (N + 2) a3 (Nat.ne_of_lt (Nat.lt_succ_of_lt (Nat.lt_succ_of_lt l3))) d.2.2.toArray)
    exact ⟨_, _, WalksT.reshape W (by rw [zipV3_length, List.size_toArray, List.size_toArray, List.size_toArray, hv.1.length, hv.2.1.length, hv.2.2.length]) (fun i h ⟨⟨s1, s2, s3, s4, s5, s6⟩, b1, b2, b3⟩ => ⟨s1, s2, s3, ⟨s4, b1⟩, ⟨s5, b2⟩, ⟨s6, b3⟩⟩) (fun i h ⟨s1, s2, s3, ⟨s4, b1⟩, ⟨s5, b2⟩, ⟨s6, b3⟩⟩ => ⟨⟨s1, s2, s3, s4, s5, s6⟩, b1, b2, b3⟩)⟩
  · simp only [List.mem_cons, List.not_mem_nil, or_false] at hb ⊢; rcases hb with h | h | h | h | h <;> simp [h]
  · obtain ⟨hz, hTI, ⟨x, y, z, hTO⟩, h1, h2, h3⟩ := st
    simp only [List.mem_cons, List.not_mem_nil, or_false] at hb
    rcases hb with e | e | e | e | e | e
    · rw [e]; exact ⟨_, hz, fun v q => nomatch q⟩
    · rw [e]; exact ⟨_, hTI, fun v q => nomatch q⟩
    · rw [e]; exact ⟨_, hTO, fun v q => nomatch q⟩
    · rw [e]; exact h1.obj
    · rw [e]; exact h2.obj
    · rw [e]; exact h3.obj
  · obtain ⟨hz, hTI, ⟨x, y, z, hTO⟩, h1, h2, h3⟩ := st
    exact ⟨hk _ (by simp) _ hz, hk _ (by simp) _ hTI, ⟨x, y, z, hk _ (by simp) _ hTO⟩, h1.keep fun o z => hk _ (by simp) o z, h2.keep fun o z => hk _ (by simp) o z, h3.keep fun o z => hk _ (by simp) o z⟩
  · obtain ⟨d1, r1, b1, _⟩ := hd.1.ba I
    obtain ⟨d2, r2, b2, _⟩ := hd.2.1.ba I
    obtain ⟨d3, r3, b3, _⟩ := hd.2.2.ba I
    exact ⟨(d1, d2, d3), ⟨r1, r2, r3⟩, b1, b2, b3⟩
  · subst ev
    obtain ⟨u, hu, ru⟩ := at_val hv.1 hx
    obtain ⟨u2, hu2, ru2⟩ := at_val hv.2.1 hy
    obtain ⟨u3, hu3, ru3⟩ := at_val hv.2.2 hz
    exact ⟨[u, u2, u3], zipV3_get hu hu2 hu3, .cons ru (.cons ru2 (.cons ru3 .nil)), line3⟩
end Fx

/-! Fx8: what loops walk, told by pure values. -/
namespace Fx
open PySem PySem.Spec PyProof.Rows L2
section
variable {B : Bx} {W : WX} {X : Cx} {m : Mp} {Rv : Rsv} {S : Sto} {N : Nat} {H : Hp} {a b c tg : Expr} {f g h : EF} {pos : Pos}

/-- a sequence stays readable at its place -/
theorem seq_at {x : PV} {v : V} {xs : List PV} (s : Fx.St B m Rv S H) (r : RepV B m Rv S.length H x v) (e : seqOf S x = some xs) :
    ∃ k a, v = .ref a ∧ (∃ vs, sHd k H a vs) ∧ ∀ m2 Rv2 S2 H2, ExtW B m Rv S H m2 Rv2 S2 H2 → ∀ ys, seqOf S2 x = some ys → ∃ vs, sHd k H2 a vs ∧ RepVs B m2 Rv2 S2.length H2 ys vs := by
  cases x with
  | tup zs =>
    obtain ⟨a, o, vs, rfl, h1, hd, r1⟩ := repV_tup r
    refine ⟨false, a, rfl, ⟨vs, o, h1⟩, fun m2 Rv2 S2 H2 e2 ys ey => ?_⟩
    cases ey
    exact ⟨vs, ⟨o, (e2.stay s).frzs _ _ _ h1⟩, RepVs.stay (e2.stay s) _ _ r1⟩
  | lst zs =>
    have r' := r
    unfold RepV at r'
    obtain ⟨a, vs, rfl, h1, hr, r1⟩ := r'
    refine ⟨true, a, rfl, ⟨vs, h1⟩, fun m2 Rv2 S2 H2 e2 ys ey => ?_⟩
    cases ey
    exact ⟨vs, (e2.stay s).lsts _ _ h1 hr, RepVs.stay (e2.stay s) _ _ r1⟩
  | ref n =>
    unfold RepV at r
    obtain ⟨hn, rfl⟩ := r
    obtain ⟨zs, vs, _, h1, _⟩ := s.cell hn
    refine ⟨true, m n, rfl, ⟨vs, h1⟩, fun m2 Rv2 S2 H2 e2 ys ey => ?_⟩
    have ey' : (match S2[n]? with | some (.lst xs) => some xs | none => none) = some ys := ey
    cases ez : S2[n]? with
    | none => rw [ez] at ey'; cases ey'
    | some c =>
      cases c with
      | lst us =>
        rw [ez] at ey'
        cases ey'
        obtain ⟨ws, h2, r2⟩ := e2.st.cells n ys ez
        rw [e2.same n hn] at h2
        exact ⟨ws, h2, r2⟩
  | _ => cases e
def Src.lst (s : Src) (S : Sto) : Option (List PV) := match s with
  | .items xs => some xs
  | .gen f => f S
theorem Src.at_lst {s : Src} {S : Sto} {i : Nat} : match s.at S i with
    | some (some x) => ∃ xs, s.lst S = some xs ∧ xs[i]? = some x
    | some none => s.fin i → ∃ xs, s.lst S = some xs ∧ i = xs.length
    | none => True := by
  cases s with
  | items xs =>
    show match some xs[i]? with | some (some x) => _ | some none => _ | none => _
    cases e : xs[i]? with
    | none => exact fun h => ⟨xs, rfl, h⟩
    | some x => exact ⟨xs, rfl, e⟩
  | gen n =>
    show match genAt n S i with | some (some x) => _ | some none => _ | none => _
    unfold genAt
    cases e : n S with
    | none => trivial
    | some xs =>
      dsimp only
      cases e2 : xs[i]? with
      | some x => exact ⟨xs, e, e2⟩
      | none =>
        dsimp only
        cases eb : Nat.beq i xs.length with
        | true => exact fun _ => ⟨xs, e, Nat.eq_of_beq_eq_true eb⟩
        | false => trivial
/-- .. by a plain list -/
theorem walks_of {J : It} {s : Src} (Lv : Hp → List V → Prop) (hr : ∀ m2 Rv2 S2 H2, ExtW B m Rv S H m2 Rv2 S2 H2 → ∀ xs, s.lst S2 = some xs → ∃ vs, Lv H2 vs ∧ RepVs B m2 Rv2 S2.length H2 xs vs)
    (h1 : ∀ H vs i x, Lv H vs → vs[i]? = some x → J.go i H ∧ ∀ v H', J.yld i H v H' → H' = H ∧ v = x) (h2 : ∀ H vs, Lv H vs → J.stop vs.length H) : Walks B J m Rv S H s := by
  intro m2 Rv2 S2 H2 e i
  have q := Src.at_lst (s := s) (S := S2) (i := i)
  split
  · rename_i x ex
    rw [ex] at q
    obtain ⟨xs, e1, e2⟩ := q
    obtain ⟨vs, l1, r1⟩ := hr _ _ _ _ e xs e1
    obtain ⟨w, e3, r3⟩ := r1.get e2
    obtain ⟨j1, j2⟩ := h1 _ _ _ _ l1 e3
    refine ⟨j1, fun v H' y => ?_⟩
    obtain ⟨rfl, rfl⟩ := j2 v H' y
    exact ⟨Ext.refl e.st, r3⟩
  · rename_i ex
    rw [ex] at q
    intro hf
    obtain ⟨xs, e1, e2⟩ := q hf
    obtain ⟨vs, l1, r1⟩ := hr _ _ _ _ e xs e1
    rw [e2, r1.length]
    exact h2 _ _ l1
  · trivial
def RepVss (B : Bx) (m : Mp) (Rv : Rsv) (N : Nat) (H : Hp) (rows : List (List PV)) (vss : List (List V)) : Prop := rows.length = vss.length ∧ ∀ (i : Nat) r w, rows[i]? = some r → vss[i]? = some w → RepVs B m Rv N H r w
/-- .. by rows -/
theorem walks_rows {C : Type} {rows : C → List (List V)} {Hd : C → Hp → Prop} {s : Src} (L : Sto → Option (List (List PV))) (hs : ∀ S, s.lst S = prsL (L S) ∨ ∃ S0, s.lst S = prsL (L S0) ∧ L S0 = L S)
    (hr : ∀ m2 Rv2 S2 H2, ExtW B m Rv S H m2 Rv2 S2 H2 → ∀ xs, L S2 = some xs → ∃ c, Hd c H2 ∧ RepVss B m2 Rv2 S2.length H2 xs (rows c)) : Walks B (JR rows Hd) m Rv S H s := by
  have hs' : ∀ S, s.lst S = prsL (L S) := fun S => by
    rcases hs S with h | ⟨S0, h, e⟩
    · exact h
    · rw [h, e]
  intro m2 Rv2 S2 H2 e i
  have q := Src.at_lst (s := s) (S := S2) (i := i)
  split
  · rename_i x ex
    rw [ex] at q
    obtain ⟨xs, e1, e2⟩ := q
    rw [hs'] at e1
    unfold prsL at e1
    cases el : L S2 with
    | none => rw [el] at e1; cases e1
    | some ps =>
      rw [el] at e1
      cases e1
      obtain ⟨c, hc, hl, hg⟩ := hr _ _ _ _ e ps el
      rw [List.getElem?_map] at e2
      cases ep : ps[i]? with
      | none => rw [ep] at e2; cases e2
      | some r =>
        rw [ep] at e2
        cases e2
        have hi : i < (rows c).length := hl ▸ (List.getElem?_eq_some_iff.mp ep).1
        refine ⟨⟨c, hc, hi⟩, fun v H' y => ?_⟩
        obtain ⟨T, vs, rfl, hT, rfl, hv⟩ := y
        have r1 := hg i r vs ep (hv c hc)
        have e3 := Ext.laid (o := .tup vs) e.st hT
        refine ⟨e3, ?_⟩
        unfold RepV
        exact ⟨T, vs, rfl, upd_same, RepVs.stay (e3.stay e.st) _ _ r1⟩
  · rename_i ex
    rw [ex] at q
    intro hf
    obtain ⟨xs, e1, e2⟩ := q hf
    rw [hs'] at e1
    unfold prsL at e1
    cases el : L S2 with
    | none => rw [el] at e1; cases e1
    | some ps =>
      rw [el] at e1
      cases e1
      obtain ⟨c, hc, hl, hg⟩ := hr _ _ _ _ e ps el
      exact ⟨c, hc, by rw [e2, List.length_map, hl]⟩
  · trivial
/-! ### a list or a tuple -/
def itS (K : PySem.W.Frag) (k : Bool) (a : Addr) : It := if k then Itl K a else Itt K a
def iSeqT (K : PySem.W.Frag) (tl : TE) : TI := fun σ H R => tl σ H fun x H1 => ∃ k a, x = .ref a ∧ (∃ xs, sHd k H1 a xs) ∧ R (itS K k a) H1
theorem pi_seq {l : Expr} {tl : TE} (hl : PE X l tl) : PI X tg l (iSeqT X.K tl) := by
  refine ⟨fun pins s σ H R I h => ?_⟩
  refine thn (hl.run pins s σ H _ I h) fun v s1 ⟨x, H1, I1, r1, q1⟩ => ?_
  obtain ⟨k, a, e, ⟨xs, hq⟩, q⟩ := q1
  subst e
  cases r1
  cases k with
  | true =>
    obtain ⟨its, rv, p, hz⟩ := I1.list (xs := xs) (.of hq)
    refine wpAny_pyIter_list p.isList ?_
    exact pi_one (tk := s1.toks) I1 _ (turn_list a _) ⟨_, Heap.get?_push_size _ rfl, rfl, rfl⟩ q
  | false =>
    obtain ⟨o, hq⟩ := hq
    obtain ⟨its, rv, p, hz⟩ := I1.tuple (sqT hq)
    refine wpAny_pyIter_tuple (show s1.heap.IsTuple a its.toArray from p) ?_
    exact pi_one (tk := s1.toks) I1 _ (turn_tuple a _) ⟨_, Heap.get?_push_size _ rfl, rfl, rfl⟩ q
theorem walks_seq {s : Src} {k : Bool} {a : Addr} {K : PySem.W.Frag} (hr : ∀ m2 Rv2 S2 H2, ExtW B m Rv S H m2 Rv2 S2 H2 → ∀ xs, s.lst S2 = some xs → ∃ vs, sHd k H2 a vs ∧ RepVs B m2 Rv2 S2.length H2 xs vs) : Walks B (itS K k a) m Rv S H s := by
  cases k with
  | true => exact walks_of (fun H vs => sHd true H a vs) hr (fun H vs i x h e => ⟨⟨vs, x, .of h, e⟩, fun v H' y => ⟨y.1, by have q := y.2 vs (.of h); rw [e] at q; cases q; rfl⟩⟩) fun H vs h => ⟨vs, .of h, Nat.le_refl _⟩
  | false => exact walks_of (fun H vs => sHd false H a vs) hr (fun H vs i x ⟨o, h⟩ e => ⟨⟨vs, x, sqT h, e⟩, fun v H' y => ⟨y.1, by have q := y.2 vs (sqT h); rw [e] at q; cases q; rfl⟩⟩) fun H vs ⟨o, h⟩ => ⟨vs, sqT h, Nat.le_refl _⟩
theorem ji_seq (ha : JE B W X a f) : JI B W X tg a (iSeq f) := by
  refine ⟨PI.imp' (pi_seq ha.pe) fun σ H R h => ?_⟩
  refine tK.step h fun x m1 Rv1 S1 H1 ρ he hs hp xv rx => ?_
  have go : ∀ xs (s : Src), seqOf S1 x = some xs → (∀ S2, s.lst S2 = none ∨ s.lst S2 = seqOf S2 x) → Post B (fun c d H' => W c d σ H') m1 Rv1 S1 H1 (.ok s S1) (fun s m' Rv' S' H' => ∀ J, Fx.Walks B J m' Rv' S' H' s → R J H') →
      ∃ k a, xv = .ref a ∧ (∃ xs, sHd k H1 a xs) ∧ R (itS X.K k a) H1 := fun xs s e es hp => by
    obtain ⟨k, a, rfl, hx, hr⟩ := seq_at hs rx e
    refine ⟨k, a, rfl, hx, Post.ok hs hp _ (walks_seq fun m2 Rv2 S2 H2 e2 ys ey => ?_)⟩
    rcases es S2 with q | q
    · rw [q] at ey; cases ey
    · rw [q] at ey; exact hr _ _ _ _ e2 ys ey
  cases x with
  | tup xs => exact go xs (.items xs) rfl (fun _ => .inr rfl) hp
  | lst xs => exact go xs (.items xs) rfl (fun _ => .inr rfl) hp
  | ref n =>
    have rx' := rx
    unfold RepV at rx'
    obtain ⟨xs, vs, e, _⟩ := hs.cell rx'.1
    refine go xs (.gen (cellL n)) ?_ (fun _ => .inr rfl) hp
    show (match S1[n]? with | some (.lst xs) => some xs | none => none) = some xs
    rw [e]
  | _ => exact hp.elim
/-! ### range -/
theorem small62_of {i : Int} (h : small62 i = true) : -(2 ^ 62) ≤ i ∧ i < 2 ^ 62 := by
  unfold small62 at h
  rw [Bool.and_eq_true, decide_eq_true_eq, decide_eq_true_eq] at h
  exact h
theorem rngL_length : ∀ (n : Nat) (i : Int), (rngL i n).length = n
  | 0, _ => rfl
  | n + 1, i => by show (rngL (i + 1) n).length + 1 = _; rw [rngL_length n]
theorem rngL_get : ∀ (n : Nat) (i : Int) (k : Nat), k < n → (rngL i n)[k]? = some (.int (i + k))
  | 0, _, k, h => absurd h (Nat.not_lt_zero k)
  | n + 1, i, 0, _ => by simp [rngL]
  | n + 1, i, k + 1, h => by
    show (rngL (i + 1) n)[k]? = _
    rw [rngL_get n (i + 1) k (by omega)]
    congr 2
    omega
theorem walks_range {i : Int} {n : Nat} : Fx.Walks B (Itr i n) m Rv S H (.items (rngL i n)) := by
  intro m2 Rv2 S2 H2 e k
  show match some (rngL i n)[k]? with | some (some x) => _ | some none => _ | none => _
  by_cases hk : k < n
  · rw [rngL_get n i k hk]
    refine ⟨hk, fun v H' y => ?_⟩
    obtain ⟨rfl, rfl⟩ := y
    exact ⟨Ext.refl e.st, repV_int'⟩
  · rw [List.getElem?_eq_none (by rw [rngL_length]; omega)]
    exact fun _ => show n ≤ k by omega
def lstR (two : Bool) (i j : Int) : List V := if two then [.int i, .int j] else [.int j]
theorem rng_at {two : Bool} {vs : List PV} {i j : Int} {xv : List V} (h : rngF two vs = some (i, j)) (r : RepVs B m Rv N H vs xv) : (two = false → i = 0) ∧ xv = lstR two i j := by
  cases two with
  | false =>
    have h' : rng1 vs = some (i, j) := h
    unfold rng1 at h'
    split at h'
    · cases h'
      obtain ⟨v, rfl, rv⟩ := rep1 r
      rw [repV_int rv]
      exact ⟨fun _ => rfl, rfl⟩
    · cases h'
  | true =>
    have h' : rng2 vs = some (i, j) := h
    unfold rng2 at h'
    split at h'
    · cases h'
      obtain ⟨v, u, rfl, rv, ru⟩ := rep2 r
      rw [repV_int rv, repV_int ru]
      exact ⟨fun e => (nomatch e), rfl⟩
    · cases h'
theorem range_imp {two : Bool} {k : AF} {σ : L2.St} {H : Hp} {R : It → Hp → Prop} (h : tJI B W (iRange two k) σ H R) : tJA B W k σ H fun vs H1 => ∃ i j : Int, ((two = false → i = 0) ∧ vs = lstR two i j) ∧ (-(2 ^ 62) ≤ i ∧ i < 2 ^ 62 ∧ -(2 ^ 62) ≤ j ∧ j < 2 ^ 62) ∧ R (Itr i (j - i).toNat) H1 := by
  refine tK.step h fun x m1 Rv1 S1 H1 ρ he hs hp xv rx => ?_
  split at hp
  · rename_i i j e
    split at hp
    · rename_i hb
      rw [Bool.and_eq_true] at hb
      have b1 := small62_of hb.1
      have b2 := small62_of hb.2
      exact ⟨i, j, rng_at e rx, ⟨b1.1, b1.2, b2.1, b2.2⟩, Post.ok hs hp _ walks_range⟩
    · exact hp.elim
  · exact hp.elim
theorem tJA.mono {k : AF} {σ : L2.St} {H : Hp} {Q Q' : List V → Hp → Prop} (h : tJA B W k σ H Q) (q : ∀ vs H, Q vs H → Q' vs H) : tJA B W k σ H Q' := by
  obtain ⟨ρ, S, m, Rv, he, hst, hp⟩ := h
  exact ⟨ρ, S, m, Rv, he, hst, hp.mono fun vs m1 Rv1 S1 H1 _ e p xs rx => q _ _ (p xs rx)⟩
theorem ji_range1 {k : AF} {p : Pos} (hg : Gl X "range") (hm : X.mg "range" = none) (ha : JA B W X [a] k) (hs : starEach [a] X.env = [(false, eval a X.env)]) : JI B W X tg (.Call (.Name "range" p) [a] [] pos) (iRange false k) :=
  ⟨PI.imp' (pi_range1 hg hm ha.pa hs) fun σ H R h => (range_imp h).mono fun vs H1 ⟨i, j, ⟨h0, h1⟩, h2, h3⟩ => by
    have := h0 rfl
    subst this
    exact ⟨j, h1, h2.2.2.1, h2.2.2.2, by simpa using h3⟩⟩
theorem ji_range2 {k : AF} {p : Pos} (hg : Gl X "range") (hm : X.mg "range" = none) (ha : JA B W X [a, b] k) (hs : starEach [a, b] X.env = [(false, eval a X.env), (false, eval b X.env)]) (hs2 : starEach [b] X.env = [(false, eval b X.env)]) : JI B W X tg (.Call (.Name "range" p) [a, b] [] pos) (iRange true k) :=
  ⟨PI.imp' (pi_range2 hg hm ha.pa hs hs2) fun σ H R h => (range_imp h).mono fun vs H1 ⟨i, j, ⟨h0, h1⟩, h2, h3⟩ => ⟨i, j, h1, h2, h3⟩⟩
/-! ### enumerate, zip -/
theorem rows_step {ff : List PV → Sto → Option (List (List PV))} {k : AF} {σ : L2.St} {H : Hp} {R : It → Hp → Prop} {Q : List V → Hp → Prop} (h : tJI B W (iRows ff k) σ H R)
    (hQ : ∀ vs xv m1 Rv1 S1 H1, Fx.St B m1 Rv1 S1 H1 → RepVs B m1 Rv1 S1.length H1 vs xv → ∀ ps, ff vs S1 = some ps →
      (∀ {C : Type} (rows : C → List (List V)) (Hd : C → Hp → Prop), (∀ m2 Rv2 S2 H2, ExtW B m1 Rv1 S1 H1 m2 Rv2 S2 H2 → ∀ xs, ff vs S2 = some xs → ∃ c, Hd c H2 ∧ RepVss B m2 Rv2 S2.length H2 xs (rows c)) → R (JR rows Hd) H1) → Q xv H1)
    (hfix : ∀ vs, allFixed vs = true → ∀ S S', ff vs S = ff vs S') : tJA B W k σ H Q := by
  refine tK.step h fun x m1 Rv1 S1 H1 ρ he hs hp xv rx => ?_
  split at hp
  · rename_i hf
    cases eo : ff x S1 with
    | none => rw [eo] at hp; exact hp.elim
    | some ps =>
      rw [eo] at hp
      refine hQ x xv m1 Rv1 S1 H1 hs rx ps eo fun rows Hd hr => Post.ok hs hp _ (walks_rows (ff x) (fun S2 => .inr ⟨S1, by rw [eo]; rfl, hfix x hf S1 S2⟩) hr)
  · split at hp
    · rename_i hi
      obtain ⟨ps, eo⟩ := Option.isSome_iff_exists.mp hi
      exact hQ x xv m1 Rv1 S1 H1 hs rx ps eo fun rows Hd hr => Post.ok hs hp _ (walks_rows (ff x) (fun S2 => .inl rfl) hr)
    · exact hp.elim
theorem fixed_seq {x : PV} (h : (fixed x).isSome = true) (S S' : Sto) : seqOf S x = seqOf S' x := by
  cases x with
  | tup xs => rfl
  | lst xs => rfl
  | _ => cases h
theorem allFixed_cons {x : PV} {xs : List PV} (h : allFixed (x :: xs) = true) : (fixed x).isSome = true ∧ allFixed xs = true := by
  unfold allFixed at h
  rwa [Bool.and_eq_true] at h
theorem fixE (vs : List PV) (h : allFixed vs = true) (S S' : Sto) : rowsE vs S = rowsE vs S' := by
  unfold rowsE
  split
  · rw [fixed_seq (allFixed_cons h).1 S S']
  · rfl
theorem fixZ (vs : List PV) (h : allFixed vs = true) (S S' : Sto) : rowsZ vs S = rowsZ vs S' := by
  unfold rowsZ
  split
  · rw [fixed_seq (allFixed_cons h).1 S S', fixed_seq (allFixed_cons (allFixed_cons h).2).1 S S']
  · rw [fixed_seq (allFixed_cons h).1 S S', fixed_seq (allFixed_cons (allFixed_cons h).2).1 S S', fixed_seq (allFixed_cons (allFixed_cons (allFixed_cons h).2).2).1 S S']
  · rfl
theorem enum_rep : ∀ {xs : List PV} {vs : List V} (c : Int), RepVs B m Rv N H xs vs → RepVss B m Rv N H (enumP c xs) (enumV c vs)
  | [], vs, c, h => by rw [h.inv0]; exact ⟨rfl, fun i r w e => by simp [enumP] at e⟩
  | x :: xs, vs, c, h => by
    obtain ⟨w, ws, rfl, h1, h2⟩ := h.inv
    obtain ⟨hl, hg⟩ := enum_rep (c + 1) h2
    refine ⟨by show _ + 1 = _ + 1; rw [hl], fun i r u e1 e2 => ?_⟩
    cases i with
    | zero =>
      simp [enumP, enumV] at e1 e2
      subst e1 e2
      exact .cons repV_int' (.cons h1 .nil)
    | succ i => exact hg i r u (by simpa [enumP] using e1) (by simpa [enumV] using e2)
theorem zip_rep : ∀ {xs ys : List PV} {vs ws : List V}, RepVs B m Rv N H xs vs → RepVs B m Rv N H ys ws → RepVss B m Rv N H (zipP xs ys) (zipV vs ws)
  | [], _, vs, ws, h, _ => by rw [h.inv0]; exact ⟨rfl, fun i r w e => by simp [zipP] at e⟩
  | x :: xs, [], vs, ws, h, k => by
    obtain ⟨w, ws', rfl, h1, h2⟩ := h.inv
    rw [k.inv0]
    exact ⟨rfl, fun i r w e => by simp [zipP] at e⟩
  | x :: xs, y :: ys, vs, ws, h, k => by
    obtain ⟨w, ws', rfl, h1, h2⟩ := h.inv
    obtain ⟨u, us', rfl, k1, k2⟩ := k.inv
    obtain ⟨hl, hg⟩ := zip_rep h2 k2
    refine ⟨by show _ + 1 = _ + 1; rw [hl], fun i r z e1 e2 => ?_⟩
    cases i with
    | zero =>
      simp [zipP, zipV] at e1 e2
      subst e1 e2
      exact .cons h1 (.cons k1 .nil)
    | succ i => exact hg i r z (by simpa [zipP] using e1) (by simpa [zipV] using e2)
theorem zip_rep3 : ∀ {xs ys zs : List PV} {vs ws us : List V}, RepVs B m Rv N H xs vs → RepVs B m Rv N H ys ws → RepVs B m Rv N H zs us → RepVss B m Rv N H (zipP3 xs ys zs) (zipV3 vs ws us)
  | [], _, _, vs, ws, us, h, _, _ => by rw [h.inv0]; exact ⟨rfl, fun i r w e => by simp [zipP3] at e⟩
  | x :: xs, [], _, vs, ws, us, h, k, _ => by
    obtain ⟨w, ws', rfl, h1, h2⟩ := h.inv
    rw [k.inv0]
    exact ⟨rfl, fun i r w e => by simp [zipP3] at e⟩
  | x :: xs, y :: ys, [], vs, ws, us, h, k, l => by
    obtain ⟨w, ws', rfl, h1, h2⟩ := h.inv
    obtain ⟨u, us', rfl, k1, k2⟩ := k.inv
    rw [l.inv0]
    exact ⟨rfl, fun i r w e => by simp [zipP3] at e⟩
  | x :: xs, y :: ys, z :: zs, vs, ws, us, h, k, l => by
    obtain ⟨w, ws', rfl, h1, h2⟩ := h.inv
    obtain ⟨u, us', rfl, k1, k2⟩ := k.inv
    obtain ⟨t, ts', rfl, l1, l2⟩ := l.inv
    obtain ⟨hl, hg⟩ := zip_rep3 h2 k2 l2
    refine ⟨by show _ + 1 = _ + 1; rw [hl], fun i r q e1 e2 => ?_⟩
    cases i with
    | zero =>
      simp [zipP3, zipV3] at e1 e2
      subst e1 e2
      exact .cons h1 (.cons k1 (.cons l1 .nil))
    | succ i => exact hg i r q (by simpa [zipP3] using e1) (by simpa [zipV3] using e2)
/-- enumerate(s) -/
def iEnT (ta : TA) : TI := fun σ H R => ta σ H fun vs H1 => ∃ k a xs, vs = [.ref a] ∧ sHd k H1 a xs ∧ R (JR (enumV 0) fun xs H => sHd k H a xs) H1
theorem sHd.lt {pins : List (Addr × Obj)} {σ : L2.St} {s : Shared} {k : Bool} {a : Addr} {xs : List V} (I : Inv X pins σ H s) (h : sHd k H a xs) : a < s.heap.objs.size := by
  obtain ⟨its, r, p, _⟩ := h.ba I
  cases k with
  | true => obtain ⟨o, ho, _⟩ := (show s.heap.IsList a its.toArray from p); exact Heap.lt_size ho
  | false => obtain ⟨o, ho, _⟩ := (show s.heap.IsTuple a its.toArray from p); exact Heap.lt_size ho
theorem pi_enumS {e : Expr} {ta : TA} {p pos tpos : Pos} {elts : List Expr} {kk : Nat} (hg : Gl X "enumerate") (hm : X.mg "enumerate" = none) (ha : PA X [e] ta) (hs : starEach [e] X.env = [(false, eval e X.env)]) :
    PI X (.Tuple elts kk tpos) (.Call (.Name "enumerate" p) [e] [] pos) (iEnT ta) := by
  refine ⟨fun pins s σ H R I h => ?_⟩
  refine Call_ (ld_blt I hg hm boot_enumerate (PyProof.Rows.callWith_type1 (thn (ha.run pos pins s σ H _ I h) fun us s1 ⟨vs, H1, I1, r1, q1⟩ => ?_) hs rfl))
  obtain ⟨k, a, xs, ex, hq, q⟩ := q1
  subst ex
  cases r1 with
  | cons r rr =>
    cases rr
    cases r
    obtain ⟨its, rv, pb, hz⟩ := hq.ba I1
    have lt := hq.lt I1
    refine enum_begins1 (sBegins k a its.toArray) pb fun h' he hit hsz hk => wpAny_pyIter_enum he ?_
    have I2 : Inv X pins σ H1 { s1 with heap := h' } := I1.kept (t' := s1.toks) hk
    refine ⟨s1.heap.objs.size + 1, [s1.heap.objs.size + 1, s1.heap.objs.size], _, _, H1, rfl, I2, turn_enumS (k := k) (a := a) (e := s1.heap.objs.size + 1) (it := s1.heap.objs.size) (Nat.succ_ne_self _) (Nat.ne_of_gt (Nat.lt_succ_of_lt lt)) (Nat.ne_of_lt lt), ⟨⟨.none, he⟩, .new hit⟩, fun b hb => ?_, q⟩
    have e' : b = s1.heap.objs.size + 1 ∨ b = s1.heap.objs.size := by simpa using hb
    have hle : s1.heap.objs.size ≤ b := by
      rcases e' with z | z
      · rw [z]; exact Nat.le_add_right _ _
      · rw [z]; exact Nat.le_refl _
    exact I1.fpOk hle (I1.hok.fresh hle)
theorem ji_enum {k : AF} {p tpos : Pos} {elts : List Expr} {kk : Nat} (hg : Gl X "enumerate") (hm : X.mg "enumerate" = none) (ha : JA B W X [a] k) (hs : starEach [a] X.env = [(false, eval a X.env)]) :
    JI B W X (.Tuple elts kk tpos) (.Call (.Name "enumerate" p) [a] [] pos) (Fx.iEnum k) := by
  refine ⟨PI.imp' (pi_enumS hg hm ha.pa hs) fun σ H R h => rows_step h (fun vs xv m1 Rv1 S1 H1 st rx ps ep hR => ?_) fixE⟩
  unfold rowsE at ep
  split at ep
  · rename_i x
    obtain ⟨v, rfl, rv⟩ := rep1 rx
    cases eq : seqOf S1 x with
    | none => rw [eq] at ep; cases ep
    | some xs =>
      obtain ⟨kd, a, rfl, ⟨vs0, h0⟩, hr⟩ := seq_at st rv eq
      refine ⟨kd, a, vs0, rfl, h0, hR (enumV 0) (fun xs H => sHd kd H a xs) fun m2 Rv2 S2 H2 e2 ys ey => ?_⟩
      have ey' : (match seqOf S2 x with | some xs => some (enumP 0 xs) | none => none) = some ys := ey
      cases eq2 : seqOf S2 x with
      | none => rw [eq2] at ey'; cases ey'
      | some zs =>
        rw [eq2] at ey'
        cases ey'
        obtain ⟨ws, h1, h2⟩ := hr _ _ _ _ e2 zs eq2
        exact ⟨ws, h1, enum_rep 0 h2⟩
  · cases ep
/-- zip(s, t), zip(s, t, u) -/
def iZp2 (ta : TA) : TI := fun σ H R => ta σ H fun vs H1 => ∃ k1 k2 a1 a2 xs ys, vs = [.ref a1, .ref a2] ∧ sHd k1 H1 a1 xs ∧ sHd k2 H1 a2 ys ∧ R (JR (fun c : List V × List V => zipV c.1 c.2) fun c H => sHd k1 H a1 c.1 ∧ sHd k2 H a2 c.2) H1
def iZp3 (ta : TA) : TI := fun σ H R => ta σ H fun vs H1 => ∃ k1 k2 k3 a1 a2 a3 xs ys zs, vs = [.ref a1, .ref a2, .ref a3] ∧ sHd k1 H1 a1 xs ∧ sHd k2 H1 a2 ys ∧ sHd k3 H1 a3 zs ∧
  R (JR (fun c : List V × List V × List V => zipV3 c.1 c.2.1 c.2.2) fun c H => sHd k1 H a1 c.1 ∧ sHd k2 H a2 c.2.1 ∧ sHd k3 H a3 c.2.2) H1
theorem pi_zipS2 {e e2 : Expr} {ta : TA} {p pos tpos : Pos} {elts : List Expr} {kk : Nat} (hg : Gl X "zip") (hm : X.mg "zip" = none) (ha : PA X [e, e2] ta)
    (hs : starEach [e, e2] X.env = (false, eval e X.env) :: starEach [e2] X.env) (hpl : (backTo pos (starEach [e2] X.env)).any (·.1) = false) :
    PI X (.Tuple elts kk tpos) (.Call (.Name "zip" p) [e, e2] [] pos) (iZp2 ta) := by
  refine ⟨fun pins s σ H R I h => ?_⟩
  refine Call_ (ld_blt I hg hm PyProof.Rows.boot_zip (PyProof.Rows.callWith_type1 (thn (ha.run pos pins s σ H _ I h) fun us s1 ⟨vs, H1, I1, r1, q1⟩ => ?_) hs hpl))
  obtain ⟨k1, k2, a, b, xs, ys, ex, hx, hy, q⟩ := q1
  subst ex
  cases r1 with
  | cons r rr =>
    cases rr with
    | cons r' rr =>
      cases rr
      cases r
      cases r'
      obtain ⟨its, rv, p1, _⟩ := hx.ba I1
      obtain ⟨its2, rv2, p2, _⟩ := hy.ba I1
      have l1 := hx.lt I1
      have l2 := hy.lt I1
      refine zip_begins2 (sBegins k1 a its.toArray) (sBegins k2 b its2.toArray) p1 p2 fun h' hz hTI hTO h1 h2 hsz hk => wpAny_pyIter_zip hz ?_
      have I2 : Inv X pins σ H1 { s1 with heap := h' } := I1.kept (t' := s1.toks) hk
      refine ⟨s1.heap.objs.size + 4, [s1.heap.objs.size + 4, s1.heap.objs.size + 2, s1.heap.objs.size + 3, s1.heap.objs.size, s1.heap.objs.size + 1], _, _, H1, rfl, I2, turn_zip2 (k1 := k1) (k2 := k2) l1 l2, ⟨hz, hTI, ⟨_, _, hTO⟩, .new h1, .new h2⟩, fun c hcm => ?_, q⟩
      have e' : c = s1.heap.objs.size + 4 ∨ c = s1.heap.objs.size + 2 ∨ c = s1.heap.objs.size + 3 ∨ c = s1.heap.objs.size ∨ c = s1.heap.objs.size + 1 := by simpa using hcm
      have hle : s1.heap.objs.size ≤ c := by
        rcases e' with z | z | z | z | z
        · rw [z]; exact Nat.le_add_right _ _
        · rw [z]; exact Nat.le_add_right _ _
        · rw [z]; exact Nat.le_add_right _ _
        · rw [z]; exact Nat.le_refl _
        · rw [z]; exact Nat.le_add_right _ _
      exact I1.fpOk hle (I1.hok.fresh hle)
theorem pi_zipS3 {e e2 e3 : Expr} {ta : TA} {p pos tpos : Pos} {elts : List Expr} {kk : Nat} (hg : Gl X "zip") (hm : X.mg "zip" = none) (ha : PA X [e, e2, e3] ta)
    (hs : starEach [e, e2, e3] X.env = (false, eval e X.env) :: starEach [e2, e3] X.env) (hpl : (backTo pos (starEach [e2, e3] X.env)).any (·.1) = false) :
    PI X (.Tuple elts kk tpos) (.Call (.Name "zip" p) [e, e2, e3] [] pos) (iZp3 ta) := by
  refine ⟨fun pins s σ H R I h => ?_⟩
  refine Call_ (ld_blt I hg hm PyProof.Rows.boot_zip (PyProof.Rows.callWith_type1 (thn (ha.run pos pins s σ H _ I h) fun us s1 ⟨vs, H1, I1, r1, q1⟩ => ?_) hs hpl))
  obtain ⟨k1, k2, k3, a, b, d, xs, ys, zs, ex, hx, hy, hz3, q⟩ := q1
  subst ex
  cases r1 with
  | cons r rr =>
    cases rr with
    | cons r' rr =>
      cases rr with
      | cons r'' rr =>
        cases rr
        cases r
        cases r'
        cases r''
        obtain ⟨its, rv, p1, _⟩ := hx.ba I1
        obtain ⟨its2, rv2, p2, _⟩ := hy.ba I1
        obtain ⟨its3, rv3, p3, _⟩ := hz3.ba I1
        have l1 := hx.lt I1
        have l2 := hy.lt I1
        have l3 := hz3.lt I1
        refine zip_begins3 (sBegins k1 a its.toArray) (sBegins k2 b its2.toArray) (sBegins k3 d its3.toArray) p1 p2 p3 fun h' hz hTI hTO h1 h2 h3 hsz hk => wpAny_pyIter_zip hz ?_
        have I2 : Inv X pins σ H1 { s1 with heap := h' } := I1.kept (t' := s1.toks) hk
        refine ⟨s1.heap.objs.size + 5, [s1.heap.objs.size + 5, s1.heap.objs.size + 3, s1.heap.objs.size + 4, s1.heap.objs.size, s1.heap.objs.size + 1, s1.heap.objs.size + 2], _, _, H1, rfl, I2, turn_zip3 (k1 := k1) (k2 := k2) (k3 := k3) l1 l2 l3, ⟨hz, hTI, ⟨_, _, _, hTO⟩, .new h1, .new h2, .new h3⟩, fun c hcm => ?_, q⟩
        have e' : c = s1.heap.objs.size + 5 ∨ c = s1.heap.objs.size + 3 ∨ c = s1.heap.objs.size + 4 ∨ c = s1.heap.objs.size ∨ c = s1.heap.objs.size + 1 ∨ c = s1.heap.objs.size + 2 := by simpa using hcm
        have hle : s1.heap.objs.size ≤ c := by
          rcases e' with z | z | z | z | z | z
          · rw [z]; exact Nat.le_add_right _ _
          · rw [z]; exact Nat.le_add_right _ _
          · rw [z]; exact Nat.le_add_right _ _
          · rw [z]; exact Nat.le_refl _
          · rw [z]; exact Nat.le_add_right _ _
          · rw [z]; exact Nat.le_add_right _ _
        exact I1.fpOk hle (I1.hok.fresh hle)
theorem len2 {α : Type} {l : List α} (h : l.length = 2) : ∃ x y, l = [x, y] := by
  match l, h with
  | [x, y], _ => exact ⟨x, y, rfl⟩
theorem len3 {α : Type} {l : List α} (h : l.length = 3) : ∃ x y z, l = [x, y, z] := by
  match l, h with
  | [x, y, z], _ => exact ⟨x, y, z, rfl⟩
/-- zip with so many arguments -/
def iZipN (n : Nat) (a : AF) : IF := iRows (fun vs S => if Nat.beq vs.length n then rowsZ vs S else none) a
theorem fixZN (n : Nat) (vs : List PV) (h : allFixed vs = true) (S S' : Sto) : (if Nat.beq vs.length n then rowsZ vs S else none) = (if Nat.beq vs.length n then rowsZ vs S' else none) := by rw [fixZ vs h S S']
theorem ji_zip2 {k : AF} {p tpos : Pos} {elts : List Expr} {kk : Nat} (hg : Gl X "zip") (hm : X.mg "zip" = none) (ha : JA B W X [a, b] k) (hs : starEach [a, b] X.env = (false, eval a X.env) :: starEach [b] X.env) (hpl : (backTo pos (starEach [b] X.env)).any (·.1) = false) :
    JI B W X (.Tuple elts kk tpos) (.Call (.Name "zip" p) [a, b] [] pos) (iZipN 2 k) := by
  refine ⟨PI.imp' (pi_zipS2 hg hm ha.pa hs hpl) fun σ H R h => rows_step h (fun vs xv m1 Rv1 S1 H1 st rx ps ep hR => ?_) (fixZN 2)⟩
  have ep' : (if Nat.beq vs.length 2 then rowsZ vs S1 else none) = some ps := ep
  split at ep'
  · rename_i hb
    obtain ⟨x, y, rfl⟩ := len2 (Nat.eq_of_beq_eq_true hb)
    obtain ⟨v, u, rfl, rv, ru⟩ := rep2 rx
    have ep2 : (match seqOf S1 x, seqOf S1 y with | some xs, some ys => some (zipP xs ys) | _, _ => none) = some ps := ep'
    split at ep2
    · rename_i xs ys ex ey
      obtain ⟨k1, a1, rfl, ⟨vs1, h1⟩, hr1⟩ := seq_at st rv ex
      obtain ⟨k2, a2, rfl, ⟨vs2, h2⟩, hr2⟩ := seq_at st ru ey
      refine ⟨k1, k2, a1, a2, vs1, vs2, rfl, h1, h2, hR (fun c : List V × List V => zipV c.1 c.2) (fun c H => sHd k1 H a1 c.1 ∧ sHd k2 H a2 c.2) fun m2 Rv2 S2 H2 e2 zs ez => ?_⟩
      have ez' : (match seqOf S2 x, seqOf S2 y with | some xs, some ys => some (zipP xs ys) | _, _ => none) = some zs := ez
      split at ez'
      · rename_i xs' ys' ex' ey'
        cases ez'
        obtain ⟨ws, q1, q2⟩ := hr1 _ _ _ _ e2 xs' ex'
        obtain ⟨us, q3, q4⟩ := hr2 _ _ _ _ e2 ys' ey'
        exact ⟨(ws, us), ⟨q1, q3⟩, zip_rep q2 q4⟩
      · cases ez'
    · cases ep2
  · cases ep'
theorem rep3 {p q r : PV} {xs : List V} (h : RepVs B m Rv N H [p, q, r] xs) : ∃ v u t, xs = [v, u, t] ∧ RepV B m Rv N H p v ∧ RepV B m Rv N H q u ∧ RepV B m Rv N H r t := by
  obtain ⟨w, ws, rfl, h1, h2⟩ := h.inv
  obtain ⟨u, t, rfl, h3, h4⟩ := rep2 h2
  exact ⟨w, u, t, rfl, h1, h3, h4⟩
theorem ji_zip3 {k : AF} {p tpos : Pos} {elts : List Expr} {kk : Nat} (hg : Gl X "zip") (hm : X.mg "zip" = none) (ha : JA B W X [a, b, c] k) (hs : starEach [a, b, c] X.env = (false, eval a X.env) :: starEach [b, c] X.env) (hpl : (backTo pos (starEach [b, c] X.env)).any (·.1) = false) :
    JI B W X (.Tuple elts kk tpos) (.Call (.Name "zip" p) [a, b, c] [] pos) (iZipN 3 k) := by
  refine ⟨PI.imp' (pi_zipS3 hg hm ha.pa hs hpl) fun σ H R h => rows_step h (fun vs xv m1 Rv1 S1 H1 st rx ps ep hR => ?_) (fixZN 3)⟩
  have ep' : (if Nat.beq vs.length 3 then rowsZ vs S1 else none) = some ps := ep
  split at ep'
  · rename_i hb
    obtain ⟨x, y, z, rfl⟩ := len3 (Nat.eq_of_beq_eq_true hb)
    obtain ⟨v, u, t, rfl, rv, ru, rt⟩ := rep3 rx
    have ep2 : (match seqOf S1 x, seqOf S1 y, seqOf S1 z with | some xs, some ys, some zs => some (zipP3 xs ys zs) | _, _, _ => none) = some ps := ep'
    split at ep2
    · rename_i xs ys zs ex ey ez
      obtain ⟨k1, a1, rfl, ⟨vs1, h1⟩, hr1⟩ := seq_at st rv ex
      obtain ⟨k2, a2, rfl, ⟨vs2, h2⟩, hr2⟩ := seq_at st ru ey
      obtain ⟨k3, a3, rfl, ⟨vs3, h3⟩, hr3⟩ := seq_at st rt ez
      refine ⟨k1, k2, k3, a1, a2, a3, vs1, vs2, vs3, rfl, h1, h2, h3, hR (fun c : List V × List V × List V => zipV3 c.1 c.2.1 c.2.2) (fun c H => sHd k1 H a1 c.1 ∧ sHd k2 H a2 c.2.1 ∧ sHd k3 H a3 c.2.2) fun m2 Rv2 S2 H2 e2 zs ez => ?_⟩
      have ez' : (match seqOf S2 x, seqOf S2 y, seqOf S2 z with | some xs, some ys, some zs => some (zipP3 xs ys zs) | _, _, _ => none) = some zs := ez
      split at ez'
      · rename_i xs' ys' zs' ex' ey' ez2
        cases ez'
        obtain ⟨ws, q1, q2⟩ := hr1 _ _ _ _ e2 xs' ex'
        obtain ⟨us, q3, q4⟩ := hr2 _ _ _ _ e2 ys' ey'
        obtain ⟨ts, q5, q6⟩ := hr3 _ _ _ _ e2 zs' ez2
        exact ⟨(ws, us, ts), ⟨q1, q3, q5⟩, zip_rep3 q2 q4 q6⟩
      · cases ez'
    · cases ep2
  · cases ep'
end
end Fx

/-! Fx9: methods, stores, isinstance, is, conversions of ranges, several names at once. -/
namespace Fx
open PySem PySem.Spec PyProof.Rows L2
section
variable {B : Bx} {W : WX} {X : Cx} {m : Mp} {Rv : Rsv} {S : Sto} {N : Nat} {H : Hp} {a b c e tg : Expr} {f g h : EF} {pos apos cpos : Pos} {es : List Expr}

/-! ### methods -/
def rMt (B : Bx) (o : VO) : V → List V → Hp → VK → Prop := fun x xs H Q => ∃ m Rv S p ps, Fx.St B m Rv S H ∧ RepV B m Rv S.length H p x ∧ RepVs B m Rv S.length H ps xs ∧ PO B m Rv S H (o (p :: ps) S) Q
def rMM (B : Bx) (o : VM) : V → List V → Hp → VK → Prop := fun x xs H Q => ∃ m Rv S p ps, Fx.St B m Rv S H ∧ RepV B m Rv S.length H p x ∧ RepVs B m Rv S.length H ps xs ∧ PM B m Rv S H (o (p :: ps) S) Q
theorem PM.okr {m : Mp} {Rv : Rsv} {S S' : Sto} {H H' : Hp} {v : PV} {z : V} {Q : VK} (h : PM B m Rv S H (some (v, S')) Q) (e : Ext B m Rv S H m Rv S' H') (r : RepV B m Rv S'.length H' v z) : Q z H' := h m Rv H' z e r
/-- a receiver that is a list, that is a tuple -/
theorem kdLst_of {K : PySem.W.Frag} {x : PV} {v : V} (s : Fx.St B m Rv S H) (r : RepV B m Rv S.length H x v) (h : kdLst x S = true) : tyV K "list" v H := by
  unfold kdLst at h
  obtain ⟨xs, e⟩ := Option.isSome_iff_exists.mp h
  obtain ⟨a, vs, rfl, h1, _⟩ := rep_list s r e
  exact .inl ⟨rfl, _, .of h1⟩
theorem kdTup_of {x : PV} {v : V} (r : RepV B m Rv N H x v) (h : kdTup x S = true) : ∃ xs, Fx0.TupO H v xs := by
  unfold kdTup at h
  split at h
  · obtain ⟨a, o, vs, rfl, h1, hd, _⟩ := repV_tup r
    exact ⟨vs, a, o, rfl, h1, hd⟩
  · cases h
theorem meth_imp {kd : PV → Sto → Bool} {o : VO} {k : AF} {ty : V → Hp → Prop} {r : V → List V → Hp → VK → Prop} (hk : ∀ m Rv S H x v, Fx.St B m Rv S H → RepV B m Rv S.length H x v → kd x S = true → ty v H) (hr : ∀ x xs H Q, rMt B o x xs H Q → r x xs H Q)
    {σ : L2.St} {H : Hp} {Q : VK} (h : tJ B W (cMeth kd o f k) σ H Q) : tJ B W f σ H fun x H1 => ty x H1 ∧ tJA B W k σ H1 fun xs H2 => r x xs H2 Q := by
  refine tK.step h fun x m1 Rv1 S1 H1 ρ he hs hp xv rx => ?_
  split at hp
  · rename_i hkd
    refine ⟨hk _ _ _ _ _ _ hs rx hkd, ρ, S1, m1, Rv1, he, hs, (Post.bind hs hp).mono fun xs m2 Rv2 S2 H2 _ e p yv ry => ?_⟩
    exact hr _ _ _ _ ⟨m2, Rv2, S2, x, xs, e.st, RepV.stay (e.stay hs) _ _ rx, ry, PO.of p⟩
  · exact hp.elim
theorem methM_imp {kd : PV → Sto → Bool} {o : VM} {k : AF} {ty : V → Hp → Prop} {r : V → List V → Hp → VK → Prop} (hk : ∀ m Rv S H x v, Fx.St B m Rv S H → RepV B m Rv S.length H x v → kd x S = true → ty v H) (hr : ∀ x xs H Q, rMM B o x xs H Q → r x xs H Q)
    {σ : L2.St} {H : Hp} {Q : VK} (h : tJ B W (cMethM kd o f k) σ H Q) : tJ B W f σ H fun x H1 => ty x H1 ∧ tJA B W k σ H1 fun xs H2 => r x xs H2 Q := by
  refine tK.step h fun x m1 Rv1 S1 H1 ρ he hs hp xv rx => ?_
  split at hp
  · rename_i hkd
    refine ⟨hk _ _ _ _ _ _ hs rx hkd, ρ, S1, m1, Rv1, he, hs, (Post.bind hs hp).mono fun xs m2 Rv2 S2 H2 _ e p yv ry => ?_⟩
    exact hr _ _ _ _ ⟨m2, Rv2, S2, x, xs, e.st, RepV.stay (e.stay hs) _ _ rx, ry, PM.of p⟩
  · exact hp.elim
/-- what a call of a method with arguments asks of its text -/
structure MTxt (X : Cx) (o : Expr) (name : Str) (apos : Pos) (e : Expr) (es : List Expr) (cpos : Pos) : Prop where
  base : attributeBase o name X.env (eval o X.env) = eval o X.env
  few : ((backTo cpos (starEach (e :: es) X.env)).all (fun x => !x.1) && (backToKw cpos (keywordEach [] X.env)).all (fun x => x.1.isSome)
      && decide ((e :: es).length + ([] : List Keyword).length + (if ([] : List Keyword).isEmpty then 0 else 1) < 30)) = true
  line : (apos.endLine == cpos.line) = true
  star : starEach (e :: es) X.env = (false, eval e X.env) :: starEach es X.env
  plain : (backTo cpos (starEach es X.env)).any (·.1) = false
variable {name : Str} {id : String} {k : AF}
theorem je_methML {o : VM} (slot : Slot "list" name id) (hty : typeOf (.builtin id) = pure (.type "method_descriptor")) (hm : MtR X id (rMM B o)) (ha : JE B W X a f) (hx : JA B W X (e :: es) k) (t : MTxt X a name apos e es cpos) :
    JE B W X (.Call (.Attribute a name apos) (e :: es) [] cpos) (cMethM kdLst o f k) :=
  ⟨PE.imp' (pe_bm PySem.F.plainAttrs_list slot hty hm ha.pe hx.pa t.base t.few t.line t.star t.plain) fun σ H Q h => methM_imp (fun m Rv S H x v s r h => kdLst_of s r h) (fun _ _ _ _ q => q) h⟩
/-- a method that lists and tuples have -/
theorem pe_bmX {to : TE} {t : TA} {idL idT : String} {rL rT : V → List V → Hp → VK → Prop} (slotL : Slot "list" name idL) (htyL : typeOf (.builtin idL) = pure (.type "method_descriptor")) (hmL : MtR X idL rL) (slotT : Slot "tuple" name idT) (htyT : typeOf (.builtin idT) = pure (.type "method_descriptor")) (hmT : MtR X idT rT)
    (ho : PE X a to) (ha : PA X (e :: es) t) (tx : MTxt X a name apos e es cpos) :
    PE X (.Call (.Attribute a name apos) (e :: es) [] cpos) (fun σ H Q => to σ H fun x H1 => (tyV X.K "list" x H1 ∧ t σ H1 fun xs H2 => rL x xs H2 Q) ∨ ((∃ xs, Fx0.TupO H1 x xs) ∧ t σ H1 fun xs H2 => rT x xs H2 Q)) := by
  refine ⟨fun pins s σ H Q I h => ?_⟩
  refine wpAny_Call_method_late tx.base tx.few tx.line rfl (thn (ho.run pins s σ H _ I h) fun v s1 ⟨x, H1, I1, r1, q1⟩ => ?_)
  have fin : ∀ {id : String} {r : V → List V → Hp → VK → Prop}, MtR X id r → (t σ H1 fun xs H2 => r x xs H2 Q) → wpAny (model X.prog X.w) X.A (callWith cpos (.builtin id) [v] (backTo cpos (starEach (e :: es) X.env)) (backToKw cpos (keywordEach [] X.env))) (EP X pins σ Q) X.xe s1 := fun {id r} hm q => by
    have hA := ha.run cpos pins s1 σ H1 _ I1 q
    rw [tx.star] at hA ⊢
    refine Calls.callWith_builtin (by show (false || (backTo cpos (starEach es X.env)).any (·.1)) = false; rw [tx.plain] <;> rfl) (Calls.evalArgs_plain ?_)
    exact thn hA fun us s2 ⟨vs, H2, I2, r2, q2⟩ => hm pins s2 σ H2 x vs v us Q I2 r1 r2 q2
  rcases q1 with ⟨ty, q⟩ | ⟨⟨xs, ty⟩, q⟩
  · obtain ⟨h1, h2⟩ := tyV_is I1 r1 ty
    exact ⟨"list", idL, PySem.F.plainAttrs_list, slotL, htyL, h1, h2, fin hmL q⟩
  · obtain ⟨h1, h2⟩ := Fx0.tupO_is I1 r1 ty
    exact ⟨"tuple", idT, PySem.F.plainAttrs_tuple, slotT, htyT, h1, h2, fin hmT q⟩
theorem kdSeq_of {K : PySem.W.Frag} {x : PV} {v : V} (s : Fx.St B m Rv S H) (r : RepV B m Rv S.length H x v) (h : kdSeq x S = true) : tyV K "list" v H ∨ ∃ xs, Fx0.TupO H v xs := by
  cases x with
  | tup ys => exact .inr (kdTup_of (S := S) r rfl)
  | lst ys => exact .inl (kdLst_of s r rfl)
  | ref n => exact .inl (kdLst_of s r h)
  | _ => cases h
def isTupP : PV → Bool
  | .tup _ => true
  | _ => false
def rMtK (B : Bx) (b : Bool) (o : VO) : V → List V → Hp → VK → Prop := fun x xs H Q => ∃ m Rv S p ps, isTupP p = b ∧ Fx.St B m Rv S H ∧ RepV B m Rv S.length H p x ∧ RepVs B m Rv S.length H ps xs ∧ PO B m Rv S H (o (p :: ps) S) Q
theorem je_methX {o : VO} {idL idT : String} (slotL : Slot "list" name idL) (htyL : typeOf (.builtin idL) = pure (.type "method_descriptor")) (hmL : MtR X idL (rMtK B false o)) (slotT : Slot "tuple" name idT) (htyT : typeOf (.builtin idT) = pure (.type "method_descriptor")) (hmT : MtR X idT (rMtK B true o))
    (ha : JE B W X a f) (hx : JA B W X (e :: es) k) (t : MTxt X a name apos e es cpos) : JE B W X (.Call (.Attribute a name apos) (e :: es) [] cpos) (cMeth kdSeq o f k) := by
  refine ⟨PE.imp' (pe_bmX slotL htyL hmL slotT htyT hmT ha.pe hx.pa t) fun σ H Q h => ?_⟩
  refine tK.step h fun x m1 Rv1 S1 H1 ρ he hs hp xv rx => ?_
  split at hp
  · rename_i hkd
    have fin : ∀ b, isTupP x = b → tJA B W k σ H1 fun xs H2 => rMtK B b o xv xs H2 Q := fun b hb => ⟨ρ, S1, m1, Rv1, he, hs, (Post.bind hs hp).mono fun xs m2 Rv2 S2 H2 _ e p yv ry =>
      ⟨m2, Rv2, S2, x, xs, hb, e.st, RepV.stay (e.stay hs) _ _ rx, ry, PO.of p⟩⟩
    cases hx : isTupP x with
    | true =>
      refine .inr ⟨?_, fin true hx⟩
      cases x with
      | tup ys => exact kdTup_of (S := S1) rx rfl
      | _ => cases hx
    | false =>
      refine .inl ⟨?_, fin false hx⟩
      rcases kdSeq_of (K := X.K) hs rx hkd with h1 | h1
      · exact h1
      · cases x with
        | tup ys => cases hx
        | lst ys => exact kdLst_of hs rx rfl
        | ref n => exact kdLst_of hs rx hkd
        | _ => cases hkd
  · exact hp.elim
theorem two_of {o : PV → PV → Sto → Option PV} {p : PV} {ps : List PV} {S : Sto} {Q : VK} (h : PO B m Rv S H (op2 o (p :: ps) S) Q) : ∃ q, ps = [q] ∧ PO B m Rv S H (o p q S) Q := by
  unfold op2 at h
  split at h
  · rename_i x y e; cases e; exact ⟨_, rfl, h⟩
  · exact h.elim
theorem two_ofM {o : PV → PV → Sto → Option (PV × Sto)} {p : PV} {ps : List PV} {S : Sto} {Q : VK} (h : PM B m Rv S H (op2m o (p :: ps) S) Q) : ∃ q, ps = [q] ∧ PM B m Rv S H (o p q S) Q := by
  unfold op2m at h
  split at h
  · rename_i x y e; cases e; exact ⟨_, rfl, h⟩
  · exact h.elim
theorem hm_append : MtR X "list.append" (rMM B mAppend) := by
  intro pins s σ H x xs v us Q I rx rv h
  obtain ⟨m, Rv, S, p, ps, hs, rp, rps, hp⟩ := h
  obtain ⟨q, rfl, hp2⟩ := two_ofM hp
  clear hp
  obtain ⟨y, rfl, ry⟩ := rep1 rps
  split at hp2
  · rename_i n
    cases en : S[n]? with
    | none => rw [en] at hp2; exact hp2.elim
    | some cl =>
      cases cl with
      | lst zs =>
        rw [en] at hp2
        dsimp only at hp2
        split at hp2
        · rename_i hl
          unfold RepV at rp
          obtain ⟨hn, rfl⟩ := rp
          obtain ⟨vs, h1, h2⟩ := hs.cells n zs en
          have e := Ext.write (ys := zs ++ [q]) (vs := vs ++ [y]) hs en (h2.append (.cons ry .nil))
          refine mt_append pins s σ H _ _ v us Q I rx rv ⟨m n, vs, y, rfl, rfl, h1, ?_, PM.okr hp2 e repV_non'⟩
          rw [sizeLine_eq, ← h2.length]
          exact Nat.le_of_ble_eq_true hl
        · exact hp2.elim
  · exact hp2.elim
theorem hm_popAt : MtR X "list.pop" (rMM B mPopAt) := by
  intro pins s σ H x xs v us Q I rx rv h
  obtain ⟨m, Rv, S, p, ps, hs, rp, rps, hp⟩ := h
  obtain ⟨q, rfl, hp2⟩ := two_ofM hp
  clear hp
  obtain ⟨y, rfl, ry⟩ := rep1 rps
  split at hp2
  · rename_i n i
    cases en : S[n]? with
    | none => rw [en] at hp2; exact hp2.elim
    | some cl =>
      cases cl with
      | lst zs =>
        rw [en] at hp2
        dsimp only at hp2
        split at hp2
        · rename_i hb
          rw [Bool.and_eq_true, decide_eq_true_eq, decide_eq_true_eq] at hb
          cases ej : ixN zs.length i with
          | none => rw [ej] at hp2; exact hp2.elim
          | some j =>
            rw [ej] at hp2
            dsimp only at hp2
            cases ez : zs[j]? with
            | none => rw [ez] at hp2; exact hp2.elim
            | some z =>
              rw [ez] at hp2
              unfold RepV at rp
              obtain ⟨hn, rfl⟩ := rp
              obtain ⟨vs, h1, h2⟩ := hs.cells n zs en
              obtain ⟨w, hw, rw'⟩ := h2.get ez
              have e := Ext.write (ys := zs.eraseIdx j) (vs := vs.eraseIdx j) hs en (h2.erase j)
              rw [repV_int ry] at rv
              refine mt_popAt pins s σ H _ _ v us Q I rx rv ⟨m n, vs, i, j, w, rfl, rfl, h1, hb.1, hb.2, ?_, hw, PM.okr hp2 e (RepV.stay (e.stay hs) _ _ rw')⟩
              rw [h2.length] at ej
              exact (ixN_seq (show L2.ixN vs.length i = some j from ej)).1
        · exact hp2.elim
  · exact hp2.elim
theorem posOf_get {x : PV} : ∀ {xs : List PV} {j : Nat}, posOf x xs = some j → ∃ z, xs[j]? = some z ∧ eqF z x = true ∧ ∀ (i : Nat) w, i < j → xs[i]? = some w → eqF w x = false
  | [], j, h => by cases h
  | y :: ys, j, h => by
    unfold posOf at h
    split at h
    · rename_i e
      cases h
      exact ⟨y, rfl, e, fun i w hi => absurd hi (Nat.not_lt_zero i)⟩
    · rename_i e
      cases ep : posOf x ys with
      | none => rw [ep] at h; cases h
      | some k =>
        rw [ep] at h
        cases h
        obtain ⟨z, h1, h2, h3⟩ := posOf_get ep
        refine ⟨z, by simpa using h1, h2, fun i w hi hw => ?_⟩
        cases i with
        | zero =>
          simp at hw
          subst hw
          simpa using e
        | succ i => exact h3 i w (by have q : i + 1 < k + 1 := hi; omega) (by simpa using hw)
theorem index_of {x : PV} {xs : List PV} {vs : List V} {y : V} {j : Nat} (fx : flatP x = true) (fs : xs.all flatP = true) (h : posOf x xs = some j) (r : RepVs B m Rv N H xs vs) (ry : RepV B m Rv N H x y) :
    flatV y = true ∧ vs.all flatV = true ∧ ∃ z, vs[j]? = some z ∧ eqV z y = true ∧ ∀ (i : Nat) (z' : V), i < j → vs[i]? = some z' → eqV z' y = false := by
  have ev := rep_flats fs r
  have ex := rep_flat fx ry
  subst ev ex
  obtain ⟨z, h1, h2, h3⟩ := posOf_get h
  have fl : ∀ {i : Nat} {w : PV}, xs[i]? = some w → flatP w = true := fun e => List.all_eq_true.mp fs _ (List.mem_of_getElem? e)
  refine ⟨flatV_vOf, flats_vOf, vOf z, by rw [List.getElem?_map, h1]; rfl, by rw [eqV_vOf (fl h1) fx]; exact h2, fun i z' hi hz => ?_⟩
  rw [List.getElem?_map] at hz
  cases ew : xs[i]? with
  | none => rw [ew] at hz; cases hz
  | some w =>
    rw [ew] at hz
    cases hz
    rw [eqV_vOf (fl ew) fx]
    exact h3 i w hi ew
theorem list_of_seq {x : PV} {S : Sto} {zs : List PV} (h : isTupP x = false) (e : seqOf S x = some zs) : listOf S x = some zs := by
  cases x with
  | tup ys => cases h
  | _ => exact e
theorem tup_of_seq {x : PV} {S : Sto} {zs : List PV} (h : isTupP x = true) (e : seqOf S x = some zs) : x = .tup zs := by
  cases x with
  | tup ys => cases e; rfl
  | _ => cases h
theorem hm_indexL : MtR X "list.index" (rMtK B false mIndex) := by
  intro pins s σ H x xs v us Q I rx rv h
  obtain ⟨m, Rv, S, p, ps, ht, hs, rp, rps, hp⟩ := h
  obtain ⟨q, rfl, hp2⟩ := two_of hp
  clear hp
  obtain ⟨y, rfl, ry⟩ := rep1 rps
  split at hp2
  · rename_i zs ez
    split at hp2
    · rename_i hf
      rw [Bool.and_eq_true] at hf
      split at hp2
      · rename_i j ej
        obtain ⟨a, vs, rfl, h1, r1⟩ := rep_list hs rp (list_of_seq ht ez)
        obtain ⟨f1, f2, z, h2, h3, h4⟩ := index_of hf.1 hf.2 ej r1 ry
        exact mt_index pins s σ H _ _ v us Q I rx rv ⟨a, vs, y, j, z, rfl, rfl, .of h1, f1, f2, h2, h3, h4, PO.same hs hp2 repV_int'⟩
      · exact hp2.elim
    · exact hp2.elim
  · exact hp2.elim
theorem hm_indexT : MtR X "tuple.index" (rMtK B true mIndex) := by
  intro pins s σ H x xs v us Q I rx rv h
  obtain ⟨m, Rv, S, p, ps, ht, hs, rp, rps, hp⟩ := h
  obtain ⟨q, rfl, hp2⟩ := two_of hp
  clear hp
  obtain ⟨y, rfl, ry⟩ := rep1 rps
  split at hp2
  · rename_i zs ez
    have := tup_of_seq ht ez
    subst this
    split at hp2
    · rename_i hf
      rw [Bool.and_eq_true] at hf
      split at hp2
      · rename_i j ej
        obtain ⟨a, o, vs, rfl, h1, hd, r1⟩ := repV_tup rp
        obtain ⟨f1, f2, z, h2, h3, h4⟩ := index_of hf.1 hf.2 ej r1 ry
        exact Fx0.mt_indexT pins s σ H _ _ v us Q I rx rv ⟨a, vs, y, j, z, rfl, rfl, sqT h1, f1, f2, h2, h3, h4, PO.same hs hp2 repV_int'⟩
      · exact hp2.elim
    · exact hp2.elim
  · exact hp2.elim
theorem countP_of {x : PV} (fx : flatP x = true) : ∀ {xs : List PV}, xs.all flatP = true → (xs.map vOf).countP (fun z => eqV z (vOf x)) = countP x xs
  | [], _ => rfl
  | y :: ys, f => by
    rw [List.all_cons, Bool.and_eq_true] at f
    rw [List.map_cons, List.countP_cons, countP_of fx f.2, eqV_vOf f.1 fx]
    show _ = (if eqF y x then countP x ys + 1 else countP x ys)
    cases eqF y x <;> rfl
theorem hm_countL : MtR X "list.count" (rMtK B false mCount) := by
  intro pins s σ H x xs v us Q I rx rv h
  obtain ⟨m, Rv, S, p, ps, ht, hs, rp, rps, hp⟩ := h
  obtain ⟨q, rfl, hp2⟩ := two_of hp
  clear hp
  obtain ⟨y, rfl, ry⟩ := rep1 rps
  split at hp2
  · rename_i zs ez
    split at hp2
    · rename_i hf
      rw [Bool.and_eq_true] at hf
      obtain ⟨a, vs, rfl, h1, r1⟩ := rep_list hs rp (list_of_seq ht ez)
      have ev := rep_flats hf.2 r1
      have ex := rep_flat hf.1 ry
      subst ev ex
      refine Fx0.mt_countL pins s σ H _ _ v us Q I rx rv ⟨a, _, _, rfl, rfl, .of h1, flatV_vOf, flats_vOf, ?_⟩
      rw [countP_of hf.1 hf.2]
      exact PO.same hs hp2 repV_int'
    · exact hp2.elim
  · exact hp2.elim
theorem hm_countT : MtR X "tuple.count" (rMtK B true mCount) := by
  intro pins s σ H x xs v us Q I rx rv h
  obtain ⟨m, Rv, S, p, ps, ht, hs, rp, rps, hp⟩ := h
  obtain ⟨q, rfl, hp2⟩ := two_of hp
  clear hp
  obtain ⟨y, rfl, ry⟩ := rep1 rps
  split at hp2
  · rename_i zs ez
    have := tup_of_seq ht ez
    subst this
    split at hp2
    · rename_i hf
      rw [Bool.and_eq_true] at hf
      obtain ⟨a, o, vs, rfl, h1, hd, r1⟩ := repV_tup rp
      have ev := rep_flats hf.2 r1
      have ex := rep_flat hf.1 ry
      subst ev ex
      refine Fx0.mt_countT pins s σ H _ _ v us Q I rx rv ⟨a, _, _, rfl, rfl, sqT h1, flatV_vOf, flats_vOf, ?_⟩
      rw [countP_of hf.1 hf.2]
      exact PO.same hs hp2 repV_int'
    · exact hp2.elim
  · exact hp2.elim
/-! ### xs[i] = v -/
theorem hs_set : PSet X (rSet3 B stSet) := by
  intro pins s σ H o i v ov iv u Q I ro ri rv h
  obtain ⟨m, Rv, S, po, pi, pv, hs, h1, h2, h3, hp⟩ := h
  unfold stSet at hp
  split at hp
  · rename_i n k
    cases en : S[n]? with
    | none => rw [en] at hp; exact hp.elim
    | some cl =>
      cases cl with
      | lst zs =>
        rw [en] at hp
        dsimp only at hp
        cases ej : ixN zs.length k with
        | none => rw [ej] at hp; exact hp.elim
        | some j =>
          rw [ej] at hp
          unfold RepV at h1
          obtain ⟨hn, rfl⟩ := h1
          obtain ⟨vs, h4, h5⟩ := hs.cells n zs en
          have e := Ext.write (ys := zs.set j pv) (vs := vs.set j v) hs en (h5.set h3 j)
          rw [repV_int h2] at ri
          refine set_list pins s σ H _ _ v ov iv u Q I ro ri rv ⟨m n, vs, k, j, rfl, rfl, h4, ?_, PM.okr (v := .non) (z := .non) hp e repV_non'⟩
          rw [h5.length] at ej
          exact ej
  · exact hp.elim
/-! ### is None, is True, is False -/
theorem isNon_of {x : PV} {v : V} (r : RepV B m Rv N H x v) : decide (v = V.non) = isNon x := by
  cases x with
  | non => rw [repV_non r]; rfl
  | bl b => rw [repV_bl r]; rfl
  | int b => rw [repV_int r]; rfl
  | str b => rw [repV_str r]; rfl
  | ref n => unfold RepV at r; rw [r.2]; rfl
  | fn n => unfold RepV at r; obtain ⟨a, _, e⟩ := r; rw [e]; rfl
  | scr n => unfold RepV at r; obtain ⟨a, e, _⟩ := r; rw [e]; rfl
  | tup n => unfold RepV at r; obtain ⟨a, _, _, e, _⟩ := r; rw [e]; rfl
  | lst n => unfold RepV at r; obtain ⟨a, _, e, _⟩ := r; rw [e]; rfl
  | prs n => unfold RepV at r; obtain ⟨a, _, e, _⟩ := r; rw [e]; rfl
  | err c fs => unfold RepV at r; obtain ⟨a, _, e, _⟩ := r; rw [e]; rfl
theorem ho_is : OpR X (compareOp .Is) (rO2 B (oIs false)) := by
  intro pins s σ H x y v u Q I rx ry h
  obtain ⟨m, Rv, S, p, q, hs, rp, rq, hp⟩ := h
  unfold oIs at hp
  split at hp
  · refine op_isN pins s σ H _ _ v u Q I rx ry ⟨repV_non rq, ?_⟩
    rw [isNon_of rp]
    exact PO.same hs hp (by rw [if_neg Bool.false_ne_true]; exact repV_bl')
  · rename_i b
    split at hp
    · rename_i c
      refine op_isBl pins s σ H _ _ v u Q I rx ry ⟨c, b, repV_bl rp, repV_bl rq, ?_⟩
      exact PO.same hs hp (by rw [if_neg Bool.false_ne_true]; exact repV_bl')
    · exact hp.elim
  · exact hp.elim
theorem ho_isnot : OpR X (compareOp .IsNot) (rO2 B (oIs true)) := by
  intro pins s σ H x y v u Q I rx ry h
  obtain ⟨m, Rv, S, p, q, hs, rp, rq, hp⟩ := h
  unfold oIs at hp
  split at hp
  · refine op_notN pins s σ H _ _ v u Q I rx ry ⟨repV_non rq, ?_⟩
    rw [isNon_of rp]
    exact PO.same hs hp (by rw [if_pos rfl]; exact repV_bl')
  · rename_i b
    split at hp
    · rename_i c
      refine op_notBl pins s σ H _ _ v u Q I rx ry ⟨c, b, repV_bl rp, repV_bl rq, ?_⟩
      exact PO.same hs hp (by rw [if_pos rfl]; exact repV_bl')
    · exact hp.elim
  · exact hp.elim
/-! ### isinstance(e, T), T built in -/
def Ty.nm : Ty → String
  | .int => "int" | .bool => "bool" | .str => "str" | .tuple => "tuple" | .list => "list"
def tyNm : PV → String
  | .non => "NoneType" | .bl _ => "bool" | .int _ => "int" | .str _ => "str" | .tup _ => "tuple" | .lst _ => "list" | .ref _ => "list" | _ => ""
theorem kitB_all : (["NoneType", "bool", "int", "str", "tuple", "list"].all fun a => ["int", "bool", "str", "tuple", "list"].all fun b => kitB a b == some (a == b || (a == "bool" && b == "int"))) = true := by decide +kernel
theorem kitB_of {a b : String} {r : Bool} (ha : a ∈ ["NoneType", "bool", "int", "str", "tuple", "list"]) (hb : b ∈ ["int", "bool", "str", "tuple", "list"]) (hr : (a == b || (a == "bool" && b == "int")) = r) : kitB a b = some r := by
  have h := List.all_eq_true.mp (List.all_eq_true.mp kitB_all a ha) b hb
  rw [← hr]; exact eq_of_beq h
theorem nm_mem (t : Ty) : t.nm ∈ ["int", "bool", "str", "tuple", "list"] := by cases t <;> simp [Ty.nm]
theorem tyx_of {K : PySem.W.Frag} {x : PV} {v : V} {t : Ty} {b : Bool} (s : Fx.St B m Rv S H) (r : RepV B m Rv S.length H x v) (h : isTy t x = some b) : TyX K H v (.type (tyNm x)) ∧ kitB (tyNm x) t.nm = some b := by
  cases x with
  | non => rw [repV_non r]; exact ⟨.base .non, kitB_of (by simp [tyNm]) (nm_mem t) (by cases h; cases t <;> rfl)⟩
  | bl b => rw [repV_bl r]; exact ⟨.base (.bl _), kitB_of (by simp [tyNm]) (nm_mem t) (by cases h; cases t <;> rfl)⟩
  | int b => rw [repV_int r]; exact ⟨.base (.int _), kitB_of (by simp [tyNm]) (nm_mem t) (by cases h; cases t <;> rfl)⟩
  | str b => rw [repV_str r]; exact ⟨.base (.str _), kitB_of (by simp [tyNm]) (nm_mem t) (by cases h; cases t <;> rfl)⟩
  | tup xs =>
    obtain ⟨a, o, vs, rfl, h1, _⟩ := repV_tup r
    exact ⟨.fTuple h1, kitB_of (by simp [tyNm]) (nm_mem t) (by cases h; cases t <;> rfl)⟩
  | lst xs =>
    obtain ⟨a, vs, rfl, h1, _⟩ := rep_list s r rfl
    exact ⟨.base (.lst h1), kitB_of (by simp [tyNm]) (nm_mem t) (by cases h; cases t <;> rfl)⟩
  | ref n =>
    unfold RepV at r
    obtain ⟨hn, rfl⟩ := r
    obtain ⟨xs, vs, _, h1, _⟩ := s.cell hn
    exact ⟨.base (.lst h1), kitB_of (by simp [tyNm]) (nm_mem t) (by cases h; cases t <;> rfl)⟩
  | _ => cases h
theorem je_isTy {t : Ty} {p p2 : Pos} {x : Str} (hg : Gl X "isinstance") (hm : X.mg "isinstance" = none) (hgt : Gl X x) (hmt : X.mg x = none) (hv : bootBuiltins x = some (.type t.nm)) (hn : x ≠ "__name__") (hdb : (x == ("__debug__" : Str)) = false) (ha : JE B W X a f)
    (hs : starEach [a, .Name x p2] X.env = (false, eval a X.env) :: starEach [.Name x p2] X.env) (hs2 : starEach [.Name x p2] X.env = [(false, eval (.Name x p2) X.env)]) :
    JE B W X (.Call (.Name "isinstance" p) [a, .Name x p2] [] pos) (cBi (bIs t) (aCons f aNil)) := by
  have ht : PE X (.Name x p2) (tC (.ty t.nm)) := pe_bltn hgt hmt hv rfl hn hdb
  refine ⟨PE.imp' (pe_callB call_isi hg hm (by decide +kernel) (pa_cons ha.pe (pa_cons ht pa_nil (by rw [hs2]; rfl)) hs) (by decide) (by decide) hs (by rw [hs2]; rfl)) fun σ H Q h => ?_⟩
  have h0 : tJ B W (cUn (fun x S => bIs t [x] S) f) σ H Q := by
    obtain ⟨ρ, S, m, Rv, he, hst, hp⟩ := h
    refine ⟨ρ, S, m, Rv, he, hst, ?_⟩
    have e : cBi (bIs t) (aCons f aNil) ρ S = cUn (fun x S => bIs t [x] S) f ρ S := by
      unfold cBi aCons cUn aNil
      cases f ρ S <;> rfl
    rw [← e]; exact hp
  refine tK.step h0 fun x m1 Rv1 S1 H1 ρ he hst hp xv rx => ?_
  have hp2 := PO.of hp
  unfold bIs op1 at hp2
  dsimp only at hp2
  cases eb : isTy t x with
  | none => rw [eb] at hp2; exact hp2.elim
  | some b =>
    rw [eb] at hp2
    obtain ⟨h1, h2⟩ := tyx_of (K := X.K) hst rx eb
    exact ⟨xv, .ty t.nm, _, _, b, rfl, .ty _, h1, kit_ty h2, PO.same hst hp2 repV_bl'⟩
/-! ### list(range(..)), tuple(range(..)) -/
theorem rngL_rep : ∀ (n : Nat) (i : Int), RepVs B m Rv N H (rngL i n) ((List.range n).map fun k => V.int (i + (k : Nat)))
  | 0, _ => .nil
  | n + 1, i => by
    rw [List.range_succ_eq_map, List.map_cons, List.map_map]
    refine .cons (by rw [show i + ((0 : Nat) : Int) = i by simp]; exact repV_int') ?_
    have q := rngL_rep n (i + 1)
    have e : ((fun k : Nat => V.int (i + (k : Int))) ∘ Nat.succ) = fun k : Nat => V.int (i + 1 + (k : Int)) := by
      funext k
      show V.int (i + ((k + 1 : Nat) : Int)) = V.int (i + 1 + (k : Int))
      congr 1; omega
    rw [e]; exact q
theorem rgV_rep (i j : Int) : RepVs B m Rv N H (rngL i (j - i).toNat) (rgV i j) := rngL_rep _ _
/-- the bounds -/
structure JR2 (B : Bx) (W : WX) (X : Cx) (two : Bool) (e : Expr) (k : AF) : Prop where
  rg : PRg X e fun σ H Q => tJA B W k σ H fun vs H1 => ∃ i j, ((two = false → i = 0) ∧ vs = lstR two i j) ∧ Q i j H1
theorem jr_1 {p : Pos} (hg : Gl X "range") (hm : X.mg "range" = none) (ha : JE B W X a f) (hs : starEach [a] X.env = (false, eval a X.env) :: starEach [] X.env) : JR2 B W X false (.Call (.Name "range" p) [a] [] pos) (aCons f aNil) := by
  refine ⟨fun pins s σ H Q I h => prg_1 hg hm ha.pe hs pins s σ H Q I ?_⟩
  refine tK.step h fun x m1 Rv1 S1 H1 ρ he hst hp xv rx => ?_
  obtain ⟨i, j, ⟨h0, h1⟩, q⟩ := Post.ok hst hp [xv] (RepVs.cons rx .nil)
  have := h0 rfl
  subst this
  have h1' : [xv] = [V.int j] := h1
  cases h1'
  exact ⟨j, rfl, q⟩
theorem jr_2 {p : Pos} (hg : Gl X "range") (hm : X.mg "range" = none) (ha : JE B W X a f) (hb : JE B W X b g) (hs : starEach [a, b] X.env = (false, eval a X.env) :: starEach [b] X.env) (hs2 : starEach [b] X.env = (false, eval b X.env) :: starEach [] X.env) (hpl : (backTo pos (starEach [b] X.env)).any (·.1) = false) :
    JR2 B W X true (.Call (.Name "range" p) [a, b] [] pos) (aCons f (aCons g aNil)) := by
  refine ⟨fun pins s σ H Q I h => prg_2 hg hm ha.pe hb.pe hs hs2 hpl pins s σ H Q I ?_⟩
  refine tK.step h fun x m1 Rv1 S1 H1 ρ he hst hp xv rx => ?_
  refine ⟨ρ, S1, m1, Rv1, he, hst, ?_⟩
  have hp2 : Post B (fun c d H' => W c d σ H') m1 Rv1 S1 H1 ((g ρ S1).bind fun y S2 => .ok [x, y] S2) (fun vs m' Rv' S' H' => ∀ xs, RepVs B m' Rv' S'.length H' vs xs → ∃ i j, ((true = false → i = 0) ∧ xs = lstR true i j) ∧ Q i j H') := by
    have e : (aCons g aNil ρ S1).bind (fun xs S2 => R.ok (x :: xs) S2) = (g ρ S1).bind fun y S2 => .ok [x, y] S2 := by
      unfold aCons aNil
      cases g ρ S1 <;> rfl
    rw [← e]; exact hp
  refine (Post.bind hst hp2).mono fun y m2 Rv2 S2 H2 _ e p yv ry => ?_
  obtain ⟨i, j, ⟨_, h1⟩, q⟩ := Post.ok e.st p [xv, yv] (RepVs.cons (RepV.stay (e.stay hst) _ _ rx) (RepVs.cons ry .nil))
  have h1' : [xv, yv] = [V.int i, V.int j] := h1
  cases h1'
  exact ⟨i, j, rfl, rfl, q⟩
theorem rgOk_of {i j : Int} (h : (small62 i && small62 j && lenOk (j - i).toNat) = true) : RgOk i j := by
  rw [Bool.and_eq_true, Bool.and_eq_true] at h
  have b1 := small62_of h.1.1
  have b2 := small62_of h.1.2
  have b3 : (j - i).toNat ≤ 16777216 := Nat.le_of_ble_eq_true h.2
  exact ⟨b1.1, b1.2, b2.1, b2.2, b3⟩
theorem je_tupRg {two : Bool} {p : Pos} (hc : X.calm = true) (hg : Gl X "tuple") (hm : X.mg "tuple" = none) (he : JR2 B W X two a k) (hs : starEach [a] X.env = (false, eval a X.env) :: starEach [] X.env) :
    JE B W X (.Call (.Name "tuple" p) [a] [] pos) (cBi (bTupRange two) k) := by
  refine ⟨PE.imp' (Fx0.pe_tupRgF hc hg hm he.rg hs) fun σ H Q h => ?_⟩
  refine tK.step h fun x m1 Rv1 S1 H1 ρ he hst hp xv rx => ?_
  have hp2 := PO.of hp
  unfold bTupRange at hp2
  split at hp2
  · rename_i i j e
    split at hp2
    · rename_i hb
      exact ⟨i, j, rng_at e rx, rgOk_of hb, fresh_tup hst hp2 (rgV_rep i j)⟩
    · exact hp2.elim
  · exact hp2.elim
theorem jf_listRg {two : Bool} {p : Pos} (hc : X.calm = true) (hg : Gl X "list") (hm : X.mg "list" = none) (he : JR2 B W X two a k) (hs : starEach [a] X.env = (false, eval a X.env) :: starEach [] X.env) :
    JF B W X (.Call (.Name "list" p) [a] [] pos) (cBi (bListRange two) k) := by
  refine ⟨PE.imp' (pe_listRg hc hg hm he.rg hs) fun σ H Q h => ?_⟩
  obtain ⟨ρ, S, m, Rv, he, hs, hp⟩ := h
  refine ⟨ρ, S, m, Rv, he, hs, (Post.bind hs hp).mono fun ps m1 Rv1 S1 H1 _ e p xv rx => ?_⟩
  unfold bListRange at p
  split at p
  · rename_i i j er
    split at p
    · rename_i hb
      exact ⟨i, j, rng_at er rx, rgOk_of hb, fun q nq => KF.new e.st e.stays p (rgV_rep i j) nq⟩
    · exact p.elim
  · exact p.elim
/-! ### lists that a sum, a product or a part makes -/
def rOF2 (B : Bx) (o : PV → PV → Sto → Option PV) : R2 := fun x y H Q => ∃ m Rv S p q ys, Fx.St B m Rv S H ∧ RepV B m Rv S.length H p x ∧ RepV B m Rv S.length H q y ∧ o p q S = some (.lst ys) ∧ ∀ vs r, RepVs B m Rv S.length H ys vs → H r = none → Q (.ref r) (upd H r (.lst vs))
end
end Fx

/-! Fx10: new lists of operators; several names at once. -/
namespace Fx
open PySem PySem.Spec PyProof.Rows L2
section
variable {B : Bx} {W : WX} {X : Cx} {m : Mp} {Rv : Rsv} {S : Sto} {N : Nat} {H : Hp} {a b c e tg : Expr} {f g h : EF} {pos apos cpos : Pos} {es : List Expr}
def oAddL (x y : PV) (S : Sto) : Option PV := match listOf S x, listOf S y with
  | some xs, some ys => if lenOk (xs.length + ys.length) then some (.lst (xs ++ ys)) else none
  | _, _ => none
def oMulL (x y : PV) (S : Sto) : Option PV := match y with
  | .int k => match listOf S x with
    | some xs => if decide (-(2 ^ 63) ≤ k) && decide (k < 2 ^ 63) && lenOk (xs.length * k.toNat) then some (.lst (List.replicate k.toNat xs).flatten) else none
    | none => none
  | _ => none
theorem oAddL_lst : ∀ x y S v, oAddL x y S = some v → ∃ ys, v = PV.lst ys := fun x y S v h => by
  unfold oAddL at h
  split at h
  · split at h
    · cases h; exact ⟨_, rfl⟩
    · cases h
  · cases h
theorem oMulL_lst : ∀ x y S v, oMulL x y S = some v → ∃ ys, v = PV.lst ys := fun x y S v h => by
  unfold oMulL at h
  split at h
  · split at h
    · split at h
      · cases h; exact ⟨_, rfl⟩
      · cases h
    · cases h
  · cases h
theorem ho_addF : OpR X (binaryOp .Add) (rOF2 B oAddL) := by
  intro pins s σ H xv yv v u Q I rx ry h
  obtain ⟨m, Rv, S, p, q, ys, hs, hp, hq, ho, hQ⟩ := h
  unfold oAddL at ho
  split at ho
  · rename_i xs zs e1 e2
    split at ho
    · rename_i hl
      cases ho
      obtain ⟨a, vs, ea, h1, r1⟩ := rep_list hs hp e1
      obtain ⟨b, ws, eb, h2, r2⟩ := rep_list hs hq e2
      exact op_cat pins s σ H _ _ v u Q I rx ry ⟨a, b, vs, ws, ea, eb, h1, h2, by rw [← r1.length, ← r2.length]; exact lenOk_le hl, fun p np => hQ _ p (r1.append r2) np⟩
    · cases ho
  · cases ho
theorem ho_mulF : OpR X (binaryOp .Mult) (rOF2 B oMulL) := by
  intro pins s σ H xv yv v u Q I rx ry h
  obtain ⟨m, Rv, S, p, q, ys, hs, hp, hq, ho, hQ⟩ := h
  unfold oMulL at ho
  split at ho
  · rename_i k
    split at ho
    · rename_i xs e1
      split at ho
      · rename_i c
        cases ho
        rw [Bool.and_eq_true, Bool.and_eq_true] at c
        obtain ⟨a, vs, ea, h1, r1⟩ := rep_list hs hp e1
        exact op_rep pins s σ H _ _ v u Q I rx ry ⟨a, k, vs, ea, repV_int hq, h1, of_decide_eq_true c.1.1, of_decide_eq_true c.1.2, by rw [← r1.length]; exact lenOk_le c.2, fun p np => hQ _ p (r1.rep _) np⟩
      · cases ho
    · cases ho
  · cases ho
theorem jf_bin {op : Operator} {o : PV → PV → Sto → Option PV} (hl : ∀ x y S v, o x y S = some v → ∃ ys, v = PV.lst ys) (ho : OpR X (binaryOp op) (rOF2 B o)) (ha : JE B W X a f) (hb : JE B W X b g) : JF B W X (.BinOp a op b pos) (cBin o f g) := by
  refine ⟨PE.imp' (pe_op ho ha.pe hb.pe) fun σ H Q h => ?_⟩
  obtain ⟨ρ, S, m, Rv, he, hs, hp⟩ := h
  refine ⟨ρ, S, m, Rv, he, hs, (Post.bind hs hp).mono fun x m1 Rv1 S1 H1 _ e p xv rx => ?_⟩
  refine ⟨ρ, S1, m1, Rv1, he.stay (e.stay hs), e.st, (Post.bind e.st p).mono fun y m2 Rv2 S2 H2 _ e2 p2 yv ry => ?_⟩
  cases eo : o x y S2 with
  | none => rw [eo] at p2; exact p2.elim
  | some v =>
    obtain ⟨ys, rfl⟩ := hl _ _ _ _ eo
    rw [eo] at p2
    exact ⟨m2, Rv2, S2, x, y, ys, e2.st, RepV.stay (e2.stay e.st) _ _ rx, ry, eo, fun vs q r nq => KF.new e2.st (fun b hb => e2.stays b (e.stays b hb)) p2 r nq⟩
/-! ### a, b = x, y -/
theorem jpar2 {i j : Nat} {x y : Str} {px py pt : Pos} {kt k2 : Nat} {pt2 : Pos} {k : AF} (hc : X.calm = true) (hN : X.N.Nodup) (hi : X.N[i]? = some x) (hj : X.N[j]? = some y) (hij : i ≠ j)
    (hx : X.env.scope.names.lookup x = some .local) (hy : X.env.scope.names.lookup y = some .local) (ha : JA B W X [a, b] k)
    (hw : swappedStores [.Tuple [.Name x px, .Name y py] kt pt] (.Tuple [a, b] k2 pt2) X.env = pure (some [x, y]))
    (hs : swapsWithSole [.Tuple [.Name x px, .Name y py] kt pt] (.Tuple [a, b] k2 pt2) pos.line X.env = pure false) :
    JS B W X (.Assign [.Tuple [.Name x px, .Name y py] kt pt] (.Tuple [a, b] k2 pt2) pos) (sPar [i, j] k) := by
  refine ⟨PS.imp' (ps_par hc hN hi hj hij hx hy ha.pa hw hs) fun D σ H h => ?_⟩
  obtain ⟨ρ, S, m, Rv, he, hs, hp⟩ := h
  refine ⟨ρ, S, m, Rv, he, hs, (PostF.st he hs hp).mono fun vs m1 Rv1 S1 H1 _ e p xv rx => ?_⟩
  split at p
  · rename_i ρ1 e1
    match vs, e1 with
    | [v, w], e1 =>
      cases e1
      obtain ⟨v', w', rfl, r1, r2⟩ := rep2 rx
      exact ⟨v', w', rfl, p m1 Rv1 H1 _ (Ext.refl e.st) (((he.stay (e.stay hs)).set i r1).set j r2)⟩
    | [], e1 => cases e1
    | [_], e1 => cases e1
    | _ :: _ :: _ :: _, e1 => cases e1
  · exact p.elim
theorem jpar3 {i j l : Nat} {x y z : Str} {px py pz pt : Pos} {kt k2 : Nat} {pt2 : Pos} {k : AF} (hc : X.calm = true) (hN : X.N.Nodup) (hi : X.N[i]? = some x) (hj : X.N[j]? = some y) (hl : X.N[l]? = some z) (hij : i ≠ j) (hil : i ≠ l) (hjl : j ≠ l)
    (hx : X.env.scope.names.lookup x = some .local) (hy : X.env.scope.names.lookup y = some .local) (hz : X.env.scope.names.lookup z = some .local) (ha : JA B W X [a, b, c] k)
    (hw : swappedStores [.Tuple [.Name x px, .Name y py, .Name z pz] kt pt] (.Tuple [a, b, c] k2 pt2) X.env = pure (some [x, y, z]))
    (hs : swapsWithSole [.Tuple [.Name x px, .Name y py, .Name z pz] kt pt] (.Tuple [a, b, c] k2 pt2) pos.line X.env = pure false) :
    JS B W X (.Assign [.Tuple [.Name x px, .Name y py, .Name z pz] kt pt] (.Tuple [a, b, c] k2 pt2) pos) (sPar [i, j, l] k) := by
  refine ⟨PS.imp' (ps_par3 hc hN hi hj hl hij hil hjl hx hy hz ha.pa hw hs) fun D σ H h => ?_⟩
  obtain ⟨ρ, S, m, Rv, he, hs, hp⟩ := h
  refine ⟨ρ, S, m, Rv, he, hs, (PostF.st he hs hp).mono fun vs m1 Rv1 S1 H1 _ e p xv rx => ?_⟩
  split at p
  · rename_i ρ1 e1
    match vs, e1 with
    | [v, w, u], e1 =>
      cases e1
      obtain ⟨v', w', u', rfl, r1, r2, r3⟩ := rep3 rx
      exact ⟨v', w', u', rfl, p m1 Rv1 H1 _ (Ext.refl e.st) ((((he.stay (e.stay hs)).set i r1).set j r2).set l r3)⟩
    | [], e1 => cases e1
    | [_], e1 => cases e1
    | [_, _], e1 => cases e1
    | _ :: _ :: _ :: _ :: _, e1 => cases e1
  · exact p.elim
end
end Fx

/-! Fx11: defs: what one promises, its call, its body. -/
namespace Fx
open PySem PySem.Spec PyProof.Rows L2

theorem takes0N {X : Cx} : L2N.Takes X (fun _ _ _ _ => False) := fun _ _ ⟨_, _, _, _, _, _, _, _, _, _, _, _, _, _, _, _, w⟩ => w.elim
def spOf (B : Bx) (F : VF) (n : Nat) : Sp := fun vs H Q E => vs.length = n ∧ ∃ m Rv S ps, Fx.St B m Rv S H ∧ RepVs B m Rv S.length H ps vs ∧
  Post B (fun c d H' => E c d H') m Rv S H (F ps S) fun v m' Rv' S' H' => ∀ x, RepV B m' Rv' S'.length H' v x → Q x H'
section
variable {B : Bx} {W : WX} {X : Cx} {m m' : Mp} {Rv Rv' : Rsv} {S S1 : Sto} {N : Nat} {H H' : Hp} {e : Expr} {es : List Expr} {pos p : Pos}
theorem je_call {Fg : VF} {n k : Nat} {f : Addr} {fd : FuncData} {ps : List Str} {x : Str} {kf : AF} (F : FnOk X.prog X.w X.K X.mg X.base (L2N.CX X.prog X.w) k f fd ps (spOf B Fg n)) (hl : ∀ vs S, vs.length ≠ n → Fg vs S = .no)
    (hr : Room k X.A) (hg : Gl X x) (hm : X.mg x = some (.ref f)) (hk : PySem.W.keepIn X.K (.ref f) = true) (hb : Binds X.K fd ps []) (tk : L2N.Takes X W) (ha : JA B W X (e :: es) kf) (hdb : (x == ("__debug__" : Str)) = false)
    (he : starEach (e :: es) X.env = (false, eval e X.env) :: starEach es X.env) (hpl : (backTo pos (starEach es X.env)).any (·.1) = false) : JE B W X (.Call (.Name x p) (e :: es) [] pos) (cCall Fg kf) := by
  refine ⟨PE.imp' (pe_callS (E := WE W) F hr hg hm hk hb (fun σ => L2N.passAt tk σ) ha.pa hdb he hpl) fun σ H Q h => ?_⟩
  refine tK.step h fun xs m1 Rv1 S1 H1 ρ he hs hp xv rx => ?_
  refine ⟨?_, m1, Rv1, S1, xs, hs, rx, hp⟩
  rw [← rx.length]
  by_cases hn : xs.length = n
  · exact hn
  · rw [hl xs S1 hn] at hp
    exact hp.elim
mutual
theorem RepV.cut {N n : Nat} (hn : n ≤ N) : ∀ (q : PV) (v : V), refsBelow n q = true → RepV B m Rv N H q v → RepV B m Rv n H q v
  | .err c fs, v, _, h => by unfold RepV at *; exact h
  | .non, v, _, h => by unfold RepV at *; exact h
  | .bl b, v, _, h => by unfold RepV at *; exact h
  | .int i, v, _, h => by unfold RepV at *; exact h
  | .str x, v, _, h => by unfold RepV at *; exact h
  | .ref k, v, b, h => by
    unfold RepV at *
    unfold refsBelow at b
    exact ⟨Nat.le_of_ble_eq_true b, h.2⟩
  | .fn g, v, _, h => by unfold RepV at *; exact h
  | .scr ns, v, _, h => by unfold RepV at *; exact h
  | .tup xs, v, b, h => by
    unfold RepV at *
    unfold refsBelow at b
    obtain ⟨a, o, vs, e, h1, hd, h2⟩ := h
    exact ⟨a, o, vs, e, h1, hd, RepVs.cut hn xs vs b h2⟩
  | .prs xs, v, b, h => by
    unfold RepV at *
    unfold refsBelow at b
    obtain ⟨a, vs, e, h1, h2⟩ := h
    exact ⟨a, vs, e, h1, RepVs.cut hn xs vs b h2⟩
  | .lst xs, v, b, h => by
    unfold RepV at *
    unfold refsBelow at b
    obtain ⟨a, vs, e, h1, h2, h3⟩ := h
    exact ⟨a, vs, e, h1, h2, RepVs.cut hn xs vs b h3⟩
theorem RepVs.cut {N n : Nat} (hn : n ≤ N) : ∀ (q : List PV) (v : List V), allBelow n q = true → RepVs B m Rv N H q v → RepVs B m Rv n H q v
  | [], v, _, h => by unfold RepVs at *; exact h
  | x :: xs, v, b, h => by
    unfold RepVs at *
    unfold allBelow at b
    rw [Bool.and_eq_true] at b
    obtain ⟨w, ws, e, h1, h2⟩ := h
    exact ⟨w, ws, e, RepV.cut hn x w b.1 h1, RepVs.cut hn xs ws b.2 h2⟩
end
theorem Ext.cutS (s : Fx.St B m Rv S H) (e : Ext B m Rv S H m' Rv' S1 H') (hc : (S1.take S.length).all (cellBelow S.length) = true) : Ext B m Rv S H m' Rv' (S1.take S.length) H' := by
  have hl : (S1.take S.length).length = S.length := by rw [List.length_take]; have := e.len; omega
  refine ⟨by rw [hl]; exact Nat.le_refl _, e.same, fun n h1 h2 => absurd h1 (by rw [hl] at h2; omega), e.rsv, e.rsv', e.keep, e.stays, ⟨fun n xs en => ?_, fun i j hi hj => e.st.inj i j (by rw [hl] at hi; exact Nat.lt_of_lt_of_le hi e.len) (by rw [hl] at hj; exact Nat.lt_of_lt_of_le hj e.len), fun n hn => e.st.rsv n (by rw [hl] at hn; exact Nat.lt_of_lt_of_le hn e.len), e.st.soft, e.st.tabs⟩⟩
  have hm := List.mem_of_getElem? en
  have hb := List.all_eq_true.mp hc _ hm
  have hn := lt_of_get en
  rw [hl] at hn
  rw [List.getElem?_take_of_lt hn] at en
  obtain ⟨vs, h1, h2⟩ := e.st.cells n xs en
  rw [hl]
  exact ⟨vs, h1, RepVs.cut e.len xs vs hb h2⟩
theorem fin_ok {W : WXs} {v : PV} {Q : VK} {x : V} (s : Fx.St B m Rv S H) (h : Post B W m Rv S H (fin S.length v S1) fun v m' Rv' S' H' => ∀ x, RepV B m' Rv' S'.length H' v x → Q x H') (e : Ext B m Rv S H m' Rv' S1 H') (r : RepV B m' Rv' S1.length H' v x) : Q x H' := by
  unfold fin at h
  split at h
  · exact h m' Rv' H' e x r
  · split at h
    · rename_i hb
      rw [Bool.and_eq_true] at hb
      refine h m' Rv' H' (e.cutS s hb.2) x ?_
      have hl : (S1.take S.length).length = S.length := by rw [List.length_take]; have := e.len; omega
      rw [hl]
      exact RepV.cut e.len v x hb.1 r
    · exact h m' Rv' H' e x r
theorem rep_start {ps : List PV} {vs : List V} {slots : Nat} (r : RepVs B m Rv N H ps vs) : RepE B m Rv N H (ps.map some ++ List.replicate (slots - ps.length) none) (vs.map some ++ List.replicate (slots - vs.length) none) := by
  refine ⟨by simp [r.length], fun i x e => ?_⟩
  by_cases hi : i < ps.length
  · rw [List.getElem?_append_left (by simpa using hi), List.getElem?_map] at e
    cases ep : ps[i]? with
    | none => rw [ep] at e; cases e
    | some y =>
      rw [ep] at e
      cases e
      obtain ⟨v, h1, h2⟩ := r.get ep
      exact ⟨v, by rw [List.getElem?_append_left (by rw [List.length_map, ← r.length]; exact hi), List.getElem?_map, h1]; rfl, h2⟩
  · rw [List.getElem?_append_right (by simpa using hi)] at e
    rw [List.getElem?_replicate] at e
    split at e <;> cases e
theorem runDef_len {arity slots : Nat} {b : SF} : ∀ vs S, vs.length ≠ arity → runDef arity slots b vs S = .no := fun vs S h => by
  unfold runDef
  rw [if_neg (fun z => h (Nat.eq_of_beq_eq_true z))]
/-- the body of a def -/
theorem body_ok {arity : Nat} {b : SF} {D : Ends} {vs : List V} {Ns : List Str} {E : XK} {Q : VK} (h : spOf B (runDef arity Ns.length b) arity vs H Q E) (hn : ∀ σ' H', Q .non H' → D.nx σ' H') (hr : ∀ v H', Q v H' → D.rt v H') :
    tJS B (fun c d _ H' => E c d H') b D (L2.start Ns vs) H := by
  obtain ⟨hl, m, Rv, S, ps, hs, rp, hp⟩ := h
  have hl2 : ps.length = arity := by rw [rp.length]; exact hl
  refine ⟨ps.map some ++ List.replicate (Ns.length - ps.length) none, S, m, Rv, rep_start rp, hs, ?_⟩
  unfold runDef at hp
  rw [if_pos (by rw [hl2]; exact Nat.beq_refl _)] at hp
  generalize b (ps.map some ++ List.replicate (Ns.length - ps.length) none) S = r at hp
  cases r with
  | nx ρ S1 => exact fun m' Rv' H' σ' e _ => hn σ' H' (fin_ok hs hp e repV_non')
  | ret v S1 => exact fun m' Rv' H' x e rx => hr x H' (fin_ok hs hp e rx)
  | exc x ρ S1 => exact fun m' Rv' H' σ' c d e _ rx => hp m' Rv' H' c d e rx
  | no => exact hp
theorem def_ok {P : Program} {w : World} {K : PySem.W.Frag} {mg : Str → Option Value} {base : Heap} {k : Nat} {x qual : Str} {st : Stmt} {f : Addr} {fd : FuncData} {Ns ps : List Str} {b : SF} (Fu : L2.Fun K x qual st f fd) (S : FnScope Ns ps (defScope st))
    (hbody : ∀ (cdv : Value), fd.code = cdv → ∀ (A : Around) (outer : List PySem.Env) (s : Shared) (H : Hp) (E : XK) (W : WX), Room k (A.deeper (envOfC qual (defScope st) s.heap.objs.size f cdv)) →
      L2N.Takes (cxOf (L2N.CX P w) P w K mg base Ns qual (defScope st) f cdv A outer s H E) W → PassesOwn (model P w) (A.deeper (envOfC qual (defScope st) s.heap.objs.size f cdv)) (envOfC qual (defScope st) s.heap.objs.size f cdv) (cxOf (L2N.CX P w) P w K mg base Ns qual (defScope st) f cdv A outer s H E).xe →
      JSs B W (cxOf (L2N.CX P w) P w K mg base Ns qual (defScope st) f cdv A outer s H E) (defBody st) b) :
    FnOk P w K mg base (L2N.CX P w) (k + 1) f fd ps (spOf B (runDef ps.length Ns.length b) ps.length) := by
  obtain ⟨oc, od, kV, doc, pm, an, cdv, ct, osl, rfl, lk, hcd⟩ := Fu.ex
  refine fn_of lk hcd S (fun vs H Q E h => h.1) fun A outer s H vs Q E hr hsp => ?_
  have tk : L2N.Takes (cxOf (L2N.CX P w) P w K mg base Ns qual (defScope st) f cdv A outer s H E) fun cls d _ H => E cls d H := L2N.takes_of rfl rfl rfl rfl
  have po : PassesOwn (model P w) (A.deeper (envOfC qual (defScope st) s.heap.objs.size f cdv)) (envOfC qual (defScope st) s.heap.objs.size f cdv) (cxOf (L2N.CX P w) P w K mg base Ns qual (defScope st) f cdv A outer s H E).xe := PassesOwn.leaving
  exact ⟨_, (hbody cdv rfl A outer s H E _ hr tk po).pss, body_ok hsp (fun _ _ q => q) fun _ _ q => q⟩
end
end Fx

/-! Fx11b: comprehensions with two clauses. -/
namespace Fx
open PySem PySem.Spec PyProof.Rows L2
theorem R.bind_assoc {α β γ : Type} (r : R α) (f : α → Sto → R β) (g : β → Sto → R γ) : (r.bind f).bind g = r.bind fun a S => (f a S).bind g := by cases r <;> rfl
def comp2Turn (own1 : List Nat) (g : GF) (t : TF) (it1 : IF) (g1 : GF) (t1 : TF) (e : EF) (ρ : Env) (x : PV) (S : Sto) : R (List PV) :=
  (g x ρ S).bind fun ρ1 S1 => (t ρ1 S1).bind fun b S2 => if b then (it1 ρ1 S2).bind fun s1 S3 => compSrc (compTurn g1 t1 e (wipe ρ1 own1)) s1 S3 else .ok [] S2
def flatGo (f : PV → Sto → R (List PV)) : List PV → Sto → R (List PV)
  | [], S => .ok [] S
  | x :: xs, S => (f x S).bind fun ys S1 => (flatGo f xs S1).bind fun zs S2 => .ok (ys ++ zs) S2
def flatCell (f : PV → Sto → R (List PV)) (n : Sto → Option (List PV)) : Nat → Nat → Sto → R (List PV)
  | 0, _, _ => .no
  | k + 1, i, S => match genAt n S i with
    | some (some x) => (f x S).bind fun ys S1 => (flatCell f n k (i + 1) S1).bind fun zs S2 => .ok (ys ++ zs) S2
    | some none => .ok [] S
    | none => .no
def flatSrc (f : PV → Sto → R (List PV)) (s : Src) (S : Sto) : R (List PV) := match s with
  | .items xs => flatGo f xs S
  | .gen n => flatCell f n fuel 0 S
def cComp2 (own own1 : List Nat) (it : IF) (g : GF) (t : TF) (it1 : IF) (g1 : GF) (t1 : TF) (e : EF) : EF := fun ρ S => (it ρ S).bind fun s S1 =>
  (flatSrc (comp2Turn own1 g t it1 g1 t1 e (wipe ρ own)) s S1).noX.bind fun ys S2 => if lenOk ys.length then .ok (.lst ys) S2 else .no
def flatFrom (f : PV → Sto → R (List PV)) (s : Src) (i k : Nat) (S : Sto) : R (List PV) := match s with
  | .items xs => flatGo f (xs.drop i) S
  | .gen n => flatCell f n k i S
theorem flatFrom_step {f : PV → Sto → R (List PV)} {s : Src} {i k : Nat} {S : Sto} (h : Inx s i k) :
    (∃ x k', k = k' + 1 ∧ Inx s (i + 1) k' ∧ s.at S i = some (some x) ∧ flatFrom f s i k S = (f x S).bind fun ys S1 => (flatFrom f s (i + 1) k' S1).bind fun zs S2 => .ok (ys ++ zs) S2) ∨
    (s.at S i = some none ∧ s.fin i ∧ flatFrom f s i k S = .ok [] S) ∨ flatFrom f s i k S = .no := by
  cases s with
  | items xs =>
    have h' : i + k = xs.length := h
    by_cases hi : i < xs.length
    · obtain ⟨k', rfl⟩ : ∃ k', k = k' + 1 := ⟨k - 1, by omega⟩
      refine .inl ⟨xs[i], k', rfl, show i + 1 + k' = xs.length by omega, by simp [Src.at, hi], ?_⟩
      show flatGo f (xs.drop i) S = _
      rw [List.drop_eq_getElem_cons hi]
      rfl
    · refine .inr (.inl ⟨by simp [Src.at]; omega, show i = xs.length by omega, ?_⟩)
      show flatGo f (xs.drop i) S = _
      rw [List.drop_eq_nil_of_le (by omega)]
      rfl
  | gen n =>
    cases k with
    | zero => exact .inr (.inr rfl)
    | succ k =>
      cases e : genAt n S i with
      | none =>
        refine .inr (.inr ?_)
        show flatCell f n (k + 1) i S = _
        unfold flatCell
        rw [e]
      | some o =>
        cases o with
        | none =>
          refine .inr (.inl ⟨e, trivial, ?_⟩)
          show flatCell f n (k + 1) i S = _
          unfold flatCell
          rw [e]
        | some x =>
          refine .inl ⟨x, k, rfl, trivial, e, ?_⟩
          show flatCell f n (k + 1) i S = _
          rw [flatCell, e]
          rfl
section
variable {B : Bx} {W : WX} {X : Cx} {is is1 : List Nat} {pos : Pos}
theorem dst_of {m m5 : Mp} {Rv Rv5 : Rsv} {S S5 : Sto} {H H5 : Hp} {D : Addr} {acc : List V} (e5 : Ext B m Rv S H m5 Rv5 S5 H5) (hr : Rv D) (hm : ∀ n, n < S.length → m n ≠ D) (hd : H D = some (.lst acc)) : Rv5 D ∧ (∀ n, n < S5.length → m5 n ≠ D) ∧ H5 D = some (.lst acc) := by
  refine ⟨e5.rsv' D hr, fun n hn z => ?_, e5.keep D _ hd (fun _ z => nomatch z) hm⟩
  by_cases hn2 : n < S.length
  · exact hm n hn2 (by rw [← e5.same n hn2]; exact z)
  · have q := e5.new n (by omega) hn
    rw [z, hd] at q; exact q.lst
theorem LcT.len {m1 : Mp} {Rv1 : Rsv} {S1 : Sto} {H1 : Hp} {D : Addr} {Q : VK} {accP : List PV} {r : R (List PV)} (h : LcT B m1 Rv1 S1 H1 D Q accP r) : ∃ ys S', r = .ok ys S' ∧ (accP ++ ys).length ≤ 16777216 := by
  cases r with
  | ok ys S' => exact ⟨ys, S', rfl, h.1⟩
  | exc _ _ => exact (show False from h).elim
  | no => exact (show False from h).elim
/-- something more lies ahead of the rest -/
theorem LcT.shift {m1 : Mp} {Rv1 : Rsv} {S1 : Sto} {H1 : Hp} {D : Addr} {Q : VK} {accP : List PV} {y : PV} {r : R (List PV)} (h : LcT B m1 Rv1 S1 H1 D Q accP (r.bind fun ys S => .ok (y :: ys) S)) : LcT B m1 Rv1 S1 H1 D Q (accP ++ [y]) r := by
  cases r with
  | ok ys S' =>
    have h1 : (accP ++ (y :: ys)).length ≤ 16777216 := h.1
    refine ⟨by show (accP ++ [y] ++ ys).length ≤ 16777216; rw [List.append_assoc]; exact h1, fun m' Rv' H'' e' k1 k2 vs k3 k4 => ?_⟩
    rw [List.append_assoc] at k4
    exact h.2 m' Rv' H'' e' k1 k2 vs k3 k4
  | exc _ _ => exact (show False from h).elim
  | no => exact (show False from h).elim
theorem LcT.same {m1 : Mp} {Rv1 : Rsv} {S1 : Sto} {H1 : Hp} {D : Addr} {Q : VK} {accP : List PV} {r : R (List PV)} (h : LcT B m1 Rv1 S1 H1 D Q accP (r.bind fun ys S => .ok ys S)) : LcT B m1 Rv1 S1 H1 D Q accP r := by
  cases r with
  | ok ys S' => exact h
  | exc _ _ => exact h
  | no => exact h
/-- the inner loop -/
theorem lc_inner {own1 : List Nat} {G1 : GF} {t1 : TF} {e : EF} {D : Addr} {Q : VK} {m1 m2 : Mp} {Rv1 Rv2 : Rsv} {S1 S2 : Sto} {H1 H2 : Hp} {ρ2 : Env} {σ2 : L2.St} {acc : List V} {accP : List PV} {J1 : It} {s1 : Src} {cont : Sto → R (List PV)} {Nx : Hp → Prop}
    (his : ∀ i ∈ is1, i ∈ own1) (h0 : Free (H1 D)) (sb : Fx.St B m1 Rv1 S1 H1) (he : RepE B m2 Rv2 S2.length H2 ρ2 σ2) (e12 : Ext B m1 Rv1 S1 H1 m2 Rv2 S2 H2) (hr : Rv2 D) (hm : ∀ n, n < S2.length → m2 n ≠ D) (hd : H2 D = some (.lst acc)) (ra : RepVs B m2 Rv2 S2.length H2 accP acc)
    (hJ : Walks B J1 m2 Rv2 S2 H2 s1) (hth : LcT B m1 Rv1 S1 H1 D Q accP ((compSrc (compTurn G1 t1 e (Fx.wipe ρ2 own1)) s1 S2).bind fun ys S' => (cont S').bind fun zs S'' => .ok (ys ++ zs) S''))
    (hNx : ∀ m3 Rv3 S3 H3 acc accP, Ext B m1 Rv1 S1 H1 m3 Rv3 S3 H3 → ExtW B m2 Rv2 S2 H2 m3 Rv3 S3 H3 → Rv3 D → (∀ n, n < S3.length → m3 n ≠ D) → H3 D = some (.lst acc) → RepVs B m3 Rv3 S3.length H3 accP acc → LcT B m1 Rv1 S1 H1 D Q accP (cont S3) → Nx H3) :
    ∃ W1 : Nat → Nat → Hp → Prop, (∃ m, W1 0 m H2) ∧ ∀ j k H, W1 j k H → (J1.stop j H ∧ Nx H) ∨ (J1.go j H ∧ ∃ Nx1 : Hp → Prop, (∀ H', Nx1 H' → ∃ k', k' < k ∧ W1 (j + 1) k' H') ∧
      ∀ x H', J1.yld j H x H' → tJG B is1 G1 x (L2.wipe σ2 own1) H' fun σ3 H5 => L2.wipe σ3 own1 = L2.wipe σ2 own1 ∧ tJT B W0 t1 σ3 H5 fun b H6 => if b = true then tJ B W0 e σ3 H6 fun y H7 => ∃ acc, H7 D = some (.lst acc) ∧ acc.length < sizeLine ∧ Nx1 (upd H7 D (.lst (acc ++ [y]))) else Nx1 H6) := by
  generalize hf : compTurn G1 t1 e (Fx.wipe ρ2 own1) = f at hth
  have ec : ∀ S, compSrc f s1 S = compFrom f s1 0 s1.len S := fun S => by cases s1 <;> rfl
  rw [ec] at hth
  refine ⟨fun j μ H => ∃ k m3 Rv3 S3 acc accP, Inx s1 j k ∧ Ext B m1 Rv1 S1 H1 m3 Rv3 S3 H ∧ ExtW B m2 Rv2 S2 H2 m3 Rv3 S3 H ∧ Rv3 D ∧ (∀ n, n < S3.length → m3 n ≠ D) ∧ H D = some (.lst acc) ∧ RepVs B m3 Rv3 S3.length H accP acc ∧ μ = k ∧
    LcT B m1 Rv1 S1 H1 D Q accP ((compFrom f s1 j k S3).bind fun ys S' => (cont S').bind fun zs S'' => .ok (ys ++ zs) S''),
    ⟨s1.len, s1.len, m2, Rv2, S2, acc, accP, ?_, e12, (Ext.refl e12.st).w e12.st, hr, hm, hd, ra, rfl, hth⟩, ?_⟩
  · cases s1 with
    | items xs => exact Nat.zero_add _
    | gen n => trivial
  rintro j μ H3 ⟨k, m3, Rv3, S3, acc, accP, hin, e3, w3, hr3, hm3, hd3, ra3, rfl, hth3⟩
  rcases compFrom_step (f := f) (S := S3) hin with ⟨x, k', rfl, hin', hat, hrun⟩ | ⟨hat, hend, hrun⟩ | hrun
  · have w := hJ m3 Rv3 S3 H3 w3 j
    rw [hat] at w
    rw [hrun] at hth3
    refine .inr ⟨w.1, fun H' => ∃ μ' < k' + 1, ∃ k m3 Rv3 S3 acc accP, Inx s1 (j + 1) k ∧ Ext B m1 Rv1 S1 H1 m3 Rv3 S3 H' ∧ ExtW B m2 Rv2 S2 H2 m3 Rv3 S3 H' ∧ Rv3 D ∧ (∀ n, n < S3.length → m3 n ≠ D) ∧ H' D = some (.lst acc) ∧ RepVs B m3 Rv3 S3.length H' accP acc ∧ μ' = k ∧
      LcT B m1 Rv1 S1 H1 D Q accP ((compFrom f s1 (j + 1) k S3).bind fun ys S' => (cont S').bind fun zs S'' => .ok (ys ++ zs) S''),
      fun H' ⟨μ', h1, h2⟩ => ⟨μ', h1, h2⟩, fun v H' hy => ?_⟩
    obtain ⟨ey, rx⟩ := w.2 v H' hy
    have he3 : RepE B m3 Rv3 S3.length H' (Fx.wipe ρ2 own1) (L2.wipe σ2 own1) := ((he.stay (w3.stay e12.st)).stay (ey.stay e3.st)).wipe own1
    have hfx : f x S3 = (G1 x (Fx.wipe ρ2 own1) S3).bind fun ρ1 S1' => ((t1 ρ1 S1').bind fun b S2' => if b then (e ρ1 S2').bind fun y S3 => .ok (some y) S3 else .ok none S2') := by rw [← hf]; rfl
    rw [hfx] at hth3
    simp only [R.bind_assoc] at hth3
    refine ⟨_, S3, m3, Rv3, x, he3, ey.st, rx, Post.mono (Post.of0 (LcT.bind hth3)) fun ρ1 m4 Rv4 S4 H4 _ e4 t2 σ' he4 sb4 => ⟨(sb4.mono his).wipe, ?_⟩⟩
    refine ⟨ρ1, S4, m4, Rv4, he4, e4.st, Post.mono (Post.of0 (LcT.bind t2)) fun b m5 Rv5 S5 H5 _ e5 t3 => ?_⟩
    have e25 := e4.trans ey.st e5
    have e3y := e3.trans sb ey
    have w3y := w3.trans (ey.w e3.st)
    obtain ⟨_, _, hdy⟩ := dst_of ey hr3 hm3 hd3
    cases b with
    | false =>
      obtain ⟨r5, hm5, hd5⟩ := dst_of e25 hr3 hm3 hdy
      dsimp only
      rw [if_neg Bool.false_ne_true]
      refine ⟨k', Nat.lt_succ_self _, k', m5, Rv5, S5, acc, accP, hin', e3y.trans sb e25, w3y.trans (e25.w ey.st), r5, hm5, hd5, RepVs.stay (e25.stay ey.st) _ _ (RepVs.stay (ey.stay e3.st) _ _ ra3), rfl, ?_⟩
      exact t3
    | true =>
      dsimp only
      rw [if_pos rfl]
      have t3' : LcT B m1 Rv1 S1 H1 D Q accP ((e ρ1 S5).bind fun y S3' => (compFrom f s1 (j + 1) k' S3').bind fun ys S' => (cont S').bind fun zs S'' => .ok ((y :: ys) ++ zs) S'') := by
        simp only [if_pos, R.bind_assoc] at t3
        exact t3
      refine ⟨ρ1, S5, m5, Rv5, he4.stay (e5.stay e4.st), e5.st, Post.mono (Post.of0 (LcT.bind t3')) fun y m6 Rv6 S6 H6 _ e6 t4 yv ry => ?_⟩
      have e26 := e25.trans ey.st e6
      obtain ⟨r6, hm6, hd6⟩ := dst_of e26 hr3 hm3 hdy
      have e16 := e3y.trans sb e26
      obtain ⟨e17, sy⟩ := Ext.poke (ys := acc ++ [yv]) e16 r6 hm6 h0 hd6
      have ra6 := RepVs.stay (e26.stay ey.st) _ _ (RepVs.stay (ey.stay e3.st) _ _ ra3)
      have t5 : LcT B m1 Rv1 S1 H1 D Q (accP ++ [y]) ((compFrom f s1 (j + 1) k' S6).bind fun ys S' => (cont S').bind fun zs S'' => .ok (ys ++ zs) S'') := by
        refine LcT.shift ?_
        simp only [R.bind_assoc]
        exact t4
      obtain ⟨zs, S7, _, hl⟩ := t5.len
      have hlen : acc.length < sizeLine := by
        have q2 := ra3.length
        rw [List.length_append, List.length_append, List.length_singleton] at hl
        rw [sizeLine_eq]
        omega
      exact ⟨acc, hd6, hlen, k', Nat.lt_succ_self _, k', m6, Rv6, S6, acc ++ [yv], accP ++ [y], hin', e17, (w3y.trans (e26.w ey.st)).trans (ExtW.poke e26.st r6 hm6 hd6), r6, hm6, upd_same, RepVs.stay sy _ _ (ra6.append (.cons ry .nil)), rfl, t5⟩
  · have w := hJ m3 Rv3 S3 H3 w3 j
    rw [hat] at w
    rw [hrun] at hth3
    exact .inl ⟨w hend, hNx m3 Rv3 S3 H3 acc accP e3 w3 hr3 hm3 hd3 ra3 (LcT.same hth3)⟩
  · rw [hrun] at hth3
    exact (show False from hth3).elim
theorem lc2_imp {own own1 : List Nat} {it it1 : IF} {G G1 : GF} {t t1 : TF} {e : EF} {σ : L2.St} {H : Hp} {Q : VK} (his : ∀ i ∈ is, i ∈ own) (his1 : ∀ i ∈ is1, i ∈ own1)
    (h : tJF B W (cComp2 own own1 it G t it1 G1 t1 e) σ H Q) : tLc2 (tJI B W it) (tJG B is G) (tJT B W0 t) (tJI B W0 it1) (tJG B is1 G1) (tJT B W0 t1) (tJ B W0 e) own own1 σ H Q := by
  obtain ⟨ρ, S, m, Rv, he, hs, hp⟩ := h
  refine ⟨ρ, S, m, Rv, he, hs, (Post.bind hs hp).mono fun s m1 Rv1 S1 H1 _ e1 p J hJ => ?_⟩
  intro D nD
  have nD0 : Free (H D) := Classical.byContradiction fun z => e1.stays D z (.of nD)
  have he1 := he.stay (e1.stay hs)
  generalize hf : comp2Turn own1 G t it1 G1 t1 e (Fx.wipe ρ own) = f at p
  have thru : Thru B m1 Rv1 S1 H1 (flatFrom f s 0 s.len S1) (fun ys => ys.length ≤ 16777216) fun ys m' Rv' S' H' => Rv' D → (∀ n, n < S'.length → m' n ≠ D) → ∀ vs, H' D = some (.lst vs) → RepVs B m' Rv' S'.length H' ys vs → Q (.ref D) H' := by
    have ec : flatSrc f s S1 = flatFrom f s 0 s.len S1 := by
      cases s with
      | items xs => rfl
      | gen n => rfl
    rw [ec] at p
    cases er : flatFrom f s 0 s.len S1 with
    | exc x S2 => rw [er] at p; exact p
    | no => rw [er] at p; exact p
    | ok ys S2 =>
      rw [er] at p
      have p2 : Post B (fun c d H' => W c d σ H') m1 Rv1 S1 H1 (if lenOk ys.length then R.ok (PV.lst ys) S2 else R.no) (KF B Rv H Q) := p
      split at p2
      · rename_i hl
        exact ⟨Nat.le_of_ble_eq_true hl, fun m' Rv' H' e' hr hm vs hd rv => p2 m' Rv' H' e' D vs ys rfl hr hm nD0 hd rv⟩
      · exact p2.elim
  refine ⟨fun i μ H2 => ∃ k m2 Rv2 S2 acc accP, Inx s i k ∧ Ext B m1 Rv1 S1 H1 m2 Rv2 S2 H2 ∧ Rv2 D ∧ (∀ n, n < S2.length → m2 n ≠ D) ∧ H2 D = some (.lst acc) ∧ RepVs B m2 Rv2 S2.length H2 accP acc ∧ μ = k ∧
    LcT B m1 Rv1 S1 H1 D Q accP (flatFrom f s i k S2),
    ⟨s.len, s.len, m1, _, S1, [], [], ?_, Ext.laidR trivial e1.st nD, .inr rfl, fun n hn z => e1.st.there _ (e1.st.rsv n hn) (z ▸ nD), upd_same, RepVs.nil, rfl, thru⟩, ?_⟩
  · cases s with
    | items xs => exact Nat.zero_add _
    | gen n => trivial
  rintro i μ H2 ⟨k, m2, Rv2, S2, acc, accP, hin, e2, hr, hm, hd, ra, rfl, hth⟩
  rcases flatFrom_step (f := f) (S := S2) hin with ⟨x, k', rfl, hin', hat, hrun⟩ | ⟨hat, hend, hrun⟩ | hrun
  · have w := hJ m2 Rv2 S2 H2 (e2.w e1.st) i
    rw [hat] at w
    rw [hrun] at hth
    refine .inr ⟨w.1, fun H' => ∃ μ' < k' + 1, ∃ k m2 Rv2 S2 acc accP, Inx s (i + 1) k ∧ Ext B m1 Rv1 S1 H1 m2 Rv2 S2 H' ∧ Rv2 D ∧ (∀ n, n < S2.length → m2 n ≠ D) ∧ H' D = some (.lst acc) ∧ RepVs B m2 Rv2 S2.length H' accP acc ∧ μ' = k ∧
      LcT B m1 Rv1 S1 H1 D Q accP (flatFrom f s (i + 1) k S2),
      fun H' ⟨μ', h1, h2⟩ => ⟨μ', h1, h2⟩, fun v H' hy => ?_⟩
    obtain ⟨e3, rx⟩ := w.2 v H' hy
    have he3 : RepE B m2 Rv2 S2.length H' (Fx.wipe ρ own) (L2.wipe σ own) := ((he1.stay (e2.stay e1.st)).stay (e3.stay e2.st)).wipe own
    have hfx : f x S2 = (G x (Fx.wipe ρ own) S2).bind fun ρ1 S1' => ((t ρ1 S1').bind fun b S2' => if b then (it1 ρ1 S2').bind fun s1 S3 => compSrc (compTurn G1 t1 e (wipe ρ1 own1)) s1 S3 else .ok [] S2') := by rw [← hf]; rfl
    rw [hfx] at hth
    simp only [R.bind_assoc] at hth
    refine ⟨_, S2, m2, Rv2, x, he3, e3.st, rx, Post.mono (Post.of0 (LcT.bind hth)) fun ρ1 m4 Rv4 S4 H4 _ e4 t2 σ' he4 sb => ⟨(sb.mono his).wipe, ?_⟩⟩
    refine ⟨ρ1, S4, m4, Rv4, he4, e4.st, Post.mono (Post.of0 (LcT.bind t2)) fun b m5 Rv5 S5 H5 _ e5 t3 => ?_⟩
    have e25 := e4.trans e3.st e5
    have e23 := e2.trans e1.st e3
    obtain ⟨_, _, hd3⟩ := dst_of e3 hr hm hd
    cases b with
    | false =>
      obtain ⟨r5, hm5, hd5⟩ := dst_of e25 hr hm hd3
      dsimp only
      rw [if_neg Bool.false_ne_true]
      exact ⟨k', Nat.lt_succ_self _, k', m5, Rv5, S5, acc, accP, hin', e23.trans e1.st e25, r5, hm5, hd5, RepVs.stay (e25.stay e3.st) _ _ (RepVs.stay (e3.stay e2.st) _ _ ra), rfl, LcT.same t3⟩
    | true =>
      dsimp only
      rw [if_pos rfl]
      have t3' : LcT B m1 Rv1 S1 H1 D Q accP ((it1 ρ1 S5).bind fun s1 S3' => (compSrc (compTurn G1 t1 e (wipe ρ1 own1)) s1 S3').bind fun ys S' => (flatFrom f s (i + 1) k' S').bind fun zs S'' => .ok (ys ++ zs) S'') := by
        simp only [if_pos, R.bind_assoc] at t3
        exact t3
      refine ⟨ρ1, S5, m5, Rv5, he4.stay (e5.stay e4.st), e5.st, Post.mono (Post.of0 (LcT.bind t3')) fun s1 m6 Rv6 S6 H6 _ e6 t4 J1 hJ1 => ?_⟩
      have e26 := e25.trans e3.st e6
      obtain ⟨r6, hm6, hd6⟩ := dst_of e26 hr hm hd3
      refine lc_inner (cont := fun S' => flatFrom f s (i + 1) k' S') his1 (.of nD) e1.st ((he4.stay (e5.stay e4.st)).stay (e6.stay e5.st)) (e23.trans e1.st e26) r6 hm6 hd6 (RepVs.stay (e26.stay e3.st) _ _ (RepVs.stay (e3.stay e2.st) _ _ ra)) hJ1 t4 fun m7 Rv7 S7 H7 acc7 accP7 e7 w7 r7 hm7 hd7 ra7 th7 => ?_
      exact ⟨k', Nat.lt_succ_self _, k', m7, Rv7, S7, acc7, accP7, hin', e7, r7, hm7, hd7, ra7, rfl, th7⟩
  · have w := hJ m2 Rv2 S2 H2 (e2.w e1.st) i
    rw [hat] at w
    rw [hrun] at hth
    exact .inl ⟨w hend, hth.2 m2 Rv2 H2 e2 hr hm acc hd (by rw [List.append_nil]; exact ra)⟩
  · rw [hrun] at hth
    exact (show False from hth).elim
/-- [elt for tg in iter if .. for tg1 in iter1 if ..] -/
theorem jf_comp2 {elt tg iter tg1 iter1 : Expr} {ifs ifs1 : List Expr} {scope : Scope} {own : List (Str × Nat)} {own1 : List Nat} {it it1 : IF} {G G1 : GF} {t t1 : TF} {e : EF} (hc : X.calm = true) (hN : X.N.Nodup) (hi : JI B W X tg iter it) (ok : BlkOk X.N X.env.scope scope own) (his : ∀ i ∈ is, i ∈ own.map (·.2)) (his1 : ∀ i ∈ is1, i ∈ own1) (hv : ∀ i ∈ own1, i ∈ own.map (·.2))
    (hg : ∀ s H C cl fp, JG B (X.blk s H scope (compEnvC scope cl C X.env) fp) tg is G) (ht : ∀ s H C cl fp, PTs (X.blk s H scope (compEnvC scope cl C X.env) fp) ifs (tJT B W0 t))
    (hi1 : ∀ s H C cl fp, JI B W0 (X.blk s H scope (compEnvC scope cl C X.env) fp) tg1 iter1 it1)
    (hg1 : ∀ s H C cl fp, JG B (X.blk s H scope (compEnvC scope cl C X.env) fp) tg1 is1 G1) (ht1 : ∀ s H C cl fp, PTs (X.blk s H scope (compEnvC scope cl C X.env) fp) ifs1 (tJT B W0 t1))
    (he : ∀ s H C cl fp, JE B W0 (X.blk s H scope (compEnvC scope cl C X.env) fp) elt e) (hs : ∀ x, foldedSetIterable iter X.env x = pure x) (hs1 : ∀ env x, foldedSetIterable iter1 env x = pure x) :
    JF B W X (.ListComp elt [⟨tg, iter, ifs, 0⟩, ⟨tg1, iter1, ifs1, 0⟩] scope pos) (cComp2 (own.map (·.2)) own1 it G t it1 G1 t1 e) :=
  ⟨PE.imp' (pe_lc2 hc hN hi.pi ok hv (fun s H C cl fp => (hg s H C cl fp).pg) ht (fun s H C cl fp => (hi1 s H C cl fp).pi) (fun s H C cl fp => (hg1 s H C cl fp).pg) ht1 (fun s H C cl fp => (he s H C cl fp).pe) hs hs1) fun σ H Q h => lc2_imp his his1 h⟩
theorem js_setLc2 {i : Nat} {y : Str} {py : Pos} {elt tg iter tg1 iter1 : Expr} {ifs ifs1 : List Expr} {scope : Scope} {own : List (Str × Nat)} {own1 : List Nat} {spos : Pos} {it it1 : IF} {G G1 : GF} {t t1 : TF} {e : EF} (hc : X.calm = true) (hN : X.N.Nodup) (hy : X.N[i]? = some y) (hyl : X.env.scope.names.lookup y = some .local)
    (hsw : swapsWith (.ListComp elt [⟨tg, iter, ifs, 0⟩, ⟨tg1, iter1, ifs1, 0⟩] scope pos) (some (.Name y py)) spos.line X.env = pure true) (hi : JI B W X tg iter it) (ok : BlkOk X.N X.env.scope scope own) (his : ∀ i ∈ is, i ∈ own.map (·.2)) (his1 : ∀ i ∈ is1, i ∈ own1) (hv : ∀ i ∈ own1, i ∈ own.map (·.2))
    (hg : ∀ s H C cl fp, JG B (X.blk s H scope (compEnvC scope cl C X.env) fp) tg is G) (ht : ∀ s H C cl fp, PTs (X.blk s H scope (compEnvC scope cl C X.env) fp) ifs (tJT B W0 t))
    (hi1 : ∀ s H C cl fp, JI B W0 (X.blk s H scope (compEnvC scope cl C X.env) fp) tg1 iter1 it1)
    (hg1 : ∀ s H C cl fp, JG B (X.blk s H scope (compEnvC scope cl C X.env) fp) tg1 is1 G1) (ht1 : ∀ s H C cl fp, PTs (X.blk s H scope (compEnvC scope cl C X.env) fp) ifs1 (tJT B W0 t1))
    (he : ∀ s H C cl fp, JE B W0 (X.blk s H scope (compEnvC scope cl C X.env) fp) elt e) (hs : ∀ x, foldedSetIterable iter X.env x = pure x) (hs1 : ∀ env x, foldedSetIterable iter1 env x = pure x) (h : EF)
    (hh : ∀ te : TE, (∀ σ H Q, tJF B W (cComp2 (own.map (·.2)) own1 it G t it1 G1 t1 e) σ H Q → te σ H Q) → ∀ σ H Q, tJ B W h σ H Q → te σ H Q) :
    JS B W X (.Assign [.Name y py] (.ListComp elt [⟨tg, iter, ifs, 0⟩, ⟨tg1, iter1, ifs1, 0⟩] scope pos) spos) (sAsg (gVar i) h) :=
  ⟨PS.imp' (ps_setLc2 hc hN hy hyl hsw hi.pi ok hv (fun s H C cl fp => (hg s H C cl fp).pg) ht (fun s H C cl fp => (hi1 s H C cl fp).pi) (fun s H C cl fp => (hg1 s H C cl fp).pg) ht1 (fun s H C cl fp => (he s H C cl fp).pe) hs hs1) fun D σ H q => set_imp (hh _ fun σ H Q h => lc2_imp his his1 h) q⟩
end
end Fx

/-! Fxh0: ends of iterators while an exception is handled. -/
namespace Fxh
open PySem PySem.Spec PyProof.Rows L2 HotX
section
variable {prog : Program} {w : World} {A : Around} {E : Value → Shared → Prop} {s : Shared}
theorem pyNext_list_end_hot {it l x1 : Addr} {i : Nat} {items : Array Value} {Q : Option Value → Shared → Prop} (hot : HotAt A x1 s.heap) (hne : x1 ≠ it)
    (hit : s.heap.IsListIter it l i) (hl : s.heap.IsList l items) (hx : items[i]? = none)
    (hQ : ∀ h', Heap.ExtBut it s.heap h' → Q none { s with heap := h' }) : wpAny (model prog w) A (pyNext (.ref it)) Q E s := by
  obtain ⟨o, ho, hc, hd⟩ := id hit
  obtain ⟨ol, hol, _, nl, hdl⟩ := hl
  obtain ⟨hh, o1, vs1, h1, d1, c1⟩ := hot
  unfold pyNext
  refine wpAny_bind (wpAny_attempt (wpAny_callSpecial?_slot (name := Str.ofString "__next__") hit.typeIs slot_listiter_next
    (wpAny_call_entry slot_listiter_next hit.typeIs entry_listiter_next ?_ (args_listiter_next _))))
  show wpAny _ _ (field (.ref it) 0 >>= _) _ _ s
  refine wpAny_bind (wpAny_field ho hd (x := .ref l) rfl ?_)
  show wpAny _ _ (if (Value.ref l == Value.none) = true then _ else _) _ _ s
  rw [if_neg (show ¬ ((Value.ref l == Value.none) = true) from Bool.false_ne_true)]
  show wpAny _ _ (field (.ref it) 1 >>= _) _ _ s
  refine wpAny_bind (wpAny_field ho hd (x := .int i 0) rfl ?_)
  show wpAny _ _ (seqItems? (.ref l) >>= _) _ _ s
  refine wpAny_bind (wpAny_seqItems hol hdl ?_)
  simp only [Int.toNat_natCast, hx]
  refine wpAny_bind (wpAny_rule (wpAny_bind (wpAny_setField ho hd (by simp) ?_)))
  show wpAny _ _ (newExc (.type "StopIteration") [] >>= _) _ _ _
  refine wpAny_bind ?_
  simp only [newExc, newTuple]
  refine wpAny_bind (wpAny_newObj_type ?_ (by size_fits))
  refine wpAny_bind (m := firstArgMember _ _) (wpAny_of_eq (a := Value.none) (by first | rfl | (simp only [firstArgMember]; rfl)) ?_)
  refine wpAny_newObj_type ?_ (by size_fits)
  have h1' : (s.heap.update it (Obj.mapFields (·.setIfInBounds 0 .none))).get? x1 = some o1 := (Heap.get?_update_other _ _ (Ne.symm hne)).trans h1
  refine raiseNew_hot ⟨hh, o1, vs1, Heap.get?_push_of_some _ (Heap.get?_push_of_some _ h1'), d1, c1⟩ (Nat.ne_of_lt (Heap.lt_size (Heap.get?_push_of_some _ h1'))) (Heap.get?_push_size _ rfl) rfl (by first | (simp; done) | (simp; omega) | (simp only [Array.size_append]; simp; omega)) ?_
  refine wpAny_bind (wpAny_isInstance (T := "StopIteration") (b := true) ⟨_, Heap.get?_update_self _ (Heap.get?_push_size _ rfl) rfl, rfl⟩ isSubtype_stop ?_)
  refine wpAny_pure (hQ _ fun b o' hb e => ?_)
  have e' : (s.heap.update it (Obj.mapFields (·.setIfInBounds 0 .none))).get? b = some o' := (Heap.get?_update_other _ _ (Ne.symm hb)).trans e
  rw [Heap.get?_update_other _ _ (Nat.ne_of_gt (Heap.lt_size (Heap.get?_push_of_some _ e')))]
  exact Heap.get?_push_of_some _ (Heap.get?_push_of_some _ e')
theorem pyNext_tuple_end_hot {it t x1 : Addr} {i : Nat} {items : Array Value} {Q : Option Value → Shared → Prop} (hot : HotAt A x1 s.heap) (hne : x1 ≠ it)
    (hit : s.heap.IsTupleIter it t i) (ht : s.heap.IsTuple t items) (hx : items[i]? = none)
    (hQ : ∀ h', Heap.ExtBut it s.heap h' → Q none { s with heap := h' }) : wpAny (model prog w) A (pyNext (.ref it)) Q E s := by
  obtain ⟨o, ho, hc, hd⟩ := id hit
  obtain ⟨ol, hol, _, nl, hdl⟩ := ht
  obtain ⟨hh, o1, vs1, h1, d1, c1⟩ := hot
  unfold pyNext
  refine wpAny_bind (wpAny_attempt (wpAny_callSpecial?_slot (name := Str.ofString "__next__") hit.typeIs F.slot_tuple_iterator_next
    (wpAny_call_entry F.slot_tuple_iterator_next hit.typeIs F.entry_tuple_iterator_next ?_ (F.args_tuple_iterator_next_1 _))))
  show wpAny _ _ (field (.ref it) 0 >>= _) _ _ s
  refine wpAny_bind (wpAny_field ho hd (x := .ref t) rfl ?_)
  show wpAny _ _ (if (Value.ref t == Value.none) = true then _ else _) _ _ s
  rw [if_neg (show ¬ ((Value.ref t == Value.none) = true) from Bool.false_ne_true)]
  show wpAny _ _ (field (.ref it) 1 >>= _) _ _ s
  refine wpAny_bind (wpAny_field ho hd (x := .int i 0) rfl ?_)
  show wpAny _ _ (seqItems? (.ref t) >>= _) _ _ s
  refine wpAny_bind (wpAny_seqItems hol hdl ?_)
  simp only [Int.toNat_natCast, hx]
  refine wpAny_bind (wpAny_rule (wpAny_bind (wpAny_setField ho hd (by simp) ?_)))
  show wpAny _ _ (newExc (.type "StopIteration") [] >>= _) _ _ _
  refine wpAny_bind ?_
  simp only [newExc, newTuple]
  refine wpAny_bind (wpAny_newObj_type ?_ (by size_fits))
  refine wpAny_bind (m := firstArgMember _ _) (wpAny_of_eq (a := Value.none) (by first | rfl | (simp only [firstArgMember]; rfl)) ?_)
  refine wpAny_newObj_type ?_ (by size_fits)
  have h1' : (s.heap.update it (Obj.mapFields (·.setIfInBounds 0 .none))).get? x1 = some o1 := (Heap.get?_update_other _ _ (Ne.symm hne)).trans h1
  refine raiseNew_hot ⟨hh, o1, vs1, Heap.get?_push_of_some _ (Heap.get?_push_of_some _ h1'), d1, c1⟩ (Nat.ne_of_lt (Heap.lt_size (Heap.get?_push_of_some _ h1'))) (Heap.get?_push_size _ rfl) rfl (by first | (simp; done) | (simp; omega) | (simp only [Array.size_append]; simp; omega)) ?_
  refine wpAny_bind (wpAny_isInstance (T := "StopIteration") (b := true) ⟨_, Heap.get?_update_self _ (Heap.get?_push_size _ rfl) rfl, rfl⟩ isSubtype_stop ?_)
  refine wpAny_pure (hQ _ fun b o' hb e => ?_)
  have e' : (s.heap.update it (Obj.mapFields (·.setIfInBounds 0 .none))).get? b = some o' := (Heap.get?_update_other _ _ (Ne.symm hb)).trans e
  rw [Heap.get?_update_other _ _ (Nat.ne_of_gt (Heap.lt_size (Heap.get?_push_of_some _ e')))]
  exact Heap.get?_push_of_some _ (Heap.get?_push_of_some _ e')
theorem unpack_tuple_hot {t x1 : Addr} {items : Array Value} {targets : List (Bool × (Value → Sem Unit))} {Q : Unit → Shared → Prop} (hot : HotAt A x1 s.heap) (ht : IsTup s.heap t items)
    (hn : targets.length = items.size) (hstar : targets.findIdx? (·.1) = none)
    (h : ∀ h', Heap.ExtBut s.heap.objs.size s.heap h' → wpAny (model prog w) A (assignInOrder (targets.map (·.2)) items.toList) Q E { s with heap := h' }) :
    wpAny (model prog w) A (unpack (.ref t) targets) Q E s := by
  unfold unpack
  rw [hn, hstar]
  refine wpAny_bind (wpAny_holding ?_)
  have hlt : t ≠ s.heap.objs.size := by obtain ⟨o, ho, _⟩ := ht; exact Nat.ne_of_lt (Heap.lt_size ho)
  unfold unpackItems
  refine wpAny_bind ?_
  · unfold notIterableAtAll
    refine wpAny_bind (wpAny_specialOf ht.typeIs slot_tuple_iter.lookup ?_)
    refine wpAny_pure ?_
    simp only [Bool.false_eq_true, if_false]
    refine wpAny_bind (wpAny_holding (iter_tuple ht ?_))
    refine wpAny_bind (wpAny_holding (draw_tuple hlt items.size 0 _ _ ⟨_, Heap.get?_push_size _ rfl, rfl, rfl⟩ (ht.push _) (by omega) fun h₁ hit₁ hs₁ => ?_))
    have hall : List.take items.size (List.drop 0 items.toList) = items.toList := by
      rw [List.drop_zero]; exact List.take_of_length_le (by simp)
    rw [hall]
    rw [if_neg (by simp)]
    have ht₁ : IsTup h₁ t items := (ht.push _).extBut hs₁.extBut hlt
    obtain ⟨hh, o1, vs1, h1, d1, c1⟩ := hot
    have hx1 : x1 ≠ s.heap.objs.size := Nat.ne_of_lt (Heap.lt_size h1)
    refine wpAny_bind (wpAny_holding (pyNext_tuple_end_hot (x1 := x1) ⟨hh, o1, vs1, hs₁.extBut _ _ hx1 (Heap.get?_push_of_some _ h1), d1, c1⟩ hx1 hit₁ ht₁ (by simp) fun h₂ he₂ => ?_))
    simp only [Option.isSome_none, Bool.false_eq_true, if_false]
    exact wpAny_pure (h h₂ fun b o hb e => he₂ b o hb (hs₁.extBut b o hb (Heap.get?_push_of_some _ e)))
end
end Fxh

/-! Fxh1: a comprehension while an exception is handled (after HandS.Comp's lc_core, over TurnH). -/
namespace Fxh
open PySem PySem.Spec PyProof.Rows L2 HotX L2H
abbrev blkH (X : Cx) (s : Shared) (H : Hp) (scope : Scope) (cenv : Env) (fp : List Addr) : Cx := { X.blk s H scope cenv fp with pn := X.pn }
section
variable {X : Cx} {pins : List (Addr × Obj)} {σ : L2.St} {H : Hp} {s : Shared}
theorem ok_blkH {s : Shared} {H : Hp} {scope : Scope} {cenv : Env} {fp : List Addr} (o : (X.blk s H scope cenv fp).Ok) : (blkH X s H scope cenv fp).Ok :=
  ⟨o.mod, o.kind, o.glob, o.blt, o.above, o.inj, o.has, o.cab, o.hd, o.frames, o.stk, o.exf, o.bs, o.bsz, o.noex, o.exfs, o.funs, o.frf⟩
theorem stk_fs (I : Inv X pins σ H s) {a : Addr} (h1 : a ≠ X.env.locals) (h2 : a ∉ X.fs) : a ∉ frs X.stack := fun hm => by
  rcases I.ok.stk with e | ⟨e, ef⟩
  · rw [e] at hm; exact h2 hm
  · rw [e] at hm
    obtain ⟨y, hy, q⟩ := List.mem_filterMap.mp hm
    rcases List.mem_cons.mp hy with rfl | hy
    · rw [ef] at q; exact h1 (Option.some.inj q).symm
    · exact h2 (List.mem_filterMap.mpr ⟨y, hy, q⟩)
theorem block_startH {scope : Scope} {own : List (Str × Nat)} {fp : List Addr} (I : Inv X pins σ H s) (ok : BlkOk X.N X.env.scope scope own) (hN : X.N.Nodup) (hfp : ∀ b ∈ fp, FpOk X pins H b ∧ b < s.heap.objs.size) :
    Inv (blkH X s H scope (compEnvC scope (cellsFrom (s.heap.objs.size + 1) scope.names (cloFrom X.env.cells scope.names [])) s.heap.objs.size X.env) fp) [] (wipe σ (own.map (·.2))) H { s with heap := pushCells (s.heap.push { cls := .type "dict", data := .dict #[] }) scope.names } := by
  have I0 := block_start I ok hN hfp
  refine ⟨ok_blkH I0.ok, I0.os, I0.bare, I0.base, I0.loc, I0.cell, I0.free, I0.freeC, fun p hp => ?_, I0.hok, I0.len⟩
  have hp' : p ∈ X.pn := by
    have : p ∈ X.pn ++ [] := hp
    simpa using this
  obtain ⟨h1, h2, h3, h4, h5⟩ := I.pin p (List.mem_append_left _ hp')
  exact ⟨pushCells_keeps _ _ _ _ (Heap.get?_push_of_some _ h1), h2, Nat.ne_of_lt (Heap.lt_size h1), stk_fs I h3 h4, h5⟩
theorem hot_blk {s : Shared} {H : Hp} {scope : Scope} {cenv : Env} {fp : List Addr} (h : HotC X) : HotC (blkH X s H scope cenv fp) := h
theorem lc_coreH {elt tg iter : Expr} {ifs : List Expr} {scope : Scope} {own : List (Str × Nat)} {pos pos' : Pos} {Q : VK} {wi : TI} {g : TG} {tt : TT} {te : TE} {use : Option (Value → Sem Unit)} {Qf : Value → Shared → Prop}
    (hc : HotC X) (hN : X.N.Nodup) (I : Inv X pins σ H s) (hi : PIH X tg iter wi) (ok : BlkOk X.N X.env.scope scope own)
    (hg : ∀ (s : Shared) (H : Hp) (C : Addr) (cl : List (Str × Addr)) (fp : List Addr), PG (blkH X s H scope (compEnvC scope cl C X.env) fp) tg g) (ht : ∀ (s : Shared) (H : Hp) (C : Addr) (cl : List (Str × Addr)) (fp : List Addr), PTs (blkH X s H scope (compEnvC scope cl C X.env) fp) ifs tt)
    (he : ∀ (s : Shared) (H : Hp) (C : Addr) (cl : List (Str × Addr)) (fp : List Addr), PE (blkH X s H scope (compEnvC scope cl C X.env) fp) elt te) (hs : ∀ x, foldedSetIterable iter X.env x = pure x)
    (h : tLc wi g tt te (own.map (·.2)) σ H Q)
    (hRR : ∀ D C s' m H', Inv X pins σ H' s' → Q (.ref D) H' → s'.heap.Ns C m → FpOk X pins H' C → compPost (model X.prog X.w) X.A X.xe use Qf (.ref D) C (.ok .next) s') :
    wpAny (model X.prog X.w) X.A (comprehension (.ListComp elt [⟨tg, iter, ifs, 0⟩] scope pos) scope X.env pos' (newList []) false (eval iter X.env) use) Qf X.xe s := by
  have hfree : ∀ y ∈ scope.names, y.2 = .free → ∃ c, X.env.cells.lookup y.1 = some c := fun y hy e => by
    rcases ok.free y hy e with k | k
    · exact I.ok.has _ (.inl k)
    · exact I.ok.has _ (.inr k)
  refine wpAny_comprehension_free (use := use) rfl hs (closure_ok hfree) ok.kind (fun y hy e => by rw [ok.uniq y hy, e])
    (thn (hi.run pins s σ H _ I h) fun xv s1 hx => thn hx fun itv s2 h2 => ?_)
  obtain ⟨it, fp, tn, J, H2, e, I2, T, st2, f2, q⟩ := h2
  subst e
  refine wpAny_newObj_type (newEnv_comp ?_) (by show 0 ≤ sizeLine; decide)
  generalize hD : s2.heap.objs.size = D
  have hDn : H2 D = none := I2.hok.fresh (Nat.le_of_eq hD)
  obtain ⟨W, ⟨m0, w0⟩, turn⟩ := q D hDn
  generalize hs3 : ({ s2 with heap := s2.heap.push { cls := .type "list", data := .seq ([] : List Value).toArray } } : Shared) = s3
  have I3 : Inv X pins σ (upd H2 D (.lst [])) s3 := by
    rw [← hs3]
    refine I2.laid (t' := s2.toks) (fun b o e => Heap.get?_push_of_some _ e) (Nat.le_of_eq hD) ⟨Nat.zero_le _, [], 0, .nil, ?_⟩
    rw [← hD]
    exact Heap.get?_push_size _ rfl
  have h3 : s3.heap = s2.heap.push { cls := .type "list", data := .seq ([] : List Value).toArray } := by rw [← hs3]
  have sz : ∀ b ∈ fp, b < s2.heap.objs.size := fun b hb => by
    obtain ⟨o, e, _⟩ := T.obj _ _ st2 b hb
    exact Heap.lt_size e
  have f3 : ∀ b ∈ fp, FpOk X pins (upd H2 D (.lst [])) b ∧ b < s3.heap.objs.size := fun b hb => by
    have hlt := sz b hb
    refine ⟨⟨?_, (f2 b hb).2⟩, by rw [h3, Heap.size_push]; exact Nat.lt_succ_of_lt hlt⟩
    rw [upd_ne (by rw [← hD]; exact Nat.ne_of_lt hlt)]
    exact (f2 b hb).1
  have st3 : tn 0 s3.heap := T.keep _ _ _ st2 fun b _ o e => by rw [h3]; exact Heap.get?_push_of_some _ e
  have I4 := block_startH I3 ok hN f3
  have pg := hg s3 (upd H2 D (.lst [])) s3.heap.objs.size (cellsFrom (s3.heap.objs.size + 1) scope.names (cloFrom X.env.cells scope.names [])) fp
  have pt := ht s3 (upd H2 D (.lst [])) s3.heap.objs.size (cellsFrom (s3.heap.objs.size + 1) scope.names (cloFrom X.env.cells scope.names [])) fp
  have pe := he s3 (upd H2 D (.lst [])) s3.heap.objs.size (cellsFrom (s3.heap.objs.size + 1) scope.names (cloFrom X.env.cells scope.names [])) fp
  show codeAny _ _ (.compStart (.ListComp elt [⟨tg, iter, ifs, 0⟩] scope pos) 0 (.ref it) (.ref D) (compEnvC scope (cellsFrom (s3.heap.objs.size + 1) scope.names (cloFrom X.env.cells scope.names [])) s3.heap.objs.size X.env)) (compPost (model X.prog X.w) X.A X.xe use Qf (.ref D) s3.heap.objs.size) { s3 with heap := pushCells (s3.heap.push { cls := .type "dict", data := .dict #[] }) scope.names }
  have nfp : ∀ b ∈ fp, (upd H2 D (.lst [])) b = none := fun b hb => (f3 b hb).1.1
  have npn : ∀ b ∈ fp, ∀ p ∈ X.pn, p.1 ≠ b := fun b hb p hp => (f3 b hb).1.2.2.2.2.2 p (List.mem_append_left _ hp)
  generalize hce : compEnvC scope (cellsFrom (s3.heap.objs.size + 1) scope.names (cloFrom X.env.cells scope.names [])) s3.heap.objs.size X.env = ce at I4 pg pt pe ⊢
  have cL : ce.locals = s3.heap.objs.size := by subst hce; rfl
  generalize hH3 : upd H2 D (.lst []) = H3 at I3 I4 pg pt pe w0 nfp f3
  generalize hs4 : ({ s3 with heap := pushCells (s3.heap.push { cls := .type "dict", data := .dict #[] }) scope.names } : Shared) = s4 at I4 ⊢
  have st4 : tn 0 s4.heap := T.keep _ _ _ st3 fun b _ o e => by rw [← hs4]; exact pushCells_keeps _ _ _ _ (Heap.get?_push_of_some _ e)
  have stat : ∀ {σ' : L2.St} {H' : Hp} {s' : Shared}, Inv (blkH X s3 H3 scope ce fp) [] σ' H' s' → (∀ b ∈ fp, H' b = none) → ∀ b ∈ fp, FpOk (blkH X s3 H3 scope ce fp) [] H' b := fun {σ' H' s'} I' hn b hb =>
    ⟨hn b hb, (I'.ok.exf b hb).1, I'.ok.exfs b hb, .inl hb, fun x c e => (I'.ok.exf b hb).2 x c e, fun p hp => npn b hb p (by have : p ∈ X.pn ++ [] := hp; simpa using this)⟩
  have loop : codeAny (model X.prog X.w) X.A (.compLoop (.ListComp elt [⟨tg, iter, ifs, 0⟩] scope pos) 0 (.ref it) (.ref D) ce) (compPost (model X.prog X.w) X.A X.xe use Qf (.ref D) s3.heap.objs.size) s4 := by
    refine compLoop_any (fun n s' => ∃ i H', Inv (blkH X s3 H3 scope ce fp) [] (wipe σ (own.map (·.2))) H' s' ∧ tn i s'.heap ∧ (∀ b ∈ fp, H' b = none) ∧ W i n H') ?_ m0 ⟨0, H3, I4, st4, nfp, w0⟩
    rintro n s5 ⟨i, H5, I5, st5, n5, w5⟩
    rcases turn i n H5 w5 with ⟨stop, qq⟩ | ⟨go, Nx, hNx, step⟩
    · have td := T.done (blkH X s3 H3 scope ce fp) rfl rfl rfl (hot_blk hc) i [] s5 _ H5 (fun _ _ => False) I5 (stat I5 n5) st5 stop
      refine thnF td fun r s6 ⟨hr, I6⟩ => ?_
      subst hr
      have I7 : Inv X pins σ H5 s6 := I3.call' (ch := fp) I6.os I6.base I6.hok I6.bare fun b hb => ⟨(f3 b hb).1.2.2.2.1, (f3 b hb).1.2.1, (f3 b hb).1.2.2.2.2.1, (f3 b hb).1.2.2.2.2.2⟩
      have nC : H5 s3.heap.objs.size = none := by
        have z : H5 ce.locals = none := I6.free
        rw [cL] at z
        exact z
      obtain ⟨m, hn, _⟩ := I6.loc
      have hn : s6.heap.Ns ce.locals m := hn
      rw [cL] at hn
      exact hRR D s3.heap.objs.size s6 m H5 I7 qq hn (I3.fpOk (Nat.le_refl _) nC)
    · have ti := T.item (blkH X s3 H3 scope ce fp) rfl rfl rfl (hot_blk hc) i [] s5 _ H5 (fun _ _ => False) I5 (stat I5 n5) st5 go
      refine thnF ti fun r s6 ⟨u, hr, h6⟩ => ?_
      subst hr
      refine thnF h6 fun _ s7 ⟨x, H7, I7, r7, y7, st7, n7⟩ => ?_
      have I7' := I7.pinned (stat I7 n7) (T.obj _ _ st7)
      refine thnF (pg.run _ s7 _ H7 x u _ I7' r7 (step x H7 y7)) fun _ s8 ⟨σ8, H8, I8, hw8, q8⟩ => ?_
      refine thnF (pt.run _ s8 σ8 H8 _ I8 q8) fun b s9 ⟨H9, I9, q9⟩ => ?_
      have fin : ∀ {s' : Shared} {H' : Hp}, Inv (blkH X s3 H3 scope ce fp) ([] ++ pinsAt fp s7.heap) σ8 H' s' → Nx H' → ∃ m, m < n ∧ ∃ i H', Inv (blkH X s3 H3 scope ce fp) [] (wipe σ (own.map (·.2))) H' s' ∧ tn i s'.heap ∧ (∀ b ∈ fp, H' b = none) ∧ W i m H' := fun {s' H'} I' nx => by
        obtain ⟨m', hm, w'⟩ := hNx H' nx
        have pin' : ∀ b ∈ fp, ∀ o, s7.heap.get? b = some o → s'.heap.get? b = some o ∧ H' b = none := fun b hb o e =>
          let z := I'.pin (b, o) (List.mem_append_right _ (List.mem_append_right _ (mem_pinsAt hb e)))
          ⟨z.1, z.2.1⟩
        have hl : (wipe σ (own.map (·.2))).length = σ8.length := by rw [← hw8, wipe_length]
        refine ⟨m', hm, i + 1, H', (I'.unpinned (pins := [])).weak hl (fun j v e => ?_), T.keep _ _ _ st7 fun b hb o e => (pin' b hb o e).1, fun b hb => ?_, w'⟩
        · rw [← hw8] at e
          exact (wipe_some e).1
        · obtain ⟨o, e, _⟩ := T.obj _ _ st7 b hb
          exact (pin' b hb o e).2
      cases b with
      | false =>
        simp only [Bool.false_eq_true, if_false] at q9 ⊢
        exact fin I9 q9
      | true =>
        simp only [if_true] at q9 ⊢
        refine thnF (pe.run _ s9 σ8 H9 _ I9 q9) fun z s10 ⟨yv, H10, I10, r10, acc, hD10, hz10, nx⟩ => ?_
        exact app_ok (X := blkH X s3 H3 scope ce fp) I10 hD10 hz10 r10 fun s11 I11 => fin I11 nx
  exact codeAny_compStart_list loop (T.self X.A 0 _ _ _ st4 loop)
theorem ps_setLcH {i : Nat} {y : Str} {py : Pos} {elt tg iter : Expr} {ifs : List Expr} {scope : Scope} {own : List (Str × Nat)} {pos spos : Pos} {wi : TI} {g : TG} {tt : TT} {te : TE} (hc : HotC X) (hN : X.N.Nodup) (hy : X.N[i]? = some y) (hyl : X.env.scope.names.lookup y = some .local)
    (hsw : swapsWith (.ListComp elt [⟨tg, iter, ifs, 0⟩] scope pos) (some (.Name y py)) spos.line X.env = pure true) (hi : PIH X tg iter wi) (ok : BlkOk X.N X.env.scope scope own)
    (hg : ∀ (s : Shared) (H : Hp) (C : Addr) (cl : List (Str × Addr)) (fp : List Addr), PG (blkH X s H scope (compEnvC scope cl C X.env) fp) tg g) (ht : ∀ (s : Shared) (H : Hp) (C : Addr) (cl : List (Str × Addr)) (fp : List Addr), PTs (blkH X s H scope (compEnvC scope cl C X.env) fp) ifs tt)
    (he : ∀ (s : Shared) (H : Hp) (C : Addr) (cl : List (Str × Addr)) (fp : List Addr), PE (blkH X s H scope (compEnvC scope cl C X.env) fp) elt te) (hs : ∀ x, foldedSetIterable iter X.env x = pure x) :
    PS X (.Assign [.Name y py] (.ListComp elt [⟨tg, iter, ifs, 0⟩] scope pos) spos) (tAsg (tLc wi g tt te (own.map (·.2))) (gName i)) := by
  refine ⟨fun pins s σ H D I h => ?_⟩
  rw [exec_Assign_Name_used _ _ _ _ hsw]
  refine wpAny_bind (wpAny_standAt (wpAny_bind ?_))
  show wpAny _ X.A (do let _ ← comprehension (.ListComp elt [⟨tg, iter, ifs, 0⟩] scope pos) scope X.env (firstIterPos [⟨tg, iter, ifs, 0⟩] pos) (newList []) false (eval iter X.env) (some (assign (.Name y py) X.env))) _ _ s
  have h : tLc wi g tt te (own.map (·.2)) σ H (fun x H1 => gName i x σ H1 D.nx) := h
  refine wpAny_bind (thn (lc_coreH (Qf := fun _ s' => SP X pins D .next s') hc hN I hi ok hg ht he hs h fun L C s' m H' I' q hn f => ?_) fun _ s' hq => wpAny_pure (wpAny_pure hq))
  show wpAny _ _ (assign (.Name y py) X.env (.ref L)) _ _ _
  refine wpAny_assign_Name (store_ok2 (v := V.ref L) I' hN hy (.inl hyl) rfl (fun s2 I2 ⟨a, sb, ha⟩ => ?_) (.inr hyl))
  obtain ⟨f0, f1, f2, f3, f4, f5⟩ := f
  have haC : C ≠ a := by
    rcases ha with z | z
    · rw [z]; exact f1
    · exact fun e => f4 y a z e.symm
  refine ⟨m, hn.sameBut sb haC, fun h3 sb3 => ?_⟩
  exact ⟨_, H', I2.turned (t' := s2.toks) (fun b o hb e => (sb3.2 b hb).trans e) f0 f1 f3 f4 f5, q⟩
/-- a tuple of targets -/
theorem pg_tupH {es : List Expr} {k n : Nat} {t : TGs} {pos : Pos} (hc : HotC X) (h : PGs X es t) (hn : (assignEach es X.env).length = n) (hst : (assignEach es X.env).findIdx? (·.1) = none) : PG X (.Tuple es k pos) (gTup X.K n t) := by
  refine ⟨fun pins s σ H v u Q I r hw => ?_⟩
  obtain ⟨a, xs, e1, hq, hl, hw⟩ := hw
  subst e1
  cases r
  obtain ⟨its, rv, ht, hz⟩ := I.tuple hq
  obtain ⟨x1, hot⟩ := hc.at I
  rw [assign_Tuple]
  refine wpAny_bind (wpAny_standAt (unpack_tuple_hot hot ht (by simp [hn, ← hl, rv.length]) hst fun h' hx => ?_))
  have I1 : Inv X pins σ H { s with heap := h' } := I.kept (t' := s.toks) fun b o e => hx b o (Nat.ne_of_lt (Heap.lt_size e)) e
  exact h.run pins _ σ H xs _ Q I1 (by simpa using rv) hw
/-- a list that is walked -/
theorem turn_listH {P : Program} {w : World} {K : PySem.W.Frag} {tg : Expr} (a it : Addr) : TurnH P w K tg (Itl K a) [it] it (fun i h => h.IsListIter it a i) where
  mem := by simp
  obj := fun i h st b hb => by
    have e : b = it := by simpa using hb
    subst e
    obtain ⟨o, e, c, d⟩ := st
    exact ⟨o, e, fun v z => by rw [d] at z; cases z⟩
  keep := fun i h h' st k => st.at fun o e => k it (by simp) o e
  item := by
    intro X hP hw hK hc i pins s σ H E I hf st hg
    subst hP hw hK
    obtain ⟨xs, x, hq, hx⟩ := hg
    obtain ⟨its, rv, p, hz⟩ := I.list hq
    obtain ⟨u, hu, ru⟩ := rv.get hx
    obtain ⟨f0, f1, f2, f3, f4, f5⟩ := hf it (by simp)
    refine wpAny_pyNext_list_item st p.isList (x := u) (by simpa using hu) fun h' st' sb => ?_
    have I1 : Inv X pins σ H { s with heap := h' } := I.turned (t' := s.toks) (fun b o hb e => (sb.2 b hb).trans e) f0 f1 f3 f4 f5
    obtain ⟨o, e, c, d⟩ := id st'
    exact ⟨u, rfl, go_of (s := { s with heap := h' }) e c d (by decide) ⟨x, H, I1, ru, ⟨rfl, fun ys hy => by rw [I.list_inj hy hq]; exact hx⟩, st', fun b hb => (hf b hb).1⟩⟩
  done := by
    intro X hP hw hK hc i pins s σ H E I hf st hg
    subst hP hw hK
    obtain ⟨xs, hq, hx⟩ := hg
    obtain ⟨its, rv, p, hz⟩ := I.list hq
    obtain ⟨f0, f1, f2, f3, f4, f5⟩ := hf it (by simp)
    have hl := rv.length
    obtain ⟨p1, hot, hp1⟩ := hc
    have hpin := I.pin p1 (List.mem_append_left _ hp1)
    obtain ⟨hh, vs, hd, hv⟩ := hot
    exact pyNext_list_end_hot (x1 := p1.1) ⟨hh, p1.2, vs, hpin.1, hd, hv⟩ (f5 p1 (List.mem_append_left _ hp1)) st p.isList (by simp; omega) fun h' eb => ⟨rfl, I.turned (t' := s.toks) (fun b o hb e => eb b o hb e) f0 f1 f3 f4 f5⟩
  self := fun _ _ _ _ _ st h => wpAny_pyIter_listiter st h
theorem pi_listH {tg l : Expr} {tl : TE} (hl : PE X l tl) : PIH X tg l (iList X.K tl) := by
  refine ⟨fun pins s σ H R I h => ?_⟩
  refine thn (hl.run pins s σ H _ I h) fun v s1 ⟨x, H1, I1, r1, q1⟩ => ?_
  obtain ⟨a, e, ⟨xs, hq⟩, q⟩ := q1
  subst e
  cases r1
  obtain ⟨its, rv, p, hz⟩ := I1.list hq
  refine wpAny_pyIter_list p.isList ?_
  refine ⟨s1.heap.objs.size, [s1.heap.objs.size], _, _, H1, rfl, I1.kept (t' := s1.toks) fun b o e => Heap.get?_push_of_some _ e, turn_listH a _, ⟨_, Heap.get?_push_size _ rfl, rfl, rfl⟩, fun b hb => ?_, q⟩
  have e : b = s1.heap.objs.size := by simpa using hb
  subst e
  exact I1.fpOk (Nat.le_refl _) (I1.hok.fresh (Nat.le_refl _))
end
end Fxh

/-! Fxh2: try with several clauses `except C as n` (after L2N's ps_try_as and ps_try_many). -/
namespace Fxh
open PySem PySem.Spec PyProof.Rows L2
def wManyAs (K : PySem.W.Frag) (Wout : WX) (D : Ends) : List (Nat × Value × (Addr → Value → Option Addr → TS)) → WX
  | [] => Wout
  | (i, c, ts) :: r => fun cls d σ H => ∃ b, PySem.W.exmOne K cls c = some b ∧
    (b = true → ∀ a, H a = none → ts a cls d { nx := fun σ' H' => D.nx (σ'.set i none) H', rt := D.rt, bk := fun σ' H' => D.bk (σ'.set i none) H', ct := fun σ' H' => D.ct (σ'.set i none) H' } (σ.set i (some (.ref a))) H) ∧ (b = false → wManyAs K Wout D r cls d σ H)
inductive HdsAs (X : Cx) : List ExceptHandler → List (Nat × Value × (Addr → Value → Option Addr → TS)) → Prop
  | nil : HdsAs X [] []
  | cons {x n : Str} {i : Nat} {c : Value} {ts : Addr → Value → Option Addr → TS} {b₀ : Stmt} {suite : List Stmt} {np pos' : Pos} {hds : List ExceptHandler} {l : List (Nat × Value × (Addr → Value → Option Addr → TS))} (hc : Names X x c) (hi : X.N[i]? = some n) (hln : X.env.kindOf n = some .local)
      (hsu : ∀ (a : Addr) (oe : Obj) (cls : Value) (d : Option Addr) (pn : List (Addr × Obj)), L2N.Zn cls d oe → (∃ vs, oe.data = .fields vs) → PSs (X.suite a ((a, oe) :: pn)) (b₀ :: suite) (ts a cls d)) (r : HdsAs X hds l) :
      HdsAs X (.ExceptHandler (some (.Name x np)) (some n) (b₀ :: suite) pos' :: hds) ((i, c, ts) :: l)
section
variable {X : Cx} {body : List Stmt} {h₀ : ExceptHandler} {hds : List ExceptHandler} {l : List (Nat × Value × (Addr → Value → Option Addr → TS))} {pos : Pos} {tb : WX → TS} {Wout : WX}
open L2N in
theorem ps_try_manyAs (hs : X.stack = X.env :: X.outer) (hf : X.env.frame = some X.env.locals) (hN : X.N.Nodup) (tk : L2N.Takes X Wout)
    (hb : ∀ (W : WX) (pn : List (Addr × Obj)) (xe : Value → Shared → Prop), L2N.Takes (X.tr pn xe) W → PassesOwn (model X.prog X.w) X.A X.env xe → PSs (X.tr pn xe) body (tb W))
    (hh : HdsAs X (h₀ :: hds) l) : PS X (.Try body (h₀ :: hds) [] [] pos) (fun D σ H => tb (wManyAs X.K Wout D l) D σ H) := by
  refine ⟨fun pins s σ H D I h => ?_⟩
  have ok := I.ok
  have hfr : X.A.frames = some (X.env :: X.outer) := by rw [ok.frames, hs]
  refine wpAny_Try_except ?_
  refine wpAny_mono ((hb (wManyAs X.K Wout D l) (X.pn ++ pins) (fun e s₁ => wpAny (model X.prog X.w) X.A (noteFrame e X.env) (fun _ s₂ => wpAny (model X.prog X.w) X.A (setFlight e none) (fun _ s₃ =>
    wpAny (model X.prog X.w) X.A (handleBy e X.env (h₀ :: hds)) (SP X pins D) X.xe s₃) X.xe s₂) X.xe s₁) (fun u s' xx => ?_) PassesOwn.looking).run [] s σ H D (I.toTry _) h) (fun f s1 hsp => ?_) (fun e s1 he => he)
  · obtain ⟨a, B, sI, pins', σ', H', cls, d, rfl, J', nb, up, sky, na, os, ag, w⟩ := xx
    have J : Inv X pins σ' H' sI := J'.ofTry ok
    have sky' : Sky B (X.env :: X.outer) a (L2N.Zn cls d) X.env.locals s'.heap := by rw [← hs]; exact sky
    show wpAny (model X.prog X.w) X.A (noteFrame (.ref a) X.env) _ _ _
    refine L2N.Sky.land L2N.Zn.steady hfr hf sky' fun h3 fl3 up3 => ?_
    have J3 : Inv X pins σ' H' { s' with heap := h3 } := J.landed nb fl3.1 (up.trans up3) os ag
    obtain ⟨oe3, vs3, he3, hz3, hd3⟩ := fl3.there
    have notFr : ∀ {h : Heap} {o : Obj} {vs : Array Value}, h.FunFrames B (X.env :: X.outer) → h.get? a = some o → o.data = .fields vs → a ∉ frs (X.env :: X.outer) := fun {h o vs} ff e dd hm => by
      obtain ⟨_, o', e', hnf⟩ := ff.mem hm
      rw [e] at e'; cases e'
      exact hnf _ dd
    have nfr := notFr fl3.2.2.1 he3 hd3
    have nL : a ≠ X.env.locals := fun z => nfr (List.mem_filterMap.mpr ⟨X.env, List.mem_cons_self, by rw [hf, z]⟩)
    have nF : a ∉ X.fs := fun hm => by
      obtain ⟨e, he, q⟩ := List.mem_filterMap.mp hm
      exact nfr (List.mem_filterMap.mpr ⟨e, List.mem_cons_of_mem _ he, q⟩)
    have S3 := J3.suite he3 hd3 na nL nF
    have go : ∀ {hds' : List ExceptHandler} {l' : List (Nat × Value × (Addr → Value → Option Addr → TS))}, HdsAs X hds' l' → wManyAs X.K Wout D l' cls d σ' H' →
        wpAny (model X.prog X.w) X.A (handleBy (.ref a) X.env hds') (SP X pins D) X.xe { s' with heap := h3 } := by
      intro hds' l' hk
      induction hk with
      | nil =>
        intro w
        refine wpAny_handleBy_nil ?_
        obtain ⟨k1, k2, k3, oe, vs, T, oT, ts', he, hz, hd, h1, hr⟩ := id fl3
        unfold PySem.passOn
        refine wpAny_bind (wpAny_field he hd h1 ?_)
        rw [if_neg (show ¬ ((Value.ref T == Value.none) = true) from by simp)]
        have fin : wpAny (model X.prog X.w) X.A (setFlight (.ref a) X.env.frame) (fun _ s4 => wpAny (model X.prog X.w) X.A (throw (.ref a) : Sem Flow) (SP X pins D) X.xe s4) X.xe { s' with heap := h3 } := by
          rw [hf]
          refine HandSPX.setFlight_upZ fl3 fun h4 hh4 up4 => wpAny_throw (tk _ _ ?_)
          exact ⟨a, B, sI, pins, σ', H', cls, d, rfl, J, nb, (up.trans up3).trans up4, .inr (.inr (by rw [hs]; exact hh4)), na, os, ag, w⟩
        first
          | exact wpAny_bind (wpAny_pure (wpAny_bind fin))
          | exact wpAny_bind fin
      | @cons x n i c ts b₀ suite np pos' hds2 l2 hc hi hln hsu r ih =>
        intro w
        obtain ⟨b, hb1, hyes, hno⟩ := w
        refine wpAny_handleBy_cons (codeAny_handlers_test ?_) (by intro q; cases q)
        have LT : PySem.W.Looks (model X.prog X.w) h3 (typeOf (.ref a)) cls := fun A Q E s k q => wpAny_typeOf_ref (k _ _ he3) (by rw [hz3.1]; exact q)
        have LM := PySem.W.exm_one (M := model X.prog X.w) (J3.kIn) LT hb1
        have test : ∀ {Q : Value → Shared → Prop} {E : Value → Shared → Prop}, Q c { s' with heap := h3 } → wpAny (model X.prog X.w) (X.A.mark (some (.ref a))) (eval (.Name x np) X.env) Q E { s' with heap := h3 } := fun {Q E} q => by
          obtain ⟨hg, hdbg, hm | ⟨hm, hv, hnn⟩⟩ := hc
          · exact ld_glob (X := X.suite a ((a, oe3) :: (X.pn ++ pins))) S3 hg hm q hdbg
          · exact ld_blt (X := X.suite a ((a, oe3) :: (X.pn ++ pins))) S3 hg hm hv q hnn hdbg
        refine test (LM.here ?_)
        cases b with
        | true =>
          have hloc : L2.Loc X.env.scope n := .inl hln
          refine codeAny_handlers_suite_as ?_
          refine HandSPX.lands_againZ fl3 fun h4 fl4 up4 => ?_
          have J4 : Inv X pins σ' H' { s' with heap := h4 } := J.landed nb fl4.1 ((up.trans up3).trans up4) os ag
          obtain ⟨oe4, vs4, he4, hz4, hd4⟩ := fl4.there
          have S4 := J4.suite he4 hd4 na nL nF
          refine store_ok (X := X.suite a ((a, oe4) :: (X.pn ++ pins))) (v := .ref a) S4 hN hi hloc rfl (fun s5 S5 => ?_) (.inr hln)
          refine wpAny_mono ((hsu a oe4 cls d (X.pn ++ pins) hz4 ⟨_, hd4⟩).run [] s5 _ H' _ S5 (hyes rfl a na)) (fun f s6 hsp => ?_) (fun _ _ z => False.elim z)
          have end_ : ∀ {σ6 : L2.St} {H6 : Hp} {Q : Shared → Prop}, Inv (X.suite a ((a, oe4) :: (X.pn ++ pins))) [] σ6 H6 s6 → (∀ s7, Inv X pins (σ6.set i none) H6 s7 → Q s7) →
              wpAny (model X.prog X.w) X.A (do bindName X.env n .none; unbindBehindTheSuite X.env n pos') (fun _ s7 => Q s7) X.xe s6 := fun {σ6 H6 Q} S6 hq => gone_ok (S6.unsuite ok) hN hi hln hq
          cases f with
          | next =>
            obtain ⟨σ6, H6, S6, q6⟩ := hsp
            exact end_ S6 fun s7 J7 => ⟨_, _, J7, q6⟩
          | brk =>
            obtain ⟨σ6, H6, S6, q6⟩ := hsp
            exact end_ S6 fun s7 J7 => ⟨_, _, J7, q6⟩
          | cont =>
            obtain ⟨σ6, H6, S6, q6⟩ := hsp
            exact end_ S6 fun s7 J7 => ⟨_, _, J7, q6⟩
          | ret u =>
            obtain ⟨v6, σ6, H6, S6, r6, q6⟩ := hsp
            exact end_ S6 fun s7 J7 => ⟨_, _, _, J7, r6, q6⟩
        | false =>
          show wpAny _ X.A (handleBy (.ref a) X.env hds2) _ _ _
          exact ih (hno rfl)
    exact go hh w
  · cases f with
    | next =>
      obtain ⟨σ', H', J', q⟩ := hsp
      exact wpAny_execs_nil ⟨σ', H', J'.ofTry ok, q⟩
    | brk =>
      obtain ⟨σ', H', J', q⟩ := hsp
      exact ⟨σ', H', J'.ofTry ok, q⟩
    | cont =>
      obtain ⟨σ', H', J', q⟩ := hsp
      exact ⟨σ', H', J'.ofTry ok, q⟩
    | ret u =>
      obtain ⟨v, σ', H', J', r, q⟩ := hsp
      exact ⟨v, σ', H', J'.ofTry ok, r, q⟩
end
end Fxh

/-! Fxh3: a lambda handed to a def (after HandS.Lambda, with L2N's exceptions). -/
namespace Fxh
open PySem PySem.Spec PyProof.Rows L2 LamX
def lamCxN (X : Cx) (A : Around) (outer : List Env) (s : Shared) (H : Hp) (E : XK) (scope : Scope) (f c' : Addr) : Cx :=
  { lamCx X A outer s H E scope f c' with
    xe := fun e s' => wpAny (model X.prog X.w) (A.deeper (lamEnv X scope s.heap.objs.size f c')) (leaving (lamEnv X scope s.heap.objs.size f c') e) (fun _ s'' => L2N.CX X.prog X.w outer H s E e s'') (fun e' s'' => L2N.CX X.prog X.w outer H s E e' s'') s' }
section
variable {X : Cx} {pins : List (Addr × Obj)} {σ : L2.St} {H HZ : Hp} {s s1 : Shared}
theorem okN {A : Around} {outer : List Env} {E : XK} {scope : Scope} {f c' : Addr} {s : Shared} {H : Hp} (o : (lamCx X A outer s H E scope f c').Ok) : (lamCxN X A outer s H E scope f c').Ok :=
  ⟨o.mod, o.kind, o.glob, o.blt, o.above, o.inj, o.has, o.cab, o.hd, o.frames, o.stk, o.exf, o.bs, o.bsz, o.noex, o.exfs, o.funs, o.frf⟩
theorem invN {A : Around} {outer : List Env} {E : XK} {scope : Scope} {f c' : Addr} {s0 : Shared} {H0 H : Hp} (I : Inv (lamCx X A outer s0 H0 E scope f c') [] σ H s) : Inv (lamCxN X A outer s0 H0 E scope f c') [] σ H s :=
  ⟨okN I.ok, I.os, I.bare, I.base, I.loc, I.cell, I.free, I.freeC, I.pin, I.hok, I.len⟩
theorem pe_actN {CXg : CXT} {Eg : XK} {Ng : List Str} {qg : Str} {sg : Scope} {g f c' : Addr} {cdg pm ctv : Value} {params : Arguments} {body : Expr} {scope : Scope} {k i : Nat} {a : Str} {pn : List (Addr × Obj)} {xe : Value → Shared → Prop} {W : WX} {E : XK} {tb : TE} {p1 p2 : Pos}
    (I : Inv X pins σ H s) (L : LamS X.env.scope scope) (hf : s.heap.get? f = some (PySem.W.kla_obj "<lambda>" (X.env.qual ++ "<lambda>") params body scope (cloFrom X.env.cells scope.names []) pm c' ctv)) (hfn : H f = none) (hfr : f ∉ frs X.stack)
    (hbind : bindArgs (PySem.W.kla_fn "<lambda>" (X.env.qual ++ "<lambda>") params body scope (cloFrom X.env.cells scope.names []) pm (.ref c') ctv) ⟨[], []⟩ = pure [])
    (tk : L2N.Takes ((cxOf CXg X.prog X.w X.K X.mg X.base Ng qg sg g cdg X.A X.stack s H Eg).tr pn xe) W) (hr : Room (k + 1) (X.A.deeper (envOfC qg sg s.heap.objs.size g cdg)))
    (hbody : ∀ (A : Around) (outer : List Env) (s : Shared) (H : Hp), Room k (A.deeper (lamEnv X scope s.heap.objs.size f c')) → PE (lamCxN X A outer s H E scope f c') body tb)
    (hN : Ng[i]? = some a) (hv : Vis sg a) (hd : (a == ("__debug__" : Str)) = false) (hcd : (a == ("__classdict__" : Str)) = false) :
    PE ((cxOf CXg X.prog X.w X.K X.mg X.base Ng qg sg g cdg X.A X.stack s H Eg).tr pn xe) (.Call (.Name a p1) [] [] p2)
      (fun σZ HZ Q => σZ[i]? = some (some (.ref f)) ∧ HZ c' = some (CodeO c' (X.env.qual ++ "<lambda>")) ∧ (∀ cls d H', E cls d H' → W cls d σZ H') ∧ tb σ HZ Q) := by
  refine ⟨fun pinsZ sZ σZ HZ Q IZ h => ?_⟩
  obtain ⟨hs, hc, hW, ht⟩ := h
  refine wpAny_Call_Name_kw (thn ((pe_var (pos := p1) (i := i) hN hv hd hcd).run pinsZ sZ σZ HZ (fun v H1 => v = .ref f ∧ H1 = HZ) IZ ⟨.ref f, hs, rfl, rfl⟩) fun u s1 ⟨v, H1, I1, r1, q1⟩ => ?_)
  obtain ⟨ev, eH⟩ := q1
  subst ev
  rw [eH] at I1
  obtain rfl : u = Value.ref f := r1
  have of1 : s1.heap.get? f = some (PySem.W.kla_obj "<lambda>" (X.env.qual ++ "<lambda>") params body scope (cloFrom X.env.cells scope.names []) pm c' ctv) := I1.base.keep f _ hf hfn hfr (fun z => nomatch (show f ∈ ([] : List Addr) from z))
  refine PySem.W.callWith_F0 ⟨_, _, _, _, of1⟩ ?_
  have un : Un (frs X.stack) [] H HZ s.heap s1.heap := I1.base
  obtain ⟨⟨oc, vs, t, hoc, hdc, hvc⟩, _, _⟩ := I1.hok c' _ hc
  have rc : codeAny (model X.prog X.w) (X.A.deeper (envOfC qg sg s.heap.objs.size g cdg)) (.call (.ref f) ⟨[], []⟩) (CR (L2N.CX X.prog X.w) (envOfC qg sg s.heap.objs.size g cdg :: X.stack) X.prog X.w HZ s1 Q E) s1 := by
    refine PySem.W.kla_callFunE hr.depth of1 rfl L.co L.gen rfl ⟨c', oc, vs, t, rfl, hoc, hdc, hvc⟩ ?_
    rw [hbind]
    refine wpAny_pure (wpAny_newFunctionEnv (fun y hy => (L.own y hy).2) (fun y hy => absurd hy (by simp)) (fun h₁ hns hsb => ⟨I1.nolimit.fresh _ hsb, ?_⟩) L.kind)
    show codeAny _ _ (.expr body (lamEnv X scope s1.heap.objs.size f c')) _ _
    have kp : ∀ b o, s1.heap.get? b = some o → h₁.get? b = some o := fun b o e => hsb.extBut b o (Nat.ne_of_lt (Heap.lt_size e)) (Heap.get?_push_of_some _ e)
    have J : Inv (lamCxN X (X.A.deeper (envOfC qg sg s.heap.objs.size g cdg)) (envOfC qg sg s.heap.objs.size g cdg :: X.stack) s1 HZ E scope f c') [] σ HZ { s1 with heap := h₁, toks := s1.toks + ([] : List (Str × Value)).length } :=
      invN (lam_start2 I L I1.env0 hr.hd un hns kp)
    refine PySem.W.kla_codeExpr (wpAny_mono ((hbody _ _ s1 HZ (hr.deeper _)).run [] _ _ HZ Q J ht) (fun v s' hq => ?_) fun e s' hq => hq)
    obtain ⟨w', H', J', rv, q⟩ := hq
    exact ⟨w', H', J'.os, J'.bare, J'.base, J'.hok, rv, q⟩
  refine wpAny_call (codeAny_mono rc fun r s' hq => ?_)
  cases r with
  | error e => exact tk e s' (L2N.XE.of_call I1 (fun cls d H' z => hW cls d H' z) hq)
  | ok fl =>
    cases fl with
    | ret u => exact I1.after hq
    | next => exact False.elim hq
    | brk => exact False.elim hq
    | cont => exact False.elim hq
end
def GivesToN (X : Cx) (Ng : List Str) (x : Str) (sg : Scope) (g : Addr) (cdg : Value) (bg : List Stmt) (a : Str) (q : Str) (TT : (XK → Hp → VK → Prop) → Hp → VK → Prop) : Prop :=
  ∀ (f c' : Addr) (s : Shared) (H : Hp) (Q : VK) (tl : XK → Hp → VK → Prop),
    (∀ (W : WX) (pn : List (Addr × Obj)) (xe : Value → Shared → Prop) (E : XK) (p1 p2 : Pos), L2N.Takes ((cxOf C8.CX0 X.prog X.w X.K X.mg X.base Ng x sg g cdg X.A X.stack s H C8.E0).tr pn xe) W →
      PE ((cxOf C8.CX0 X.prog X.w X.K X.mg X.base Ng x sg g cdg X.A X.stack s H C8.E0).tr pn xe) (.Call (.Name a p1) [] [] p2) (fun σZ HZ Q => σZ[0]? = some (some (.ref f)) ∧ HZ c' = some (CodeO c' q) ∧ (∀ cls d H', E cls d H' → W cls d σZ H') ∧ tl E HZ Q)) →
    H c' = some (CodeO c' q) → TT tl H Q →
    ∃ t, PSs (cxOf C8.CX0 X.prog X.w X.K X.mg X.base Ng x sg g cdg X.A X.stack s H C8.E0).nox bg t ∧ t { nx := fun _ H' => Q .non H', rt := Q } (L2.start Ng [.ref f]) H
section
variable {X : Cx}
/-- x(lambda: body) -/
theorem pe_lamcallN {T : List (Addr × Str)} {TT : (XK → Hp → VK → Prop) → Hp → VK → Prop} {x a : Str} {g c P : Addr} {k : Nat} {pg : Arguments} {bg : List Stmt} {sg : Scope} {dV kV doc pm cdv ct oc : Value} {an od : Option Addr} {osl : Array (Option Value)} {Ng : List Str}
    {params : Arguments} {body : Expr} {scope : Scope} {t : XK → TE} {p lpos pos : Pos} (hg : Gl X x) (hm : X.mg x = some (.ref g)) (hk : PySem.W.keepIn X.K (.ref g) = true)
    (lk : X.K.lookup g = some ⟨oc, od, .func (PySem.W.fnOf x x pg bg sg dV kV doc pm an cdv ct), osl⟩) (hcg : PySem.W.codeIn X.K cdv x = true) (hb : L2.Binds X.K (PySem.W.fnOf x x pg bg sg dV kV doc pm an cdv ct) [a] []) (Sg : FnScope Ng [a] sg) (hNg : Ng[0]? = some a) (hva : Vis sg a)
    (hG : GivesToN X Ng x sg g cdv bg a (X.env.qual ++ "<lambda>") TT)
    (TB : TabB X.base X.mg c P) (hcode : X.env.code = .ref c) (hmT : (P, X.env.qual ++ "<lambda>") ∈ T) (hu : ∀ p ∈ T, p.1 = P → p.2 = X.env.qual ++ "<lambda>") (hr : Room (k + 2) X.A) (L : LamS X.env.scope scope) (hdef : defaultsOf params X.env = ([], []))
    (hbind : ∀ (q : Str) (cl : List (Str × Addr)) (pm cv ctv : Value), bindArgs (PySem.W.kla_fn "<lambda>" q params body scope cl pm cv ctv) ⟨[], []⟩ = pure [])
    (hbody : ∀ (A : Around) (outer : List Env) (s : Shared) (H : Hp) (E : XK) (f c' : Addr), Room k (A.deeper (lamEnv X scope s.heap.objs.size f c')) → PE (lamCxN X A outer s H E scope f c') body (t E))
    (hdb : (x == ("__debug__" : Str)) = false) (hd : (a == ("__debug__" : Str)) = false) (hcd : (a == ("__classdict__" : Str)) = false) :
    PE X (.Call (.Name x p) [.Lambda params body scope lpos] [] pos) (tLam T TT t) := by
  refine ⟨fun pins s σ H Q I h => ?_⟩
  obtain ⟨hT, h⟩ := h
  refine wpAny_Call_Name_kw (ld_glob I hg hm ?_ hdb)
  refine PySem.W.callWith_K (h₀ := X.base) I.ok.mod.kin hk ?_ (by rfl) (by rfl)
  show wpAny _ _ (spliced ((false, eval (.Lambda params body scope lpos) X.env) :: backTo pos (starEach [] X.env))) _ _ s
  refine Calls.spliced_cons (lam_make2 I TB hcode hmT hu hT hdef (L.has I.ok) fun f c' pm' ctv H1 s' I1 eN T1 hf hfn hfr hco => ?_)
  refine Calls.spliced_nil ⟨I1.kIn, ?_⟩
  have rc : codeAny (model X.prog X.w) X.A (.call (.ref g) ⟨[.ref f], []⟩) (CR C8.CX0 X.stack X.prog X.w H1 s' Q C8.E0) s' := by
    refine run_ofS (N := Ng) (ps := [a]) (us := [.ref f]) (vs := [.ref f]) lk hcg Sg hr I1.env0 (hb s' [.ref f] I1.kIn rfl) (.cons rfl .nil) rfl fun hr' => ?_
    obtain ⟨t', ht', hq'⟩ := hG f c' s' H1 Q (fun E H' Q' => t E σ H' Q') (fun W pn xe E p1 p2 tk => pe_actN (i := 0) I1 L hf hfn hfr (hbind _ _ _ _ _) tk hr' (fun A outer s H hr2 => hbody A outer s H E f c' hr2) hNg hva hd hcd) hco (h H1 eN T1)
    exact ⟨t', ht'.nox, hq'⟩
  refine wpAny_call (codeAny_mono rc fun r s2 hq => ?_)
  cases r with
  | error e => exact (show False from hq).elim
  | ok fl =>
    cases fl with
    | ret u => exact I1.after hq
    | next => exact False.elim hq
    | brk => exact False.elim hq
    | cont => exact False.elim hq
end
end Fxh

/-! Fx12: a small language of texts, its meaning, and the look at a text. -/
namespace Fx
open PySem PySem.Spec PyProof.Rows L2

inductive Bi where
  | len | sum | all | any | max | min | abs | int | tuple | list | sorted | str
inductive Mt where
  | append | popAt | index | count
inductive Ex where
  | int (i : Int) | bl (b : Bool) | non | str (x : Str)
  | var (i : Nat) | gint (g : Nat) (i : Int) | gfn (g : Nat)
  | bin (op : Operator) (a b : Ex) | addL (a b : Ex) | mulL (a b : Ex)
  | neg (a : Ex) | cmp (op : CmpOp) (a b : Ex) | chain (op op' : CmpOp) (a b c : Ex)
  | bool (op : BoolOp) (es : List Ex) | not (a : Ex) | ite (t a b : Ex)
  | tup (es : List Ex) | lst (es : List Ex) | mu (a : Ex)
  | idx (a b : Ex) | slc (a lo hi : Ex) | nix | rev (a : Ex)
  | call (g : Nat) (es : List Ex) | bi (k : Bi) (es : List Ex) | isTy (t : Ty) (a : Ex) | meth (k : Mt) (o : Ex) (es : List Ex)
  | lrg (es : List Ex) | trg (es : List Ex)
  | comp (own : List (Str × Nat)) (tg it : Ex) (ifs : List Ex) (elt : Ex)
  | comp2 (own : List (Str × Nat)) (own1 : List Nat) (tg it : Ex) (ifs : List Ex) (tg1 it1 : Ex) (ifs1 : List Ex) (elt : Ex)
  | iSeq (a : Ex) | iRange (es : List Ex) | iZip (es : List Ex) | iEnum (a : Ex)
  | gVar (i : Nat) | gTup (es : List Ex) | gSub (a b : Ex)
  | sExpr (a : Ex) | sRet (a : Ex) | sRetN | sIf (t : Ex) (a b : List Ex) | sAsg (tg a : Ex) | sAsgC (i : Nat) (m : Bool) (a : Ex) | sPar (is : List Nat) (es : List Ex)
  | sFor (tg it : Ex) (b : List Ex) | sWhile (t : Ex) (b : List Ex)
  | sRaise (g : Nat) (m : Str)
  | hole | callV (i : Nat) (es : List Ex) | word (g : Nat) (a : Ex) | isOwn (g : Nat) (a : Ex) | isVE (a : Ex) | attr (a : Ex) (f : Str)
  | rem (o a : Ex) | gTupH (es : List Ex) | sSetH (i : Nat) (own : List (Str × Nat)) (tg a : Ex) (ifs : List Ex) (elt : Ex)

/-- what the defs and classes mean -/
structure Mx where
  isF : Nat → Bool
  F : Nat → VF
  Wd : Nat → (Sto → R PV) → Sto → R PV
  sub : Nat → Nat → Option Bool
  att : Nat → Str → Bool
  ve : Nat → Bool
def cCallV (isF : Nat → Bool) (F : Nat → VF) (i : Nat) (a : AF) : EF := fun ρ S => match ρ[i]? with
  | some (some (.fn g)) => if isF g then (a ρ S).bind (F g) else .no
  | _ => .no
def cWord (w : (Sto → R PV) → Sto → R PV) (f : EF) : EF := fun ρ S => w (fun S1 => f ρ S1) S
def oIsOwn (sub : Nat → Nat → Option Bool) (g : Nat) (x : PV) (_ : Sto) : Option PV := match x with
  | .err c [] => match sub c g with
    | some b => some (.bl b)
    | none => none
  | _ => none
def oIsVE (ve : Nat → Bool) (x : PV) (_ : Sto) : Option PV := match x with
  | .err c [] => if ve c then some (.bl true) else none
  | _ => none
def flP : Fl → PV
  | .int i => .int i
  | .str x => .str x
def oAttr (att : Nat → Str → Bool) (f : Str) (x : PV) (_ : Sto) : Option PV := match x with
  | .err c fs => if att c f then match fs.lookup f with
      | some y => some (flP y)
      | none => none
    else none
  | _ => none
def iSeqHF (f : EF) : IF := fun ρ S => (f ρ S).bind fun x S1 => match x with
  | .tup xs => .ok (.items xs) S1
  | .lst xs => .ok (.items xs) S1
  | _ => .no
/-- l.remove(x): the first x, an int, of ints -/
def eraseI (k : Int) : List Int → Option (List Int)
  | [] => none
  | x :: xs => if decide (x = k) then some xs else (eraseI k xs).map (x :: ·)
def mRemove (o y : PV) (S : Sto) : Option (PV × Sto) := match o, y with
  | .ref n, .int k => match S[n]? with
    | some (.lst xs) => match ints? xs with
      | some ns => match eraseI k ns with
        | some ms => some (.non, S.set n (.lst (ms.map .int)))
        | none => none
      | none => none
    | none => none
  | _, _ => none
def cRem (f g : EF) : EF := fun ρ S => (f ρ S).bind fun x S1 => if kdLst x S1 then (g ρ S1).bind fun y S2 => ofM (mRemove x y S2) else .no

/-! ### the meaning -/
def denBin : Operator → PV → PV → Sto → Option PV
  | .Add => oAdd | .Sub => oSub | .Mult => oMul | .FloorDiv => oDiv | .Mod => oMod | .Pow => oPow | _ => fun _ _ _ => none
def denCmp : CmpOp → PV → PV → Sto → Option PV
  | .Eq => oEq | .NotEq => oNe | .Lt => oLt | .LtE => oLe | .Gt => oGt | .GtE => oGe | .Is => oIs false | .IsNot => oIs true | .In => oIn false | .NotIn => oIn true
def denBi : Bi → VO
  | .len => bLen | .sum => bSum | .all => bAll | .any => bAny | .max => bMax | .min => bMin | .abs => bAbs | .int => bInt | .tuple => bTuple | .list => bList | .sorted => bSorted | .str => bStr
def aList : List EF → AF
  | [] => aNil
  | f :: fs => aCons f (aList fs)
def eNo : EF := fun _ _ => .no
def tNo : TF := fun _ _ => .no
def cBools (op : BoolOp) : List EF → EF
  | [] => eNo
  | f :: fs => match fs with
    | [] => f
    | _ :: _ => match op with
      | .And => cAnd f (cBools op fs)
      | .Or => cOr f (cBools op fs)
def tBools (op : BoolOp) : List TF → TF
  | [] => tNo
  | f :: fs => match fs with
    | [] => f
    | _ :: _ => match op with
      | .And => Fx.tAnd f (tBools op fs)
      | .Or => Fx.tOr f (tBools op fs)
def tIfs : List TF → TF
  | [] => tYes
  | [t] => t
  | _ => tNo
def sSeqs : List SF → SF
  | [] => sNil
  | f :: fs => sSeq f (sSeqs fs)
def denMt : Mt → EF → AF → EF
  | .append => cMethM kdLst mAppend | .popAt => cMethM kdLst mPopAt | .index => cMeth kdSeq mIndex | .count => cMeth kdSeq mCount
def oneOf (n : Nat) : Bool := match n with
  | 2 => true
  | _ => false
/-- all that a text may mean -/
structure D where
  e : EF
  t : TF
  o : OF
  i : IF
  g : GF
  s : SF
def dE (f : EF) : D := ⟨f, tTru f, pSo f, fun _ _ => .no, fun _ _ _ => .no, fun _ _ => .no⟩
def dET (f : EF) (t : TF) : D := ⟨f, t, pSo f, fun _ _ => .no, fun _ _ _ => .no, fun _ _ => .no⟩
def dO (f : OF) : D := ⟨eNo, tNo, f, fun _ _ => .no, fun _ _ _ => .no, fun _ _ => .no⟩
def dI (f : IF) : D := ⟨eNo, tNo, pNo, f, fun _ _ _ => .no, fun _ _ => .no⟩
def dG (f : GF) : D := ⟨eNo, tNo, pNo, fun _ _ => .no, f, fun _ _ => .no⟩
def dS (f : SF) : D := ⟨eNo, tNo, pNo, fun _ _ => .no, fun _ _ _ => .no, f⟩
def esL (ds : List D) : AF := aList (ds.map D.e)
def ssL (ds : List D) : SF := sSeqs (ds.map D.s)
section
variable (F : Mx)
mutual
def den : Ex → D
  | .int i => dE (cLit (.int i))
  | .bl b => dE (cLit (.bl b))
  | .non => dE (cLit .non)
  | .str x => dE (cLit (.str x))
  | .var i => dE (cVar i)
  | .gint _ i => dE (cLit (.int i))
  | .gfn g => dE (cLit (.fn g))
  | .bin op a b => dE (cBin (denBin op) (den a).e (den b).e)
  | .addL a b => dE (cBin oAddL (den a).e (den b).e)
  | .mulL a b => dE (cBin oMulL (den a).e (den b).e)
  | .neg a => dE (cUn oNeg (den a).e)
  | .cmp op a b => dET (cBin (denCmp op) (den a).e (den b).e) (tVal (cBin (denCmp op) (den a).e (den b).e))
  | .chain op op' a b c => dET (cChain (denCmp op) (denCmp op') (den a).e (den b).e (den c).e) (tVal (cChain (denCmp op) (denCmp op') (den a).e (den b).e (den c).e))
  | .bool op es => dET (cBools op ((dens es).map D.e)) (tBools op ((dens es).map D.t))
  | .not a => dET (cNot (den a).e) (Fx.tNot (den a).t)
  | .ite t a b => dET (cIte (den t).t (den a).e (den b).e) tNo
  | .tup es => dE (cTup (esL (dens es)))
  | .lst es => dE (cLst (esL (dens es)))
  | .mu a => dET (cMu (den a).e) tNo
  | .idx a b => dE (cBin oIdx (den a).e (den b).e)
  | .slc a lo hi => dE (cSlc (den a).e (den lo).o (den hi).o)
  | .nix => dO pNo
  | .rev a => dE (cUn oRev (den a).e)
  | .call g es => dE (cCall (F.F g) (esL (dens es)))
  | .bi k es => dE (cBi (denBi k) (esL (dens es)))
  | .isTy t a => dE (cBi (bIs t) (aCons (den a).e aNil))
  | .meth k o es => dE (denMt k (den o).e (esL (dens es)))
  | .lrg es => dE (cBi (bListRange (oneOf es.length)) (esL (dens es)))
  | .trg es => dE (cBi (bTupRange (oneOf es.length)) (esL (dens es)))
  | .comp own tg it ifs elt => dE (cComp (own.map (·.2)) (den it).i (den tg).g (tIfs ((dens ifs).map D.t)) (den elt).e)
  | .comp2 own own1 tg it ifs tg1 it1 ifs1 elt => dE (cComp2 (own.map (·.2)) own1 (den it).i (den tg).g (tIfs ((dens ifs).map D.t)) (den it1).i (den tg1).g (tIfs ((dens ifs1).map D.t)) (den elt).e)
  | .iSeq a => dI (Fx.iSeq (den a).e)
  | .iRange es => dI (Fx.iRange (oneOf es.length) (esL (dens es)))
  | .iZip es => dI (iZipN es.length (esL (dens es)))
  | .iEnum a => dI (Fx.iEnum (aCons (den a).e aNil))
  | .gVar i => dG (Fx.gVar i)
  | .gTup es => dG (Fx.gTup ((dens es).map D.g))
  | .gSub a b => dG (Fx.gSub (den a).e (den b).e stSet)
  | .sExpr a => dS (Fx.sExpr (den a).e)
  | .sRet a => dS (Fx.sRet (den a).e)
  | .sRetN => dS Fx.sRetN
  | .sIf t a b => dS (Fx.sIf (den t).t (ssL (dens a)) (ssL (dens b)))
  | .sAsg tg a => dS (Fx.sAsg (den tg).g (den a).e)
  | .sAsgC i m a => dS (Fx.sAsg (Fx.gVar i) (if m then cMu (den a).e else (den a).e))
  | .sPar is es => dS (Fx.sPar is (esL (dens es)))
  | .sFor tg it b => dS (Fx.sFor (den it).i (den tg).g (ssL (dens b)))
  | .sWhile t b => dS (Fx.sWhile (den t).t (ssL (dens b)))
  | .sRaise g _ => dS (Fx.sRaise ⟨g, none⟩)
  | .hole => ⟨eNo, tNo, fun _ _ => .no, fun _ _ => .no, fun _ _ _ => .no, fun _ _ => .no⟩
  | .callV i es => dE (cCallV F.isF F.F i (esL (dens es)))
  | .word g a => dE (cWord (F.Wd g) (den a).e)
  | .isOwn g a => dE (cUn (oIsOwn F.sub g) (den a).e)
  | .isVE a => dE (cUn (oIsVE F.ve) (den a).e)
  | .attr a f => dE (cUn (oAttr F.att f) (den a).e)
  | .rem o a => dE (cRem (den o).e (den a).e)
  | .gTupH es => dG (Fx.gTup ((dens es).map D.g))
  | .sSetH i own tg a ifs elt => dS (Fx.sAsg (Fx.gVar i) (cComp (own.map (·.2)) (iSeqHF (den a).e) (den tg).g (tIfs ((dens ifs).map D.t)) (den elt).e))
def dens : List Ex → List D
  | [] => []
  | e :: es => den e :: dens es
end
end
example (F) : (den F (.bin .Add (.int 3) (.int 4))).e = cBin oAdd (cLit (.int 3)) (cLit (.int 4)) := rfl
/-! ### the look at a text -/
inductive GK where
  | fn (n : Nat) | int (i : Int) | exc | wd
structure Ct where
  N : List Str
  sc : Scope
  fn : Str → Bool
  gs : List (Str × GK)
  /-- no exception is handled; one is; it is at hand; lambdas may be made -/
  calm : Bool
  hot : Bool
  suite : Bool
  lam : Bool
def okx : Expr → Bool
  | .Constant .. => true | .Name .. => true | .BinOp .. => true | .UnaryOp .. => true | .Compare .. => true | .BoolOp .. => true | .IfExp .. => true | .Tuple .. => true | .List .. => true
  | .Subscript .. => true | .ListComp .. => true | .Call _ (_ :: _) _ _ => true | .Attribute .. => true | _ => false
def okName (x : Str) : Bool := !(x == ("__debug__" : Str)) && !(x == ("__classdict__" : Str)) && !(x == ("__name__" : Str))
def visC (sc : Scope) (x : Str) : Bool := match sc.names.lookup x with
  | some .local => true | some .cell => true | some .free => true | _ => false
def glC (sc : Scope) (x : Str) : Bool := match sc.names.lookup x with
  | some .globalImplicit => true | _ => false
def locC (c : Ct) (x : Str) : Bool := match c.sc.names.lookup x with
  | some .local => true | some .cell => c.fn x | _ => false
def isLocal (sc : Scope) (x : Str) : Bool := match sc.names.lookup x with
  | some .local => true | _ => false
def nameIs (c : Ct) (i : Nat) (x : Str) : Bool := match c.N[i]? with
  | some y => y == x | none => false
def Bi.nm : Bi → Str
  | .len => "len" | .sum => "sum" | .all => "all" | .any => "any" | .max => "max" | .min => "min" | .abs => "abs" | .int => "int" | .tuple => "tuple" | .list => "list" | .sorted => "sorted" | .str => "str"
def Mt.nm : Mt → Str
  | .append => "append" | .popAt => "pop" | .index => "index" | .count => "count"
def isF : Ex → Bool
  | .addL _ _ => true | .mulL _ _ => true | .lst _ => true | .bi .list _ => true | .bi .sorted _ => true | .lrg _ => true | .comp .. => true | .comp2 .. => true | _ => false
def glo (c : Ct) (g : Nat) (x : Str) : Option GK := match c.gs[g]? with
  | some (y, k) => if y == x && glC c.sc x && okName x then some k else none
  | none => none
def stmtPlain (x : Expr) : Bool := match x with
  | .ListComp .. => false | _ => true
def gis : Ex → List Nat
  | .gVar i => [i]
  | _ => []
def okg : Expr → Bool
  | .Name .. => true | .Tuple .. => true | .Subscript .. => true | _ => false
def isTupX : Expr → Bool
  | .Tuple .. => true | _ => false
/-- stores that are not told one by one -/
def noSwap : Expr → Expr → Bool
  | .Tuple ts _ _, .Tuple vs _ _ => vs.all (foldedForSure 8) && (vs.all okx) 
  | _, _ => true
end Fx

/-! Fx13: the look at a text. -/
namespace Fx
open PySem PySem.Spec PyProof.Rows L2

def vInt : Expr → Option Int | .Constant (.int i) _ _ => some i | _ => none
def vBl : Expr → Option Bool | .Constant (.bool i) _ _ => some i | _ => none
def vNon : Expr → Option Unit | .Constant .none _ _ => some () | _ => none
def vStr : Expr → Option Str | .Constant (.str i) _ _ => some i | _ => none
def vName : Expr → Option Str | .Name x _ => some x | _ => none
def vBin : Expr → Option (Expr × Operator × Expr) | .BinOp a o b _ => some (a, o, b) | _ => none
def vUn : Expr → Option (UnaryOp × Expr) | .UnaryOp o a _ => some (o, a) | _ => none
def vCmp : Expr → Option (Expr × CmpOp × Expr) | .Compare a [o] [b] _ => some (a, o, b) | _ => none
def vChain : Expr → Option (Expr × CmpOp × CmpOp × Expr × Expr) | .Compare a [o, p] [b, c] _ => some (a, o, p, b, c) | _ => none
def vBool : Expr → Option (BoolOp × List Expr) | .BoolOp o es _ => some (o, es) | _ => none
def vIte : Expr → Option (Expr × Expr × Expr) | .IfExp t a b _ => some (t, a, b) | _ => none
def vTup : Expr → Option (List Expr) | .Tuple es _ _ => some es | _ => none
def vLst : Expr → Option (List Expr) | .List es _ => some es | _ => none
def vSub : Expr → Option (Expr × Expr) | .Subscript a b _ => some (a, b) | _ => none
def vSlc : Expr → Option (Expr × Option Expr × Option Expr) | .Subscript a (.Slice lo hi none _) _ => some (a, lo, hi) | _ => none
def vRev : Expr → Option Expr | .Subscript a (.Slice none none (some (.UnaryOp .USub (.Constant (.int 1) _ _) _)) _) _ => some a | _ => none
def vCall : Expr → Option (Str × List Expr) | .Call (.Name x _) es [] _ => some (x, es) | _ => none
def vMeth : Expr → Option (Expr × Str × Pos × List Expr × Pos) | .Call (.Attribute o n ap) es [] cp => some (o, n, ap, es, cp) | _ => none
def vComp : Expr → Option (Expr × Expr × Expr × List Expr × Scope) | .ListComp elt [⟨tg, it, ifs, 0⟩] sc _ => some (elt, tg, it, ifs, sc) | _ => none
def vComp2 : Expr → Option (Expr × Expr × Expr × List Expr × Expr × Expr × List Expr × Scope) | .ListComp elt [⟨tg, it, ifs, 0⟩, ⟨tg1, it1, ifs1, 0⟩] sc _ => some (elt, tg, it, ifs, tg1, it1, ifs1, sc) | _ => none
def vLamC : Expr → Option (Str × Arguments × Expr × Scope) | .Call (.Name x _) [.Lambda ps b sc _] [] _ => some (x, ps, b, sc) | _ => none
def vAttr : Expr → Option (Expr × Str) | .Attribute e n _ => some (e, n) | _ => none
def vsExpr : Stmt → Option Expr | .Expr a _ => some a | _ => none
def vsRet : Stmt → Option (Option Expr) | .Return a _ => some a | _ => none
def vsRaise : Stmt → Option (Str × Str) | .Raise (some (.Call (.Name x _) [.Constant (.str m) _ _] [] _)) none _ => some (x, m) | _ => none
def vsIf : Stmt → Option (Expr × List Stmt × List Stmt) | .If t a b _ => some (t, a, b) | _ => none
def vsAsg : Stmt → Option (Expr × Expr × Pos) | .Assign [t] a p => some (t, a, p) | _ => none
def vsFor : Stmt → Option (Expr × Expr × List Stmt) | .For t i b [] _ => some (t, i, b) | _ => none
def vsWhile : Stmt → Option (Expr × List Stmt) | .While t b [] _ => some (t, b) | _ => none
section
variable {x : Expr}
theorem vInt_eq {i} (h : vInt x = some i) : ∃ k p, x = .Constant (.int i) k p := by unfold vInt at h; split at h <;> cases h; exact ⟨_, _, rfl⟩
theorem vBl_eq {i} (h : vBl x = some i) : ∃ k p, x = .Constant (.bool i) k p := by unfold vBl at h; split at h <;> cases h; exact ⟨_, _, rfl⟩
theorem vNon_eq {i} (h : vNon x = some i) : ∃ k p, x = .Constant .none k p := by unfold vNon at h; split at h <;> cases h; exact ⟨_, _, rfl⟩
theorem vStr_eq {i} (h : vStr x = some i) : ∃ k p, x = .Constant (.str i) k p := by unfold vStr at h; split at h <;> cases h; exact ⟨_, _, rfl⟩
theorem vName_eq {i} (h : vName x = some i) : ∃ p, x = .Name i p := by unfold vName at h; split at h <;> cases h; exact ⟨_, rfl⟩
theorem vBin_eq {a o b} (h : vBin x = some (a, o, b)) : ∃ p, x = .BinOp a o b p := by unfold vBin at h; split at h <;> cases h; exact ⟨_, rfl⟩
theorem vUn_eq {a o} (h : vUn x = some (o, a)) : ∃ p, x = .UnaryOp o a p := by unfold vUn at h; split at h <;> cases h; exact ⟨_, rfl⟩
theorem vCmp_eq {a o b} (h : vCmp x = some (a, o, b)) : ∃ p, x = .Compare a [o] [b] p := by unfold vCmp at h; split at h <;> cases h; exact ⟨_, rfl⟩
theorem vChain_eq {a o q b c} (h : vChain x = some (a, o, q, b, c)) : ∃ p, x = .Compare a [o, q] [b, c] p := by unfold vChain at h; split at h <;> cases h; exact ⟨_, rfl⟩
theorem vBool_eq {o es} (h : vBool x = some (o, es)) : ∃ p, x = .BoolOp o es p := by unfold vBool at h; split at h <;> cases h; exact ⟨_, rfl⟩
theorem vIte_eq {t a b} (h : vIte x = some (t, a, b)) : ∃ p, x = .IfExp t a b p := by unfold vIte at h; split at h <;> cases h; exact ⟨_, rfl⟩
theorem vTup_eq {es} (h : vTup x = some es) : ∃ k p, x = .Tuple es k p := by unfold vTup at h; split at h <;> cases h; exact ⟨_, _, rfl⟩
theorem vLst_eq {es} (h : vLst x = some es) : ∃ p, x = .List es p := by unfold vLst at h; split at h <;> cases h; exact ⟨_, rfl⟩
theorem vSub_eq {a b} (h : vSub x = some (a, b)) : ∃ p, x = .Subscript a b p := by unfold vSub at h; split at h <;> cases h; exact ⟨_, rfl⟩
theorem vSlc_eq {a lo hi} (h : vSlc x = some (a, lo, hi)) : ∃ p q, x = .Subscript a (.Slice lo hi none q) p := by unfold vSlc at h; split at h <;> cases h; exact ⟨_, _, rfl⟩
theorem vRev_eq {a} (h : vRev x = some a) : ∃ k p1 p2 p3 p, x = .Subscript a (.Slice none none (some (.UnaryOp .USub (.Constant (.int 1) k p1) p2)) p3) p := by unfold vRev at h; split at h <;> cases h; exact ⟨_, _, _, _, _, rfl⟩
theorem vCall_eq {a es} (h : vCall x = some (a, es)) : ∃ q p, x = .Call (.Name a q) es [] p := by unfold vCall at h; split at h <;> cases h; exact ⟨_, _, rfl⟩
theorem vMeth_eq {o n ap es cp} (h : vMeth x = some (o, n, ap, es, cp)) : x = .Call (.Attribute o n ap) es [] cp := by unfold vMeth at h; split at h <;> cases h; rfl
theorem vComp_eq {elt tg it ifs sc} (h : vComp x = some (elt, tg, it, ifs, sc)) : ∃ p, x = .ListComp elt [⟨tg, it, ifs, 0⟩] sc p := by unfold vComp at h; split at h <;> cases h; exact ⟨_, rfl⟩
theorem vComp2_eq {elt tg it ifs tg1 it1 ifs1 sc} (h : vComp2 x = some (elt, tg, it, ifs, tg1, it1, ifs1, sc)) : ∃ p, x = .ListComp elt [⟨tg, it, ifs, 0⟩, ⟨tg1, it1, ifs1, 0⟩] sc p := by unfold vComp2 at h; split at h <;> cases h; exact ⟨_, rfl⟩
theorem vLamC_eq {y ps b sc} (h : vLamC x = some (y, ps, b, sc)) : ∃ p q r, x = .Call (.Name y p) [.Lambda ps b sc q] [] r := by unfold vLamC at h; split at h <;> cases h; exact ⟨_, _, _, rfl⟩
theorem vAttr_eq {e n} (h : vAttr x = some (e, n)) : ∃ p, x = .Attribute e n p := by unfold vAttr at h; split at h <;> cases h; exact ⟨_, rfl⟩
variable {s : Stmt}
theorem vsExpr_eq {a} (h : vsExpr s = some a) : ∃ p, s = .Expr a p := by unfold vsExpr at h; split at h <;> cases h; exact ⟨_, rfl⟩
theorem vsRet_eq {a} (h : vsRet s = some a) : ∃ p, s = .Return a p := by unfold vsRet at h; split at h <;> cases h; exact ⟨_, rfl⟩
theorem vsRaise_eq {x m} (h : vsRaise s = some (x, m)) : ∃ p q j p2 r, s = .Raise (some (.Call (.Name x p) [.Constant (.str m) j p2] [] q)) none r := by unfold vsRaise at h; split at h <;> cases h; exact ⟨_, _, _, _, _, rfl⟩
theorem vsIf_eq {t a b} (h : vsIf s = some (t, a, b)) : ∃ p, s = .If t a b p := by unfold vsIf at h; split at h <;> cases h; exact ⟨_, rfl⟩
theorem vsAsg_eq {t a p} (h : vsAsg s = some (t, a, p)) : s = .Assign [t] a p := by unfold vsAsg at h; split at h <;> cases h; rfl
theorem vsFor_eq {t i b} (h : vsFor s = some (t, i, b)) : ∃ p, s = .For t i b [] p := by unfold vsFor at h; split at h <;> cases h; exact ⟨_, rfl⟩
theorem vsWhile_eq {t b} (h : vsWhile s = some (t, b)) : ∃ p, s = .While t b [] p := by unfold vsWhile at h; split at h <;> cases h; exact ⟨_, rfl⟩
end
def anyO {α : Type} (o : Option α) (p : α → Bool) : Bool := match o with
  | some a => p a
  | none => false
theorem anyO_some {α : Type} {o : Option α} {p : α → Bool} (h : anyO o p = true) : ∃ a, o = some a ∧ p a = true := by
  cases o with
  | none => cases h
  | some a => exact ⟨a, rfl, h⟩
def Ct.blk (c : Ct) (scope : Scope) : Ct := { c with sc := relS scope c.sc, fn := fun x => scope.names.lookup x == some .cell, suite := false }
def Ct.lamC (c : Ct) (scope : Scope) : Ct := { c with sc := scope, fn := fun _ => false, hot := false, suite := false, lam := false }
def noParams : Arguments → Bool
  | ⟨[], [], none, [], [], none, []⟩ => true
  | _ => false
theorem noParams_eq {a : Arguments} (h : noParams a = true) : a = ⟨[], [], none, [], [], none, []⟩ := by
  unfold noParams at h
  split at h
  · rfl
  · cases h
def needsCalm : Bi → Bool
  | .sum => true | .all => true | .any => true | .max => true | .min => true | _ => false
def biC (c : Ct) (x y : Str) : Bool := x == y && glC c.sc x
def oneE (e : Option Ex) : Bool := e.isNone
def plainB : Expr → Bool
  | .Name .. => true | _ => false
mutual
/-- the names that a target sets -/
def gIs : Ex → List Nat
  | .gVar i => [i]
  | .gTup es => gIss es
  | .gTupH es => gIss es
  | _ => []
def gIss : List Ex → List Nat
  | [] => []
  | e :: es => gIs e ++ gIss es
end
def subL (a b : List Nat) : Bool := a.all fun i => b.contains i
/-- what is looked at -/
structure Lk where
  e : Ct → Expr → Bool
  t : Ct → Expr → Bool
  o : Ct → Option Expr → Bool
  i : Ct → Expr → Expr → Bool
  g : Ct → Expr → Bool
  s : Ct → Stmt → Bool
def lE (f : Ct → Expr → Bool) : Lk := ⟨f, f, fun c x => anyO x (f c), fun _ _ _ => false, fun _ _ => false, fun _ _ => false⟩
def lET (f t : Ct → Expr → Bool) : Lk := ⟨f, t, fun c x => anyO x (f c), fun _ _ _ => false, fun _ _ => false, fun _ _ => false⟩
def lO (f : Ct → Option Expr → Bool) : Lk := ⟨fun _ _ => false, fun _ _ => false, f, fun _ _ _ => false, fun _ _ => false, fun _ _ => false⟩
def lI (f : Ct → Expr → Expr → Bool) : Lk := ⟨fun _ _ => false, fun _ _ => false, fun _ _ => false, f, fun _ _ => false, fun _ _ => false⟩
def lG (f : Ct → Expr → Bool) : Lk := ⟨fun _ _ => false, fun _ _ => false, fun _ _ => false, fun _ _ _ => false, f, fun _ _ => false⟩
def lS (f : Ct → Stmt → Bool) : Lk := ⟨fun _ _ => false, fun _ _ => false, fun _ _ => false, fun _ _ _ => false, fun _ _ => false, f⟩
def allE : List Lk → Ct → List Expr → Bool
  | [], _, xs => xs.isEmpty
  | l :: ls, c, xs => match xs with
    | x :: r => okx x && l.e c x && allE ls c r
    | [] => false
def allT : List Lk → Ct → List Expr → Bool
  | [], _, xs => xs.isEmpty
  | l :: ls, c, xs => match xs with
    | x :: r => l.t c x && allT ls c r
    | [] => false
def allG : List Lk → Ct → List Expr → Bool
  | [], _, xs => xs.isEmpty
  | l :: ls, c, xs => match xs with
    | x :: r => okg x && l.g c x && allG ls c r
    | [] => false
def allS : List Lk → Ct → List Stmt → Bool
  | [], _, xs => xs.isEmpty
  | l :: ls, c, xs => match xs with
    | x :: r => l.s c x && allS ls c r
    | [] => false
def numIs (xs : List Expr) (n : Nat) : Bool := Nat.beq xs.length n
def fnC (c : Ct) (g : Nat) (y : Str) (n : Nat) : Bool := match glo c g y with
  | some (.fn k) => Nat.beq n k
  | _ => false
def intC (c : Ct) (g : Nat) (y : Str) (i : Int) : Bool := match glo c g y with
  | some (.int j) => decide (i = j)
  | _ => false
def excC (c : Ct) (g : Nat) (y : Str) : Bool := match glo c g y with
  | some .exc => true
  | _ => false
def wdC (c : Ct) (g : Nat) (y : Str) : Bool := match glo c g y with
  | some .wd => true
  | _ => false
def rgC (c : Ct) (ls : List Lk) (r : Expr) : Bool := anyO (vCall r) fun (z, zs) => biC c z "range" && (numIs zs 1 || numIs zs 2) && allE ls c zs
def kindF (c : Ct) : Bool := match c.sc.kind with
  | .function => true | _ => false
def isComp : Expr → Bool
  | .ListComp .. => true | _ => false
/-- a name that is set to a comprehension on its line -/
def swapC (c : Ct) (t a : Expr) : Bool := match t, a with
  | .Name y p, .ListComp _ _ sc q => isLocal c.sc y && (p.line == q.line) && !(sc.names.any fun (n, k) => n == y && (k == .local || k == .cell))
  | _, _ => false
def locNames (c : Ct) (l : Nat) : List Expr → List Str
  | [] => []
  | .Name y p :: r => if isLocal c.sc y && p.line == l then y :: locNames c l r else locNames c l r
  | _ :: r => locNames c l r
def headLine : List Expr → Nat
  | [] => 0
  | t :: _ => t.pos.line
/-- the stores of a tuple of targets, from a tuple: none told from the right -/
def noSwapC (c : Ct) (t a : Expr) : Bool := match t, a with
  | .Tuple ts _ _, .Tuple vs _ _ => kindF c && vs.all okx && Nat.beq vs.length ts.length && (!(Nat.beq ts.length 2 || Nat.beq ts.length 3) || vs.all (foldedForSure 8) || !Nat.beq (locNames c (headLine ts) ts).length ts.length)
  | .List _ _, _ => false
  | _, _ => true
def namesAt (c : Ct) : List Nat → List Expr → Bool
  | [], ts => ts.isEmpty
  | i :: is, ts => match ts with
    | .Name y _ :: r => nameIs c i y && isLocal c.sc y && namesAt c is r
    | _ => false
mutual
def look : Ex → Lk
  | .int i => lE fun _ x => anyO (vInt x) fun j => decide (i = j)
  | .bl b => lE fun _ x => anyO (vBl x) fun d => b == d
  | .non => lE fun _ x => (vNon x).isSome
  | .str s => lE fun _ x => anyO (vStr x) fun t => s == t
  | .var i => lE fun c x => anyO (vName x) fun y => nameIs c i y && visC c.sc y && okName y
  | .gint g i => lE fun c x => anyO (vName x) fun y => intC c g y i
  | .gfn g => lE fun c x => anyO (vName x) fun y => match glo c g y with
    | some (.fn _) => true
    | _ => false
  | .bin op a b => lE fun c x => anyO (vBin x) fun (l, o, r) => decide (op = o) && (look a).e c l && (look b).e c r
  | .addL a b => lE fun c x => anyO (vBin x) fun (l, o, r) => decide (.Add = o) && (look a).e c l && (look b).e c r
  | .mulL a b => lE fun c x => anyO (vBin x) fun (l, o, r) => decide (.Mult = o) && (look a).e c l && (look b).e c r
  | .neg a => lE fun c x => anyO (vUn x) fun (o, l) => decide (.USub = o) && (look a).e c l
  | .cmp op a b => lE fun c x => anyO (vCmp x) fun (l, o, r) => decide (op = o) && okx r && (look a).e c l && (look b).e c r
  | .chain op op' a b d => lE fun c x => anyO (vChain x) fun (l, o, o', m, r) => decide (op = o) && decide (op' = o') && okx r && (look a).e c l && (look b).e c m && (look d).e c r
  | .bool op es => lET (fun c x => anyO (vBool x) fun (o, xs) => decide (op = o) && allE (looks es) c xs && !es.isEmpty) (fun c x => anyO (vBool x) fun (o, xs) => decide (op = o) && allT (looks es) c xs && !es.isEmpty)
  | .not a => lET (fun c x => anyO (vUn x) fun (o, l) => decide (.Not = o) && (look a).e c l) (fun c x => anyO (vUn x) fun (o, l) => decide (.Not = o) && (look a).t c l)
  | .ite t a b => lET (fun c x => anyO (vIte x) fun (u, l, r) => (look t).t c u && (look a).e c l && (look b).e c r) (fun _ _ => false)
  | .tup es => lE fun c x => anyO (vTup x) fun xs => allE (looks es) c xs
  | .lst es => lE fun c x => anyO (vLst x) fun xs => allE (looks es) c xs
  | .mu a => lET (fun c x => isF a && (look a).e c x) (fun _ _ => false)
  | .idx a b => lE fun c x => anyO (vSub x) fun (l, r) => okx r && (look a).e c l && (look b).e c r
  | .slc a lo hi => lE fun c x => anyO (vSlc x) fun (l, o, p) => (look a).e c l && (look lo).o c o && (look hi).o c p
  | .nix => lO fun _ x => x.isNone
  | .rev a => lE fun c x => anyO (vRev x) fun l => (look a).e c l
  | .call g es => lE fun c x => anyO (vCall x) fun (y, xs) => c.calm && fnC c g y xs.length && !xs.isEmpty && allE (looks es) c xs
  | .bi k es => lE fun c x => anyO (vCall x) fun (y, xs) => biC c y k.nm && (c.calm || !needsCalm k) && !xs.isEmpty && allE (looks es) c xs
  | .isTy t a => lE fun c x => anyO (vCall x) fun (y, xs) => match xs with
    | [l, r] => biC c y "isinstance" && okx l && anyO (vName r) (fun z => biC c z (Str.ofString t.nm)) && (look a).e c l
    | _ => false
  | .meth k o es => lE fun c x => anyO (vMeth x) fun (l, n, ap, xs, cp) => n == k.nm && okx l && (ap.endLine == cp.line) && !xs.isEmpty && decide (xs.length < 10) && (look o).e c l && allE (looks es) c xs
  | .lrg es => lE fun c x => anyO (vCall x) fun (y, xs) => match xs with
    | [r] => c.calm && biC c y "list" && okx r && rgC c (looks es) r
    | _ => false
  | .trg es => lE fun c x => anyO (vCall x) fun (y, xs) => match xs with
    | [r] => c.calm && biC c y "tuple" && okx r && rgC c (looks es) r
    | _ => false
  | .comp own tg it ifs elt => lET (fun c x => anyO (vComp x) fun (l, t, i, fs, scope) => c.calm && blkC c.N c.sc scope own && subL (gIs tg) (own.map (·.2)) && okx i && (look it).i c t i && (look tg).g (c.blk scope) t && allT (looks ifs) (c.blk scope) fs && decide (fs.length ≤ 1) && (look elt).e (c.blk scope) l) (fun _ _ => false)
  | .comp2 own own1 tg it ifs tg1 it1 ifs1 elt => lET (fun c x => anyO (vComp2 x) fun (l, t, i, fs, t1, i1, fs1, scope) => c.calm && blkC c.N c.sc scope own && subL (gIs tg) (own.map (·.2)) && subL (gIs tg1) own1 && subL own1 (own.map (·.2)) && okx i && okx i1 && (look it).i c t i && (look tg).g (c.blk scope) t && allT (looks ifs) (c.blk scope) fs && decide (fs.length ≤ 1) &&
      (look it1).i (c.blk scope) t1 i1 && (look tg1).g (c.blk scope) t1 && allT (looks ifs1) (c.blk scope) fs1 && decide (fs1.length ≤ 1) && (look elt).e (c.blk scope) l) (fun _ _ => false)
  | .iSeq a => lI fun c _ x => (look a).e c x
  | .iRange es => lI fun c _ x => rgC c (looks es) x
  | .iZip es => lI fun c t x => isTupX t && anyO (vCall x) fun (z, zs) => biC c z "zip" && (numIs zs 2 || numIs zs 3) && allE (looks es) c zs
  | .iEnum a => lI fun c t x => isTupX t && anyO (vCall x) fun (z, zs) => match zs with
    | [r] => biC c z "enumerate" && okx r && (look a).e c r
    | _ => false
  | .gVar i => lG fun c x => anyO (vName x) fun y => nameIs c i y && locC c y
  | .gTup es => lG fun c x => anyO (vTup x) fun xs => c.calm && allG (looks es) c xs
  | .gSub a b => lG fun c x => anyO (vSub x) fun (l, r) => okx r && (look a).e c l && (look b).e c r
  | .sExpr a => lS fun c s => anyO (vsExpr s) fun x => !isComp x && okx x && (look a).e c x
  | .sRet a => lS fun c s => anyO (vsRet s) fun o => anyO o fun x => (look a).e c x
  | .sRetN => lS fun _ s => anyO (vsRet s) fun o => o.isNone
  | .sIf t a b => lS fun c s => anyO (vsIf s) fun (u, xs, ys) => (look t).t c u && allS (looks a) c xs && allS (looks b) c ys
  | .sAsg tg a => lS fun c s => anyO (vsAsg s) fun (t, x, p) => okg t && okx x && (look tg).g c t && (look a).e c x && noSwapC c t x && (!isComp x || kindF c) && !swapC c t x
  | .sAsgC i m a => lS fun c s => anyO (vsAsg s) fun (t, x, p) => anyO (vName t) fun y => nameIs c i y && isLocal c.sc y && isComp x && isF a && kindF c && swapC c t x && (look a).e c x
  | .sPar is es => lS fun c s => anyO (vsAsg s) fun (t, x, p) => anyO (vTup t) fun ts => anyO (vTup x) fun xs => c.calm && kindF c && (Nat.beq ts.length 2 || Nat.beq ts.length 3) && Nat.beq xs.length ts.length && allE (looks es) c xs && namesAt c is ts && decide (is.Nodup) &&
      Nat.beq (locNames c (headLine ts) ts).length ts.length && decide (locNames c (headLine ts) ts).Nodup && !(xs.all (foldedForSure 8)) && !(xs.all (constantsAlone 8))
  | .sFor tg it b => lS fun c s => anyO (vsFor s) fun (t, i, xs) => c.calm && okx i && (look it).i c t i && (look tg).g c t && allS (looks b) c xs
  | .sRaise g m => lS fun c s => anyO (vsRaise s) fun (x, n) => c.calm && excC c g x && n == m
  | .sWhile t b => lS fun c s => anyO (vsWhile s) fun (u, xs) => (look t).t c u && allS (looks b) c xs
  | .hole => ⟨fun _ _ => true, fun _ _ => true, fun _ _ => true, fun _ _ _ => true, fun _ _ => true, fun _ _ => true⟩
  | .callV i es => lE fun c x => anyO (vCall x) fun (y, xs) => c.calm && nameIs c i y && visC c.sc y && okName y && !xs.isEmpty && allE (looks es) c xs
  | .word g a => lE fun c x => anyO (vLamC x) fun (y, ps, b, scope) => c.calm && c.lam && wdC c g y && LamX.lamSB c.sc scope && noParams ps && (look a).e (c.lamC scope) b
  | .isOwn g a => lE fun c x => anyO (vCall x) fun (y, xs) => match xs with
    | [l, r] => c.suite && biC c y "isinstance" && okx l && anyO (vName r) (fun z => excC c g z) && (look a).e c l
    | _ => false
  | .isVE a => lE fun c x => anyO (vCall x) fun (y, xs) => match xs with
    | [l, r] => c.suite && biC c y "isinstance" && okx l && anyO (vName r) (fun z => biC c z "ValueError") && (look a).e c l
    | _ => false
  | .attr a f => lE fun c x => anyO (vAttr x) fun (l, n) => c.suite && n == f && plainB l && (look a).e c l
  | .rem o a => lE fun c x => anyO (vMeth x) fun (l, n, ap, xs, cp) => match xs with
    | [e] => c.calm && n == "remove" && okx l && (ap.endLine == cp.line) && okx e && (look o).e c l && (look a).e c e
    | _ => false
  | .gTupH es => lG fun c x => anyO (vTup x) fun xs => c.hot && allG (looks es) c xs
  | .sSetH i own tg a ifs elt => lS fun c s => anyO (vsAsg s) fun (t, x, p) => anyO (vName t) fun y => anyO (vComp x) fun (l, tt, it, fs, scope) => nameIs c i y && isLocal c.sc y && c.hot && kindF c && swapC c t x &&
      blkC c.N c.sc scope own && subL (gIs tg) (own.map (·.2)) && okx it && (look a).e c it && (look tg).g (c.blk scope) tt && allT (looks ifs) (c.blk scope) fs && decide (fs.length ≤ 1) && (look elt).e (c.blk scope) l
def looks : List Ex → List Lk
  | [] => []
  | e :: es => look e :: looks es
end
/-! ### a def that calls what it is handed -/
structure WDef where
  names : List Str
  cl : List (Nat × Nat × List Ex)
  rest : List Ex
def errOf (x : PX) : Option PV := match x.fs with
  | none => some (.err x.cls [])
  | some fs => (flAll fs).map fun q => .err x.cls q
where
  flAll : List (Str × PV) → Option (List (Str × Fl))
    | [] => none
    | [p] => (flOne p.2).map fun y => [(p.1, y)]
    | p :: r => match flOne p.2, flAll r with
      | some y, some q => some ((p.1, y) :: q)
      | _, _ => none
  flOne : PV → Option Fl
    | .int i => some (.int i)
    | .str x => some (.str x)
    | _ => none
mutual
def noErrV : PV → Bool
  | .err _ _ => false
  | .tup xs => noErrs xs
  | .lst xs => noErrs xs
  | .prs xs => noErrs xs
  | _ => true
def noErrs : List PV → Bool
  | [] => true
  | x :: xs => noErrV x && noErrs xs
end
def noErrC : Cell → Bool
  | .lst xs => noErrs xs
def wEnv (n : Nat) : Env := List.replicate n none
def wordRest (F : Mx) (d : WDef) (S : Sto) : R PV := match ssL (dens F d.rest) (wEnv d.names.length) S with
  | .nx _ S1 => .ok .non S1
  | .ret v S1 => .ok v S1
  | .exc _ _ _ => .no
  | .no => .no
def wordCl (F : Mx) (n : Nat) (x : PX) (S : Sto) : List (Nat × Nat × List Ex) → R PV
  | [] => .no
  | (c, i, f) :: r => match F.sub x.cls c with
    | some true => (match errOf x with
      | some e => (match ssL (dens F f) ((wEnv n).set i (some e)) S with
        | .ret v S1 => if noErrV v && S1.all noErrC then .ok v S1 else .no
        | _ => .no)
      | none => .no)
    | some false => wordCl F n x S r
    | none => .no
def wordRun (F : Mx) (d : WDef) (r : R PV) : R PV := match r with
  | .ok _ S => wordRest F d S
  | .exc x S => wordCl F d.names.length x S d.cl
  | .no => .no
def cRest (d : WDef) (gs : List (Str × GK)) (sc : Scope) : Ct := ⟨d.names, sc, fun _ => true, gs, true, false, false, false⟩
def cSuite (d : WDef) (gs : List (Str × GK)) (sc : Scope) : Ct := ⟨d.names, sc, fun _ => true, gs, false, true, true, false⟩
def lookHs (d : WDef) (gs : List (Str × GK)) (sc : Scope) : List (Nat × Nat × List Ex) → List ExceptHandler → Bool
  | [], hs => hs.isEmpty
  | (c, i, f) :: r, hs => match hs with
    | .ExceptHandler (some (.Name x _)) (some n) (b :: ss) _ :: hs => excC (cRest d gs sc) c x && nameIs (cRest d gs sc) i n && isLocal sc n && allS (looks f) (cSuite d gs sc) (b :: ss) && lookHs d gs sc r hs
    | _ => false
def lookW (d : WDef) (gs : List (Str × GK)) (sc : Scope) : List Stmt → Bool
  | .Try [.Expr (.Call (.Name a _) [] [] _) _] (h :: hs) [] [] _ :: rest => nameIs (cRest d gs sc) 0 a && visC sc a && okName a && lookHs d gs sc d.cl (h :: hs) && allS (looks d.rest) (cRest d gs sc) rest
  | _ => false
end Fx

/-! Fx13b: rules for holes, defs as values, lambdas handed on, what an except suite says. -/
namespace Fx
open PySem PySem.Spec PyProof.Rows L2 L2H HotX Fxh
section
variable {B : Bx} {W : WX} {X : Cx} {a b c x : Expr} {f g h : EF} {pos : Pos} {is js : List Nat}
/-! ### holes -/
theorem je_no : JE B W X x eNo := ⟨⟨fun pins s σ H Q I h => by
  obtain ⟨_, _, _, _, _, _, hp⟩ := h
  exact (show False from hp).elim⟩⟩
theorem jt_no : JT B W X x tNo := ⟨⟨fun pins s σ H Q I h => by
  obtain ⟨_, _, _, _, _, _, hp⟩ := h
  exact (show False from hp).elim⟩⟩
theorem jo_no {o : Option Expr} : JO B W X o (fun _ _ => .no) := ⟨⟨fun pins s σ H Q I h => by
  obtain ⟨_, _, _, _, _, _, hp⟩ := h
  exact (show False from hp).elim⟩⟩
theorem ji_no {t : Expr} : JI B W X t x (fun _ _ => .no) := ⟨⟨fun pins s σ H Q I h => by
  obtain ⟨_, _, _, _, _, _, hp⟩ := h
  exact (show False from hp).elim⟩⟩
theorem jg_no : JG B X x is (fun _ _ _ => .no) := ⟨⟨fun pins s σ H v u Q I r h => by
  obtain ⟨_, _, _, _, _, _, _, _, hp⟩ := h
  exact (show False from hp).elim⟩⟩
theorem js_no {st : Stmt} : JS B W X st (fun _ _ => .no) := ⟨⟨fun pins s σ H D I h => by
  obtain ⟨_, _, _, _, _, _, hp⟩ := h
  exact (show False from hp).elim⟩⟩
/-! ### a local name that holds a def -/
theorem je_callV {F : Nat → VF} {i k : Nat} {y : Str} {p : Pos} {e : Expr} {es : List Expr} {kf : AF} {isF : Nat → Bool}
    (hF : ∀ (g : Nat), isF g = true → ∃ (n : Nat) (f : Addr) (fd : FuncData) (ps : List Str), B.fa g = some f ∧ PySem.W.keepIn X.K (.ref f) = true ∧ Binds X.K fd ps [] ∧ FnOk X.prog X.w X.K X.mg X.base (L2N.CX X.prog X.w) k f fd ps (spOf B (F g) n) ∧ ∀ vs S, vs.length ≠ n → F g vs S = .no)
    (hr : Room k X.A) (hN : X.N[i]? = some y) (hv : Vis X.env.scope y) (tk : L2N.Takes X W) (ha : JA B W X (e :: es) kf) (hdb : (y == ("__debug__" : Str)) = false) (hcd : (y == ("__classdict__" : Str)) = false)
    (he : starEach (e :: es) X.env = (false, eval e X.env) :: starEach es X.env) (hpl : (backTo pos (starEach es X.env)).any (·.1) = false) : JE B W X (.Call (.Name y p) (e :: es) [] pos) (cCallV isF F i kf) := by
  refine ⟨⟨fun pins s σ H Q I h => ?_⟩⟩
  obtain ⟨ρ, S, m, Rv, hre, hs, hp⟩ := h
  unfold cCallV at hp
  split at hp
  · rename_i g eg
    split at hp
    · rename_i hg
      obtain ⟨n, f, fd, ps, hf, hk, hb, Fn, hl⟩ := hF g hg
      obtain ⟨w, h1, h2⟩ := hre.2 i _ eg
      unfold RepV at h2
      obtain ⟨f', hf', rfl⟩ := h2
      rw [hf] at hf'
      cases hf'
      have q : tJA B W kf σ H fun vs H1 => spOf B (F g) n vs H1 Q (WE W σ) := by
        refine ⟨ρ, S, m, Rv, hre, hs, (Post.bind hs hp).mono fun xs m1 Rv1 S1 H1 _ e p xv rx => ?_⟩
        refine ⟨?_, m1, Rv1, S1, xs, e.st, rx, p⟩
        rw [← rx.length]
        by_cases hn : xs.length = n
        · exact hn
        · rw [hl xs S1 hn] at p
          exact p.elim
      refine wpAny_Call_Name_kw (thn ((pe_var (pos := p) hN hv hdb hcd).run pins s σ H (fun v H1 => v = .ref f ∧ H1 = H) I ⟨.ref f, h1, rfl, rfl⟩) fun u s1 ⟨v, H1, I1, r1, q1⟩ => ?_)
      obtain ⟨rfl, rfl⟩ := q1
      cases r1
      refine PySem.W.callWith_K (h₀ := X.base) I.ok.mod.kin hk (thn (ha.pa.run pos pins s1 σ _ _ I1 q) fun us s2 ⟨vs, H2, I2, r, q⟩ => ⟨I2.kIn, ?_⟩) he hpl
      exact run_fnS Fn hr hb (L2N.passAt tk σ) I2 r q
    · exact hp.elim
  · exact hp.elim
/-! ### what an except suite says -/
/-- X is a suite's context, B bears its exception -/
def Suite (B : Bx) (X : Cx) : Prop := ∃ (Y : Cx) (a : Addr) (oe : Obj) (cls : Value) (d : Option Addr) (pn : List (Addr × Obj)), X = Y.suite a ((a, oe) :: pn) ∧ L2N.Zn cls d oe ∧ (∃ vs, oe.data = .fields vs) ∧ B.err = some ⟨a, cls, d⟩
theorem no_call : CallR X (.builtin "isinstance") (fun _ _ _ => False) := fun _ _ _ _ _ _ _ _ _ h => h.elim
theorem je_isX {o : PV → Sto → Option PV} {cv : V} {cvv : Value} {z : Str} {p p2 : Pos} (hsu : Suite B X) (hgi : Gl X "isinstance") (hmi : X.mg "isinstance" = none) (ht : PE X (.Name z p2) (tC cv)) (hcv : ∀ u, RelV cv u → u = cvv)
    (ho : ∀ x S v, o x S = some v → ∃ c b, x = .err c [] ∧ v = .bl b ∧ ∀ aC, B.fa c = some aC → PySem.W.kitOne X.K (.ref aC) cvv = some b ∧ ExcC X.K aC) (ha : JE B W X a f)
    (hs : starEach [a, .Name z p2] X.env = (false, eval a X.env) :: starEach [.Name z p2] X.env) (hs2 : starEach [.Name z p2] X.env = [(false, eval (.Name z p2) X.env)]) :
    JE B W X (.Call (.Name "isinstance" p) [a, .Name z p2] [] pos) (cUn o f) := by
  obtain ⟨Y, ad, oe, cls, d, pn, rfl, hz, hf, he⟩ := hsu
  by_cases hD : ∃ D, cls = .ref D ∧ d = none ∧ ExcC Y.K D
  · obtain ⟨D, rfl, rfl, hC⟩ := hD
    refine ⟨PE.imp' (pe_callB (call_isE (X := Y) (pn := pn) hC hz.zc hf) hgi hmi (by decide +kernel) (pa_cons ha.pe (pa_cons ht pa_nil (by rw [hs2]; rfl)) hs) (by decide) (by decide) hs (by rw [hs2]; rfl)) fun σ H Q h => ?_⟩
    refine tK.step h fun x m1 Rv1 S1 H1 ρ hre hst hp xv rx => ?_
    have hp2 := PO.of hp
    cases eo : o x S1 with
    | none => rw [eo] at hp2; exact hp2.elim
    | some v =>
      obtain ⟨c, b, rfl, rfl, hk⟩ := ho _ _ _ eo
      rw [eo] at hp2
      unfold RepV at rx
      obtain ⟨e, h1, rfl, ⟨C, h2, h3⟩, h4⟩ := rx
      rw [he] at h1
      cases h1
      cases h3
      exact ⟨cv, cvv, b, rfl, hcv, (hk D h2).1, PO.same hst hp2 repV_bl'⟩
  · refine ⟨PE.imp' (pe_callB (no_call (X := Y.suite ad ((ad, oe) :: pn))) hgi hmi (by decide +kernel) (pa_cons ha.pe (pa_cons ht pa_nil (by rw [hs2]; rfl)) hs) (by decide) (by decide) hs (by rw [hs2]; rfl)) fun σ H Q h => ?_⟩
    refine tK.step h fun x m1 Rv1 S1 H1 ρ hre hst hp xv rx => ?_
    have hp2 := PO.of hp
    cases eo : o x S1 with
    | none => rw [eo] at hp2; exact hp2.elim
    | some v =>
      obtain ⟨c, b, rfl, rfl, hk⟩ := ho _ _ _ eo
      unfold RepV at rx
      obtain ⟨e, h1, rfl, ⟨C, h2, h3⟩, h4⟩ := rx
      rw [he] at h1
      cases h1
      exact absurd ⟨C, h3, h4, (hk C h2).2⟩ hD
theorem je_attr {n : Str} {att : Nat → Str → Bool} (hsu : Suite B X) (hx : ∀ c C, att c n = true → B.fa c = some C → XfC X.K C ∧ PySem.W.findIn X.K (.ref C) n = some none) (ha : JE B W X a f) (hb : attributeBase a n X.env (eval a X.env) = eval a X.env) :
    JE B W X (.Attribute a n pos) (cUn (oAttr att n) f) := by
  obtain ⟨Y, ad, oe, cls, d, pn, rfl, hz, hf, he⟩ := hsu
  by_cases hD : ∃ D, cls = .ref D ∧ XfC Y.K D ∧ PySem.W.findIn Y.K (.ref D) n = some none
  · obtain ⟨D, rfl, hC, hno⟩ := hD
    refine ⟨PE.imp' (pe_xf (X := Y) (pn := pn) hC hno hz.zc hf ha.pe hb) fun σ H Q h => ?_⟩
    refine tK.step h fun x m1 Rv1 S1 H1 ρ hre hst hp xv rx => ?_
    have hp2 := PO.of hp
    unfold oAttr at hp2
    split at hp2
    · rename_i c fs
      split at hp2
      · split at hp2
        · rename_i y ey
          unfold RepV at rx
          obtain ⟨e, h1, rfl, ⟨C, h2, h3⟩, h4⟩ := rx
          rw [he] at h1
          cases h1
          cases h3
          cases fs with
          | nil => cases ey
          | cons q fs =>
            obtain ⟨dd, gs, h5, h6, h7⟩ := h4
            refine ⟨rfl, rfl, dd, gs, flV y, h5, h6, h7 _ _ ey, PO.same hst hp2 ?_⟩
            cases y <;> (unfold flP flV RepV; rfl)
        · exact hp2.elim
      · exact hp2.elim
    · exact hp2.elim
  · refine ⟨⟨fun pins s σ H Q I h => ?_⟩⟩
    refine attr_of hb (thn (ha.pe.run pins s σ H (fun _ _ => False) I ?_) fun u s1 ⟨_, _, _, _, z⟩ => z.elim)
    refine tK.step h fun x m1 Rv1 S1 H1 ρ hre hst hp xv rx => ?_
    have hp2 := PO.of hp
    unfold oAttr at hp2
    split at hp2
    · rename_i c fs
      split at hp2
      · rename_i hatt
        unfold RepV at rx
        obtain ⟨e, h1, rfl, ⟨C, h2, h3⟩, h4⟩ := rx
        rw [he] at h1
        cases h1
        exact hD ⟨C, h3, hx c C hatt h2⟩
      · exact hp2.elim
    · exact hp2.elim
/-! ### l.remove(x) -/
theorem eraseI_some {k : Int} : ∀ {ns ms : List Int}, eraseI k ns = some ms → k ∈ ns ∧ ns.erase k = ms
  | [], ms, h => by cases h
  | n :: ns, ms, h => by
    unfold eraseI at h
    split at h
    · rename_i e
      have e := of_decide_eq_true e
      cases h
      subst e
      exact ⟨List.mem_cons_self, by rw [List.erase_cons_head]⟩
    · rename_i e
      have e : ¬ n = k := fun z => e (decide_eq_true z)
      cases er : eraseI k ns with
      | none => rw [er] at h; cases h
      | some qs =>
        rw [er] at h
        cases h
        obtain ⟨h1, h2⟩ := eraseI_some er
        exact ⟨List.mem_cons_of_mem _ h1, by rw [List.erase_cons_tail (by simpa using e), h2]⟩
theorem ints_rep {m : Mp} {Rv : Rsv} {N : Nat} {H : Hp} : ∀ {xs : List PV} {ns : List Int} {vs : List V}, ints? xs = some ns → RepVs B m Rv N H xs vs → vs = ns.map V.int
  | [], ns, vs, h, r => by cases h; rw [r.inv0]; rfl
  | x :: xs, ns, vs, h, r => by
    cases x with
    | int i =>
      unfold ints? at h
      cases er : ints? xs with
      | none => rw [er] at h; cases h
      | some qs =>
        rw [er] at h
        cases h
        obtain ⟨w, ws, rfl, r1, r2⟩ := r.inv
        rw [repV_int r1, ints_rep er r2]; rfl
    | _ => cases h
theorem je_rem {apos cpos : Pos} (hc : X.calm = true) (ha : JE B W X a f) (hb : JE B W X b g) (hbase : attributeBase a "remove" X.env (eval a X.env) = eval a X.env) (hfew : ((backTo cpos (starEach [b] X.env)).all (fun x => !x.1) && (backToKw cpos (keywordEach [] X.env)).all (fun x => x.1.isSome)
      && decide (([b] : List Expr).length + ([] : List Keyword).length + (if ([] : List Keyword).isEmpty then 0 else 1) < 30)) = true) (hline : (apos.endLine == cpos.line) = true) (hs : starEach [b] X.env = (false, eval b X.env) :: starEach [] X.env) :
    JE B W X (.Call (.Attribute a "remove" apos) [b] [] cpos) (cRem f g) := by
  refine ⟨PE.imp' (pe_remX hc LamX.takes0 ha.pe hb.pe hbase hfew hline hs rfl) fun σ H Q h => ?_⟩
  refine tK.step h fun x m1 Rv1 S1 H1 ρ hre hst hp xv rx => ?_
  split at hp
  · rename_i hkd
    refine ⟨kdLst_of hst rx hkd, ρ, S1, m1, Rv1, hre, hst, (Post.bind hst hp).mono fun y m2 Rv2 S2 H2 _ e p yv ry => ?_⟩
    have p2 := PM.of p
    unfold mRemove at p2
    split at p2
    · rename_i n k _
      split at p2
      · rename_i xs en
        split at p2
        · rename_i ns ei
          split at p2
          · rename_i ms er
            obtain ⟨q1, q2⟩ := eraseI_some er
            have rx' := rx
            unfold RepV at rx'
            obtain ⟨hn, rfl⟩ := rx'
            obtain ⟨vs, h1, h2⟩ := e.st.cells n xs en
            have ev := ints_rep ei h2
            subst ev
            rw [e.same n hn] at h1
            refine ⟨m1 n, ns, k, rfl, repV_int ry, h1, fun _ => ?_, fun z => absurd q1 z⟩
            have ex := Ext.write (ys := ms.map PV.int) (vs := ms.map V.int) e.st en (RepVs.ints ms)
            rw [e.same n hn] at ex
            rw [q2]
            exact PM.okr p2 ex repV_non'
          · exact p2.elim
        · exact p2.elim
      · exact p2.elim
    · exact p2.elim
  · exact hp.elim
end
end Fx

/-! Fx13c: walks while an exception is handled; a lambda handed to a def. -/
namespace Fx
open PySem PySem.Spec PyProof.Rows L2 L2H HotX Fxh
section
variable {B : Bx} {W : WX} {X : Cx} {a b c x : Expr} {f g h : EF} {pos : Pos} {is js : List Nat} {tg : Expr}
theorem turn_tupleH {P : Program} {w : World} {K : PySem.W.Frag} {tg : Expr} (a it : Addr) : TurnH P w K tg (Itt K a) [it] it (fun i h => h.IsTupleIter it a i) where
  mem := (turn_tuple (P := P) (w := w) (K := K) (tg := tg) a it).mem
  obj := (turn_tuple (P := P) (w := w) (K := K) (tg := tg) a it).obj
  keep := (turn_tuple (P := P) (w := w) (K := K) (tg := tg) a it).keep
  item := by
    intro X hP hw hK hc i pins s σ H E I hf st ⟨xs, x, hq, hx⟩
    subst hP hw hK
    obtain ⟨its, rv, p, _⟩ := I.tuple hq
    obtain ⟨u, hu, ru⟩ := rv.get hx
    obtain ⟨f0, f1, f2, f3, f4, f5⟩ := hf it (by simp)
    refine wpAny_pyNext_tuple_item st (items := its.toArray) p (x := u) (by simpa using hu) fun h' st' sb => ?_
    obtain ⟨o, e, c, d⟩ := id st'
    have J : Inv X pins σ H { s with heap := h' } := I.turned (t' := s.toks) (fun b o hb e => (sb.2 b hb).trans e) f0 f1 f3 f4 f5
    exact ⟨u, rfl, go_of (s := { s with heap := h' }) e c d (by decide) ⟨x, H, J, ru, ⟨rfl, fun ys hy => I.tuple_inj hy hq ▸ hx⟩, st', fun b hb => (hf b hb).1⟩⟩
  done := by
    intro X hP hw hK hc i pins s σ H E I hf st ⟨xs, hq, hx⟩
    subst hP hw hK
    obtain ⟨its, rv, p, _⟩ := I.tuple hq
    obtain ⟨f0, f1, f2, f3, f4, f5⟩ := hf it (by simp)
    have hl := rv.length
    obtain ⟨p1, hot, hp1⟩ := hc
    have hpin := I.pin p1 (List.mem_append_left _ hp1)
    obtain ⟨hh, vs, hd, hv⟩ := hot
    refine pyNext_tuple_end_hot (x1 := p1.1) ⟨hh, p1.2, vs, hpin.1, hd, hv⟩ (f5 p1 (List.mem_append_left _ hp1)) st (items := its.toArray) p (by simp; omega) fun h' eb => ⟨rfl, ?_⟩
    exact I.turned (t' := s.toks) (fun b o hb e => eb b o hb e) f0 f1 f3 f4 f5
  self := (turn_tuple (P := P) (w := w) (K := K) (tg := tg) a it).self
theorem pih_one {pins : List (Addr × Obj)} {σ : L2.St} {H : Hp} {s : Shared} {R : It → Hp → Prop} {J : It} {tn : Nat → Heap → Prop} (I : Inv X pins σ H s) (o : Obj)
    (T : TurnH X.prog X.w X.K tg J [s.heap.objs.size] s.heap.objs.size tn) (st : tn 0 (s.heap.push o)) (q : R J H) : PIEH X pins σ tg R (.ref s.heap.objs.size) { s with heap := s.heap.push o } := by
  refine ⟨s.heap.objs.size, _, tn, J, H, rfl, I.kept (t' := s.toks) fun b ob e => Heap.get?_push_of_some _ e, T, st, fun b hb => ?_, q⟩
  obtain rfl : b = s.heap.objs.size := by simpa using hb
  exact I.fpOk (Nat.le_refl _) (I.hok.fresh (Nat.le_refl _))
theorem pih_seq {l : Expr} {tl : TE} (hl : PE X l tl) : PIH X tg l (iSeqT X.K tl) := by
  refine ⟨fun pins s σ H R I h => ?_⟩
  refine thn (hl.run pins s σ H _ I h) fun v s1 ⟨x, H1, I1, r1, k, a, e, ⟨xs, hq⟩, q⟩ => ?_
  subst e
  cases r1
  cases k with
  | true =>
    obtain ⟨its, rv, p, _⟩ := I1.list (xs := xs) (.of hq)
    exact wpAny_pyIter_list p.isList (pih_one I1 _ (turn_listH a _) ⟨_, Heap.get?_push_size _ rfl, rfl, rfl⟩ q)
  | false =>
    obtain ⟨o, hq⟩ := hq
    obtain ⟨its, rv, p, _⟩ := I1.tuple (sqT hq)
    exact wpAny_pyIter_tuple (items := its.toArray) p (pih_one I1 _ (turn_tupleH a _) ⟨_, Heap.get?_push_size _ rfl, rfl, rfl⟩ q)
theorem PIH.imp' {tg e : Expr} {t t' : TI} (h : PIH X tg e t) (k : ∀ σ H Q, t' σ H Q → t σ H Q) : PIH X tg e t' := ⟨fun pins s σ H Q I q => h.run pins s σ H Q I (k σ H Q q)⟩
theorem jih_seq (ha : JE B W X a f) : PIH X tg a (tJI B W (iSeqHF f)) := by
  refine PIH.imp' (pih_seq ha.pe) fun σ H R h => ?_
  refine tK.step h fun x m1 Rv1 S1 H1 ρ he hs hp xv rx => ?_
  have go : ∀ xs, seqOf S1 x = some xs → (∀ S2, seqOf S2 x = some xs) → Post B (fun c d H' => W c d σ H') m1 Rv1 S1 H1 (.ok (.items xs) S1) (fun s m' Rv' S' H' => ∀ J, Fx.Walks B J m' Rv' S' H' s → R J H') →
      ∃ k a, xv = .ref a ∧ (∃ xs, sHd k H1 a xs) ∧ R (itS X.K k a) H1 := fun xs e es hp => by
    obtain ⟨k, a, rfl, hx, hr⟩ := seq_at hs rx e
    refine ⟨k, a, rfl, hx, Post.ok hs hp _ (walks_seq fun m2 Rv2 S2 H2 e2 ys ey => ?_)⟩
    have ey' : some xs = some ys := ey
    exact hr _ _ _ _ e2 ys ((es S2).trans ey')
  cases x with
  | tup xs => exact go xs rfl (fun _ => rfl) hp
  | lst xs => exact go xs rfl (fun _ => rfl) hp
  | _ => exact hp.elim
theorem jg_tupH {es : List Expr} {gs : List GF} {k : Nat} (hc : HotC X) (hh : JGs B X es is gs) (hst : (assignEach es X.env).findIdx? (·.1) = none) (hl : (assignEach es X.env).length = gs.length) : JG B X (.Tuple es k pos) is (gTup gs) := by
  refine ⟨PG.imp' (pg_tupH hc hh.pgs rfl hst) fun v σ H Q h => jg_tup_imp hl h⟩
theorem js_setLcH {i : Nat} {y : Str} {py : Pos} {elt iter : Expr} {ifs : List Expr} {scope : Scope} {own : List (Str × Nat)} {spos : Pos} {it : EF} {G : GF} {t : TF} {e : EF} (hc : HotC X) (hN : X.N.Nodup) (hy : X.N[i]? = some y) (hyl : X.env.scope.names.lookup y = some .local)
    (hsw : swapsWith (.ListComp elt [⟨tg, iter, ifs, 0⟩] scope pos) (some (.Name y py)) spos.line X.env = pure true) (hi : JE B W X iter it) (ok : BlkOk X.N X.env.scope scope own) (his : ∀ i ∈ is, i ∈ own.map (·.2))
    (hg : ∀ s H C cl fp, JG B (blkH X s H scope (compEnvC scope cl C X.env) fp) tg is G) (ht : ∀ s H C cl fp, PTs (blkH X s H scope (compEnvC scope cl C X.env) fp) ifs (tJT B W0 t))
    (he : ∀ s H C cl fp, JE B W0 (blkH X s H scope (compEnvC scope cl C X.env) fp) elt e) (hs : ∀ x, foldedSetIterable iter X.env x = pure x) :
    JS B W X (.Assign [.Name y py] (.ListComp elt [⟨tg, iter, ifs, 0⟩] scope pos) spos) (sAsg (gVar i) (cComp (own.map (·.2)) (iSeqHF it) G t e)) :=
  ⟨PS.imp' (ps_setLcH hc hN hy hyl hsw (jih_seq hi) ok (fun s H C cl fp => (hg s H C cl fp).pg) ht (fun s H C cl fp => (he s H C cl fp).pe) hs) fun D σ H q => set_imp (jf_je fun σ H Q h => lc_imp his h) q⟩
end
end Fx

/-! Fx13d: a lambda handed to a def that calls it within try. -/
namespace Fx
open PySem PySem.Spec PyProof.Rows L2 L2H HotX Fxh
section
variable {B : Bx} {e : ErrX} {m m' : Mp} {Rv Rv' : Rsv} {S S' : Sto} {N : Nat} {H H' : Hp}
def Bx.withE (B : Bx) (e : ErrX) : Bx := { B with err := some e }
mutual
theorem RepV.lift (hB : B.err = none) : ∀ (p : PV) (v : V), RepV B m Rv N H p v → RepV (B.withE e) m Rv N H p v
  | .err c fs, v, h => by
    unfold RepV at h
    obtain ⟨e', h1, _⟩ := h
    rw [hB] at h1; cases h1
  | .non, v, h => by unfold RepV at *; exact h
  | .bl b, v, h => by unfold RepV at *; exact h
  | .int i, v, h => by unfold RepV at *; exact h
  | .str x, v, h => by unfold RepV at *; exact h
  | .ref n, v, h => by unfold RepV at *; exact h
  | .fn g, v, h => by unfold RepV at *; exact h
  | .scr ns, v, h => by unfold RepV at *; exact h
  | .tup xs, v, h => by
    unfold RepV at *
    obtain ⟨a, o, vs, h1, h2, h3, h4⟩ := h
    exact ⟨a, o, vs, h1, h2, h3, RepVs.lift hB xs vs h4⟩
  | .prs xs, v, h => by
    unfold RepV at *
    obtain ⟨a, vs, h1, h2, h4⟩ := h
    exact ⟨a, vs, h1, h2, RepVs.lift hB xs vs h4⟩
  | .lst xs, v, h => by
    unfold RepV at *
    obtain ⟨a, vs, h1, h2, h3, h4⟩ := h
    exact ⟨a, vs, h1, h2, h3, RepVs.lift hB xs vs h4⟩
theorem RepVs.lift (hB : B.err = none) : ∀ (p : List PV) (v : List V), RepVs B m Rv N H p v → RepVs (B.withE e) m Rv N H p v
  | [], v, h => by unfold RepVs at *; exact h
  | x :: xs, v, h => by
    unfold RepVs at *
    obtain ⟨w, ws, h1, h2, h3⟩ := h
    exact ⟨w, ws, h1, RepV.lift hB x w h2, RepVs.lift hB xs ws h3⟩
end
mutual
theorem RepV.unE : ∀ (p : PV) (v : V), noErrV p = true → RepV (B.withE e) m Rv N H p v → RepV B m Rv N H p v
  | .err c fs, v, n, h => by unfold noErrV at n; cases n
  | .non, v, _, h => by unfold RepV at *; exact h
  | .bl b, v, _, h => by unfold RepV at *; exact h
  | .int i, v, _, h => by unfold RepV at *; exact h
  | .str x, v, _, h => by unfold RepV at *; exact h
  | .ref n, v, _, h => by unfold RepV at *; exact h
  | .fn g, v, _, h => by unfold RepV at *; exact h
  | .scr ns, v, _, h => by unfold RepV at *; exact h
  | .tup xs, v, n, h => by
    unfold RepV at *
    unfold noErrV at n
    obtain ⟨a, o, vs, h1, h2, h3, h4⟩ := h
    exact ⟨a, o, vs, h1, h2, h3, RepVs.unE xs vs n h4⟩
  | .prs xs, v, n, h => by
    unfold RepV at *
    unfold noErrV at n
    obtain ⟨a, vs, h1, h2, h4⟩ := h
    exact ⟨a, vs, h1, h2, RepVs.unE xs vs n h4⟩
  | .lst xs, v, n, h => by
    unfold RepV at *
    unfold noErrV at n
    obtain ⟨a, vs, h1, h2, h3, h4⟩ := h
    exact ⟨a, vs, h1, h2, h3, RepVs.unE xs vs n h4⟩
theorem RepVs.unE : ∀ (p : List PV) (v : List V), noErrs p = true → RepVs (B.withE e) m Rv N H p v → RepVs B m Rv N H p v
  | [], v, _, h => by unfold RepVs at *; exact h
  | x :: xs, v, n, h => by
    unfold RepVs at *
    unfold noErrs at n
    rw [Bool.and_eq_true] at n
    obtain ⟨w, ws, h1, h2, h3⟩ := h
    exact ⟨w, ws, h1, RepV.unE x w n.1 h2, RepVs.unE xs ws n.2 h3⟩
end
theorem St.lift (hB : B.err = none) (s : Fx.St B m Rv S H) : Fx.St (B.withE e) m Rv S H :=
  ⟨fun n xs h => let ⟨vs, h1, h2⟩ := s.cells n xs h; ⟨vs, h1, RepVs.lift hB _ _ h2⟩, s.inj, s.rsv, s.soft, s.tabs⟩
theorem St.drop (s : Fx.St (B.withE e) m Rv S H) (hn : S.all noErrC = true) : Fx.St B m Rv S H :=
  ⟨fun n xs h => let ⟨vs, h1, h2⟩ := s.cells n xs h; ⟨vs, h1, RepVs.unE _ _ (List.all_eq_true.mp hn _ (List.mem_of_getElem? h)) h2⟩, s.inj, s.rsv, s.soft, s.tabs⟩
theorem Ext.lift (hB : B.err = none) (x : Ext B m Rv S H m' Rv' S' H') : Ext (B.withE e) m Rv S H m' Rv' S' H' := ⟨x.len, x.same, x.new, x.rsv, x.rsv', x.keep, x.stays, x.st.lift hB⟩
theorem Ext.drop (x : Ext (B.withE e) m Rv S H m' Rv' S' H') (hn : S'.all noErrC = true) : Ext B m Rv S H m' Rv' S' H' := ⟨x.len, x.same, x.new, x.rsv, x.rsv', x.keep, x.stays, x.st.drop hn⟩
/-- tables have grown -/
theorem Ext.ofN {H1 : Hp} (s : Fx.St B m Rv S H) (x : LamX.ExtN H H1) (t : LamX.Tabs B.T H1) : Ext B m Rv S H m Rv S H1 := by
  have sy : Stay m Rv S.length H m Rv S.length H1 := ⟨Nat.le_refl _, fun _ _ => rfl, fun _ h => .inl h, fun b vs e => x _ _ e (fun _ z => nomatch z), fun b o u e => x _ _ e (fun _ z => nomatch z), fun b vs e _ => x _ _ e (fun _ z => nomatch z), fun b vs e => x _ _ e (fun _ z => nomatch z)⟩
  refine ⟨Nat.le_refl _, fun _ _ => rfl, fun n h1 h2 => absurd h1 (by omega), fun _ h => .inl h, fun _ h => h, fun b u e nt _ => x b u e nt, fun b h => ?_, ⟨fun n xs e => ?_, s.inj, s.rsv, fun r h => ?_, t⟩⟩
  · obtain ⟨u, e, nt⟩ := free_of h
    exact notFree (x _ _ e nt) nt
  · obtain ⟨vs, h1, h2⟩ := s.cells n xs e
    exact ⟨vs, x _ _ h1 (fun _ z => nomatch z), RepVs.stay sy _ _ h2⟩
  · have q := s.soft r h
    cases er : H r with
    | none => rw [er] at q; exact q.elim
    | some u =>
      rw [er] at q
      cases u with
      | lst ws => rw [x _ _ er (fun _ z => nomatch z)]; exact True.intro
      | _ => exact q.elim
theorem Post.noexc {α : Type} {W W' : WXs} {r : R α} {K : α → Mp → Rsv → Sto → Hp → Prop} (h : Post B W m Rv S H r K) (hn : ∀ x S1, r ≠ .exc x S1) : Post B W' m Rv S H r K := by
  cases r with
  | ok a S' => exact h
  | exc x S' => exact absurd rfl (hn x S')
  | no => exact h
theorem wordRest_noexc {F : Mx} {d : WDef} : ∀ x S1, wordRest F d S ≠ .exc x S1 := fun x S1 h => by
  unfold wordRest at h
  split at h <;> cases h
theorem wordCl_noexc {F : Mx} {n : Nat} {y : PX} : ∀ (l : List (Nat × Nat × List Ex)) x S1, wordCl F n y S l ≠ .exc x S1
  | [], x, S1, h => by unfold wordCl at h; cases h
  | (c, i, f) :: r, x, S1, h => by
    unfold wordCl at h
    split at h
    · split at h
      · split at h
        · split at h <;> cases h
        · cases h
      · cases h
    · exact wordCl_noexc r x S1 h
    · cases h
end
/-! ### what is asked of a def that calls what it is handed -/
abbrev KV (B : Bx) (Q : VK) : PV → Mp → Rsv → Sto → Hp → Prop := fun v m' Rv' S' H' => ∀ y, RepV B m' Rv' S'.length H' v y → Q y H'
def RestP (B : Bx) (F : Mx) (d : WDef) (Q : VK) (H : Hp) : Prop := ∃ S m Rv, Fx.St B m Rv S H ∧ PostF B W0 m Rv S H (ssL (dens F d.rest) (wEnv d.names.length) S) { nx := fun _ H' => Q .non H', rt := Q }
theorem restP_of {B : Bx} {F : Mx} {d : WDef} {Q : VK} {H : Hp} {m : Mp} {Rv : Rsv} {S : Sto} {W : WXs} (s : Fx.St B m Rv S H) (h : Post B W m Rv S H (wordRest F d S) (KV B Q)) : RestP B F d Q H := by
  refine ⟨S, m, Rv, s, ?_⟩
  unfold wordRest at h
  cases er : ssL (dens F d.rest) (wEnv d.names.length) S with
  | nx ρ S1 => rw [er] at h; exact fun m' Rv' H' σ' e _ => h m' Rv' H' e .non repV_non'
  | ret v S1 => rw [er] at h; exact fun m' Rv' H' x e rx => h m' Rv' H' e x rx
  | exc x ρ S1 => rw [er] at h; exact h.elim
  | no => rw [er] at h; exact h.elim
def ClP (B : Bx) (F : Mx) (n : Nat) (l : List (Nat × Nat × List Ex)) (Q : VK) (cls : Value) (dd : Option Addr) (H : Hp) : Prop := ∃ x S m Rv, Fx.St B m Rv S H ∧ ExcRep B m Rv S.length H x cls dd ∧ Post B Ws0 m Rv S H (wordCl F n x S l) (KV B Q)
def TTw (B : Bx) (F : Mx) (d : WDef) : (XK → Hp → VK → Prop) → Hp → VK → Prop := fun tl H Q => tl (ClP B F d.names.length d.cl Q) H fun _ H' => RestP B F d Q H'
structure WdOk (B : Bx) (F : Mx) (k : Nat) (P : Program) (w : World) (K : PySem.W.Frag) (mg : Str → Option Value) (base : Heap) (g : Nat) (x : Str) : Prop where
  ex : ∃ (d : WDef) (F' : Mx) (f : Addr) (a : Str) (oc : Value) (od : Option Addr) (pg : Arguments) (bg : List Stmt) (sg : Scope) (dV kV doc pm cdv ct : Value) (an : Option Addr) (osl : Array (Option Value)),
    mg x = some (.ref f) ∧ PySem.W.keepIn K (.ref f) = true ∧ K.lookup f = some ⟨oc, od, .func (PySem.W.fnOf x x pg bg sg dV kV doc pm an cdv ct), osl⟩ ∧ PySem.W.codeIn K cdv x = true ∧ Binds K (PySem.W.fnOf x x pg bg sg dV kV doc pm an cdv ct) [a] [] ∧ FnScope d.names [a] sg ∧
    d.names[0]? = some a ∧ Vis sg a ∧ (a == ("__debug__" : Str)) = false ∧ (a == ("__classdict__" : Str)) = false ∧ (∀ act S, F.Wd g act S = wordRun F' d (act S)) ∧
    ∀ (X : Cx), X.prog = P → X.w = w → X.K = K → X.mg = mg → X.base = base → Room (3 * k + 2) X.A → ∀ q, GivesToN X d.names x sg f cdv bg a q (TTw B F' d)
/-- what the making of lambdas asks -/
def LamOk (B : Bx) (X : Cx) : Prop := ∃ cc P, X.env.code = .ref cc ∧ LamX.TabB X.base X.mg cc P ∧ (P, X.env.qual ++ "<lambda>") ∈ B.T ∧ ∀ p ∈ B.T, p.1 = P → p.2 = X.env.qual ++ "<lambda>"
theorem je_word {B : Bx} {W : WX} {X : Cx} {F : Mx} {k g : Nat} {x : Str} {body : Expr} {scope : Scope} {f : EF} {p lpos pos : Pos} (w : WdOk B F k X.prog X.w X.K X.mg X.base g x) (hg : Gl X x) (hdb : (x == ("__debug__" : Str)) = false) (lm : LamOk B X) (hr : Room (3 * k + 2) X.A) (L : LamX.LamS X.env.scope scope)
    (hbody : ∀ (A : Around) (outer : List PySem.Env) (s : Shared) (H : Hp) (E : XK) (f' c' : Addr), Room (3 * k) (A.deeper (LamX.lamEnv X scope s.heap.objs.size f' c')) → JE B (fun cls d _ H => E cls d H) (lamCxN X A outer s H E scope f' c') body f) :
    JE B W X (.Call (.Name x p) [.Lambda ⟨[], [], none, [], [], none, []⟩ body scope lpos] [] pos) (cWord (F.Wd g) f) := by
  obtain ⟨d, F', fa, a, oc, od, pg, bg, sg, dV, kV, doc, pm, cdv, ct, an, osl, h1, h2, h3, h4, h5, h6, h7, h8, h9, h10, h11, h12⟩ := w.ex
  obtain ⟨cc, P, l1, l2, l3, l4⟩ := lm
  refine ⟨PE.imp' (pe_lamcallN (T := B.T) (t := fun E => tJ B (fun cls d _ H => E cls d H) f) hg h1 h2 h3 h4 h5 h6 h7 h8 (h12 X rfl rfl rfl rfl rfl hr _) l2 l1 l3 l4 hr L rfl (fun _ _ _ _ _ => rfl) (fun A outer s H E f' c' hr' => (hbody A outer s H E f' c' hr').pe) hdb h9 h10) fun σ H Q h => ?_⟩
  obtain ⟨ρ, S, m, Rv, he, hs, hp⟩ := h
  refine ⟨hs.tabs, fun H1 x1 t1 => ?_⟩
  have e1 := Ext.ofN hs x1 t1
  have hp1 := Post.ext hs e1 hp
  refine ⟨ρ, S, m, Rv, he.stay (e1.stay hs), e1.st, ?_⟩
  unfold cWord at hp1
  rw [h11] at hp1
  cases er : f ρ S with
  | ok v S1 =>
    rw [er] at hp1
    intro m' Rv' H' e _ _
    exact restP_of e.st (Post.ext e1.st e hp1)
  | exc y S1 =>
    rw [er] at hp1
    intro m' Rv' H' c dd e q
    exact ⟨y, S1, m', Rv', e.st, q, (Post.ext e1.st e hp1).noexc (wordCl_noexc _)⟩
  | no =>
    rw [er] at hp1
    exact hp1.elim
end Fx

/-! Fx14: a look that says yes is a proof: expressions. -/
namespace Fx
open PySem PySem.Spec PyProof.Rows L2

theorem okx_star {x : Expr} (h : okx x = true) (es : List Expr) (env : PySem.Env) : starEach (x :: es) env = (false, eval x env) :: starEach es env := by
  cases x <;> first | rfl | cases h
theorem okx_fold {x : Expr} (h : okx x = true) (env : PySem.Env) (v : Value) : foldedSetIterable x env v = pure v := by
  cases x <;> first | rfl | cases h
theorem okx_marks {x : Expr} (h : okx x = true) (op : CmpOp) : behindInMarks op x = false := by
  cases x <;> first | rfl | cases h
theorem okx_ix {x : Expr} (h : okx x = true) : PlainIx x := by
  intro o i
  cases x <;> first | rfl | cases h
theorem okx_base {x : Expr} (h : okx x = true) (n : Str) (env : PySem.Env) : attributeBase x n env (eval x env) = eval x env := by
  cases x with
  | Call f as ks p =>
    cases as with
    | nil => cases h
    | cons a as => cases f <;> rfl
  | _ => first | rfl | cases h
theorem star_false : ∀ {xs : List Expr} (h : xs.all okx = true) (env : PySem.Env), ∀ y ∈ starEach xs env, y.1 = false
  | [], _, _, y, hy => absurd hy (by simp [starEach])
  | x :: xs, h, env, y, hy => by
    rw [List.all_cons, Bool.and_eq_true] at h
    rw [okx_star h.1] at hy
    rcases List.mem_cons.mp hy with rfl | hy
    · rfl
    · exact star_false h.2 env y hy
theorem plain_of {xs : List Expr} (h : xs.all okx = true) (pos : Pos) (env : PySem.Env) : (backTo pos (starEach xs env)).any (·.1) = false := by
  rw [List.any_eq_false]
  intro y hy
  unfold backTo at hy
  obtain ⟨z, hz, rfl⟩ := List.mem_map.mp hy
  have := star_false h env z hz
  simp [this]
theorem plain_all {xs : List Expr} (h : xs.all okx = true) (pos : Pos) (env : PySem.Env) : (backTo pos (starEach xs env)).all (fun x => !x.1) = true := by
  rw [List.all_eq_true]
  intro y hy
  unfold backTo at hy
  obtain ⟨z, hz, rfl⟩ := List.mem_map.mp hy
  have := star_false h env z hz
  simp [this]

def biNames : List Str := ["len", "sum", "all", "any", "max", "min", "abs", "int", "tuple", "list", "sorted", "range", "zip", "enumerate", "isinstance", "bool", "str", "ValueError"]
/-- an own class over ValueError without an __init__ of its own -/
structure ExcFacts (K : PySem.W.Frag) (mg : Str → Option Value) (x : Str) (C : Addr) : Prop where
  gP : mg x = some (.ref C)
  xP : PySem.W.excIn K C [.type "ValueError", .type "Exception", .type "BaseException", .type "object"] "ValueError.__new__" = true
  kP : PySem.W.keepIn K (.ref C) = true
  bP : PySem.W.subIn K (.ref C) (.type "BaseException") = some true
  tP : PySem.W.typeIn K (.ref C) = some (.type "type")
structure Good (B : Bx) (F : Mx) (k : Nat) (c : Ct) (X : Cx) : Prop where
  hK : B.K = X.K
  nd : X.N.Nodup
  un : X.A.units + 64 < cLine
  calm : c.calm = true → X.calm = true ∧ c.hot = false
  hr : c.calm = true → Room (3 * k) X.A
  fns : ∀ (g : Nat) (x : Str) (n : Nat), c.gs[g]? = some (x, GK.fn n) → ∃ f fd ps, B.fa g = some f ∧ X.mg x = some (.ref f) ∧ PySem.W.keepIn X.K (.ref f) = true ∧ Binds X.K fd ps [] ∧ (c.calm = true → FnOk X.prog X.w X.K X.mg X.base (L2N.CX X.prog X.w) (3 * k) f fd ps (spOf B (F.F g) n))
  len : ∀ (g : Nat) (x : Str) (n : Nat), c.gs[g]? = some (x, GK.fn n) → ∀ vs S, vs.length ≠ n → F.F g vs S = .no
  isF : ∀ g : Nat, F.isF g = true → ∃ (x : Str) (n : Nat), c.gs[g]? = some (x, GK.fn n)
  nums : ∀ (g : Nat) (x : Str) (i : Int), c.gs[g]? = some (x, GK.int i) → ∃ t, X.mg x = some (Value.int i t)
  bis : ∀ x ∈ biNames, X.mg x = none
  excs : ∀ (g : Nat) (x : Str), c.gs[g]? = some (x, GK.exc) → ∃ C, B.fa g = some C ∧ ExcFacts X.K X.mg x C
  subs : ∀ (g h : Nat) (b : Bool) (aC aD : Addr), F.sub g h = some b → B.fa g = some aC → B.fa h = some aD → PySem.W.exmOne X.K (.ref aC) (.ref aD) = some b ∧ PySem.W.kitOne X.K (.ref aC) (.ref aD) = some b ∧ ExcC X.K aC
  atts : ∀ (g : Nat) (n : Str) (C : Addr), F.att g n = true → B.fa g = some C → XfC X.K C ∧ PySem.W.findIn X.K (.ref C) n = some none
  ves : ∀ (g : Nat) (aC : Addr), F.ve g = true → B.fa g = some aC → PySem.W.kitOne X.K (.ref aC) (.type "ValueError") = some true ∧ ExcC X.K aC
  suite : c.suite = true → Suite B X
  hot : c.hot = true → L2H.HotC X
  lam : c.lam = true → LamOk B X ∧ Room (3 * k + 2) X.A
  wds : c.lam = true → ∀ (g : Nat) (x : Str), c.gs[g]? = some (x, GK.wd) → WdOk B F k X.prog X.w X.K X.mg X.base g x
structure On (c : Ct) (X : Cx) : Prop where
  N : X.N = c.N
  sc : X.env.scope = c.sc
  fn : ∀ x, c.fn x = true → X.fn x = true
theorem Good.blk {B : Bx} {F : Mx} {k : Nat} {c : Ct} {X : Cx} (g : Good B F k c X) (hc : c.calm = true) (s : Shared) (H : Hp) (scope : Scope) (C : Addr) (cl : List (Str × Addr)) (fp : List Addr) : Good B F k (c.blk scope) (X.blk s H scope (compEnvC scope cl C X.env) fp) :=
  ⟨g.hK, g.nd, g.un, g.calm, g.hr, g.fns, g.len, g.isF, g.nums, g.bis, g.excs, g.subs, g.atts, g.ves, fun h => (nomatch h), fun h => (by have h' : c.hot = true := h; rw [(g.calm hc).2] at h'; cases h'), g.lam, g.wds⟩
theorem Good.blkH {B : Bx} {F : Mx} {k : Nat} {c : Ct} {X : Cx} (g : Good B F k c X) (hc : c.calm = false) (hh : c.hot = true) (s : Shared) (H : Hp) (scope : Scope) (C : Addr) (cl : List (Str × Addr)) (fp : List Addr) : Good B F k (c.blk scope) (Fxh.blkH X s H scope (compEnvC scope cl C X.env) fp) :=
  ⟨g.hK, g.nd, g.un, fun h => (by have h' : c.calm = true := h; rw [hc] at h'; cases h'), fun h => (by have h' : c.calm = true := h; rw [hc] at h'; cases h'), fun gg x n e => let ⟨f, fd, ps, h1, h2, h3, h4, _⟩ := g.fns gg x n e; ⟨f, fd, ps, h1, h2, h3, h4, fun h => (by have h' : c.calm = true := h; rw [hc] at h'; cases h')⟩, g.len, g.isF, g.nums, g.bis, g.excs, g.subs, g.atts, g.ves, fun h => (nomatch h), fun _ => g.hot hh, g.lam, g.wds⟩
theorem On.blk {c : Ct} {X : Cx} (o : On c X) (s : Shared) (H : Hp) (scope : Scope) (C : Addr) (cl : List (Str × Addr)) (fp : List Addr) : On (c.blk scope) (X.blk s H scope (compEnvC scope cl C X.env) fp) :=
  ⟨o.N, by show relS scope X.env.scope = relS scope c.sc; rw [o.sc], fun x h => h⟩
theorem On.blkH {c : Ct} {X : Cx} (o : On c X) (s : Shared) (H : Hp) (scope : Scope) (C : Addr) (cl : List (Str × Addr)) (fp : List Addr) : On (c.blk scope) (Fxh.blkH X s H scope (compEnvC scope cl C X.env) fp) :=
  ⟨o.N, by show relS scope X.env.scope = relS scope c.sc; rw [o.sc], fun x h => h⟩
def SetOk (B : Bx) (W : WX) (X : Cx) (x : Expr) (f : EF) : Prop := isComp x = true → ∀ (i : Nat) (y : Str) (py spos : Pos) (h : EF), X.N[i]? = some y → X.env.scope.names.lookup y = some .local → swapsWith x (some (.Name y py)) spos.line X.env = pure true → (h = f ∨ h = cMu f) →
  JS B W X (.Assign [.Name y py] x spos) (sAsg (gVar i) h)
structure Snd (B : Bx) (F : Mx) (k : Nat) (y : Ex) : Prop where
  e : ∀ (c : Ct) (X : Cx) (W : WX) (x : Expr), Good B F k c X → On c X → L2N.Takes X W → (look y).e c x = true → JE B W X x (den F y).e ∧ (isF y = true → JF B W X x (den F y).e ∧ SetOk B W X x (den F y).e)
  t : ∀ (c : Ct) (X : Cx) (W : WX) (x : Expr), Good B F k c X → On c X → L2N.Takes X W → (look y).t c x = true → JT B W X x (den F y).t
  o : ∀ (c : Ct) (X : Cx) (W : WX) (x : Option Expr), Good B F k c X → On c X → L2N.Takes X W → (look y).o c x = true → JO B W X x (den F y).o
  i : ∀ (c : Ct) (X : Cx) (W : WX) (t x : Expr), Good B F k c X → On c X → L2N.Takes X W → okx x = true → (look y).i c t x = true → JI B W X t x (den F y).i
  g : ∀ (c : Ct) (X : Cx) (x : Expr), Good B F k c X → On c X → (look y).g c x = true → JG B X x (gIs y) (den F y).g
  s : ∀ (c : Ct) (X : Cx) (W : WX) (x : Stmt), Good B F k c X → On c X → L2N.Takes X W → PassesOwn (model X.prog X.w) X.A X.env X.xe → (look y).s c x = true → JS B W X x (den F y).s
def Dflt (x : Expr) : Prop := ∀ (env : PySem.Env) (whole : Sem Value), isTrue x env whole = (do let v ← whole; standAt x.pos; holding [v] (truthy v))
section
variable {B : Bx} {F : Mx} {k : Nat} {e : Ex} {f : EF} {l : Ct → Expr → Bool}
theorem snd_e (hd : den F e = dE f) (hl : look e = lE l) (hn : isF e = false) (h : ∀ (c : Ct) (X : Cx) (W : WX) (x : Expr), Good B F k c X → On c X → L2N.Takes X W → l c x = true → Dflt x ∧ JE B W X x f) : Snd B F k e := by
  refine ⟨?_, ?_, ?_, ?_, ?_, ?_⟩
  · intro c X W x g o tk q
    rw [hd]
    rw [hl] at q
    exact ⟨(h c X W x g o tk q).2, fun z => by rw [hn] at z; cases z⟩
  · intro c X W x g o tk q
    rw [hd]
    rw [hl] at q
    obtain ⟨h1, h2⟩ := h c X W x g o tk q
    exact jt_tru g.hK h2 (h1 X.env)
  · intro c X W x g o tk q
    rw [hd]
    rw [hl] at q
    obtain ⟨y, rfl, q2⟩ := anyO_some (show anyO x (l c) = true from q)
    exact jo_some (h c X W y g o tk q2).2
  · intro c X W t x g o tk _ q
    rw [hl] at q
    cases q
  · intro c X x g o q
    rw [hl] at q
    cases q
  · intro c X W x g o tk po q
    rw [hl] at q
    cases q
/-- .. a new list -/
theorem snd_f (hd : den F e = dE f) {lt : Ct → Expr → Bool} (hl : look e = lET l lt) (ht : ∀ c x, lt c x = true → l c x = true ∧ Dflt x) (h : ∀ (c : Ct) (X : Cx) (W : WX) (x : Expr), Good B F k c X → On c X → L2N.Takes X W → l c x = true → JF B W X x f ∧ SetOk B W X x f) : Snd B F k e := by
  refine ⟨?_, ?_, ?_, ?_, ?_, ?_⟩
  · intro c X W x g o tk q
    rw [hd]
    rw [hl] at q
    obtain ⟨h1, h2⟩ := h c X W x g o tk q
    exact ⟨h1.je, fun _ => ⟨h1, h2⟩⟩
  · intro c X W x g o tk q
    rw [hd]
    rw [hl] at q
    obtain ⟨q1, q2⟩ := ht c x q
    exact jt_tru g.hK (h c X W x g o tk q1).1.je (q2 X.env)
  · intro c X W x g o tk q
    rw [hd]
    rw [hl] at q
    obtain ⟨y, rfl, q2⟩ := anyO_some (show anyO x (l c) = true from q)
    exact jo_some (h c X W y g o tk q2).1.je
  · intro c X W t x g o tk _ q
    rw [hl] at q
    cases q
  · intro c X x g o q
    rw [hl] at q
    cases q
  · intro c X W x g o tk po q
    rw [hl] at q
    cases q
/-- .. an expression with a test of its own -/
theorem snd_t {t : TF} {lt : Ct → Expr → Bool} (hd : den F e = dET f t) (hl : look e = lET l lt) (hn : isF e = false) (h : ∀ (c : Ct) (X : Cx) (W : WX) (x : Expr), Good B F k c X → On c X → L2N.Takes X W → l c x = true → JE B W X x f)
    (h2 : ∀ (c : Ct) (X : Cx) (W : WX) (x : Expr), Good B F k c X → On c X → L2N.Takes X W → lt c x = true → JT B W X x t) : Snd B F k e := by
  refine ⟨?_, ?_, ?_, ?_, ?_, ?_⟩
  · intro c X W x g o tk q
    rw [hd]
    rw [hl] at q
    exact ⟨h c X W x g o tk q, fun z => by rw [hn] at z; cases z⟩
  · intro c X W x g o tk q
    rw [hd]
    rw [hl] at q
    exact h2 c X W x g o tk q
  · intro c X W x g o tk q
    rw [hd]
    rw [hl] at q
    obtain ⟨y, rfl, q2⟩ := anyO_some (show anyO x (l c) = true from q)
    exact jo_some (h c X W y g o tk q2)
  · intro c X W t x g o tk _ q
    rw [hl] at q
    cases q
  · intro c X x g o q
    rw [hl] at q
    cases q
  · intro c X W x g o tk po q
    rw [hl] at q
    cases q
theorem snd_o {f : OF} {l : Ct → Option Expr → Bool} (hd : den F e = dO f) (hl : look e = lO l) (h : ∀ (c : Ct) (X : Cx) (W : WX) (x : Option Expr), l c x = true → JO B W X x f) : Snd B F k e := by
  refine ⟨?_, ?_, ?_, ?_, ?_, ?_⟩
  · intro c X W x g o tk q
    rw [hl] at q; cases q
  · intro c X W x g o tk q
    rw [hl] at q; cases q
  · intro c X W x g o tk q
    rw [hd]
    rw [hl] at q
    exact h c X W x q
  · intro c X W t x g o tk _ q
    rw [hl] at q; cases q
  · intro c X x g o q
    rw [hl] at q; cases q
  · intro c X W x g o tk po q
    rw [hl] at q; cases q
theorem snd_i {f : IF} {l : Ct → Expr → Expr → Bool} (hd : den F e = dI f) (hl : look e = lI l) (h : ∀ (c : Ct) (X : Cx) (W : WX) (t x : Expr), Good B F k c X → On c X → L2N.Takes X W → okx x = true → l c t x = true → JI B W X t x f) : Snd B F k e := by
  refine ⟨?_, ?_, ?_, ?_, ?_, ?_⟩
  · intro c X W x g o tk q
    rw [hl] at q; cases q
  · intro c X W x g o tk q
    rw [hl] at q; cases q
  · intro c X W x g o tk q
    rw [hl] at q; cases q
  · intro c X W t x g o tk hx q
    rw [hd]
    rw [hl] at q
    exact h c X W t x g o tk hx q
  · intro c X x g o q
    rw [hl] at q; cases q
  · intro c X W x g o tk po q
    rw [hl] at q; cases q
theorem snd_g {f : GF} {l : Ct → Expr → Bool} (hd : den F e = dG f) (hl : look e = lG l) (h : ∀ (c : Ct) (X : Cx) (x : Expr), Good B F k c X → On c X → l c x = true → JG B X x (gIs e) f) : Snd B F k e := by
  refine ⟨?_, ?_, ?_, ?_, ?_, ?_⟩
  · intro c X W x g o tk q
    rw [hl] at q; cases q
  · intro c X W x g o tk q
    rw [hl] at q; cases q
  · intro c X W x g o tk q
    rw [hl] at q; cases q
  · intro c X W t x g o tk hx q
    rw [hl] at q; cases q
  · intro c X x g o q
    rw [hd]
    rw [hl] at q
    exact h c X x g o q
  · intro c X W x g o tk po q
    rw [hl] at q; cases q
theorem snd_s {f : SF} {l : Ct → Stmt → Bool} (hd : den F e = dS f) (hl : look e = lS l) (h : ∀ (c : Ct) (X : Cx) (W : WX) (x : Stmt), Good B F k c X → On c X → L2N.Takes X W → PassesOwn (model X.prog X.w) X.A X.env X.xe → l c x = true → JS B W X x f) : Snd B F k e := by
  refine ⟨?_, ?_, ?_, ?_, ?_, ?_⟩
  · intro c X W x g o tk q
    rw [hl] at q; cases q
  · intro c X W x g o tk q
    rw [hl] at q; cases q
  · intro c X W x g o tk q
    rw [hl] at q; cases q
  · intro c X W t x g o tk hx q
    rw [hl] at q; cases q
  · intro c X x g o q
    rw [hl] at q; cases q
  · intro c X W x g o tk po q
    rw [hd]
    rw [hl] at q
    exact h c X W x g o tk po q
end
/-! ### lists of expressions -/
section
variable {B : Bx} {F : Mx} {k : Nat} {c : Ct} {X : Cx} {W : WX}
theorem ja_of (g : Good B F k c X) (o : On c X) (tk : L2N.Takes X W) : ∀ {es : List Ex} {xs : List Expr}, (∀ e ∈ es, Snd B F k e) → allE (looks es) c xs = true → JA B W X xs (esL (dens F es)) ∧ xs.all okx = true ∧ xs.length = es.length
  | [], xs, _, h => by
    cases xs with
    | nil => exact ⟨ja_nil, rfl, rfl⟩
    | cons x xs => cases h
  | e :: es, xs, hs, h => by
    cases xs with
    | nil => cases h
    | cons x xs =>
      have h' : (okx x && (look e).e c x && allE (looks es) c xs) = true := h
      rw [Bool.and_eq_true, Bool.and_eq_true] at h'
      obtain ⟨⟨h1, h2⟩, h3⟩ := h'
      obtain ⟨k1, k2, k3⟩ := ja_of g o tk (fun e he => hs e (List.mem_cons_of_mem _ he)) h3
      refine ⟨ja_cons ((hs e List.mem_cons_self).e c X W x g o tk h2).1 k1 (okx_star h1 _ _), by rw [List.all_cons, h1, k2]; rfl, by rw [List.length_cons, List.length_cons, k3]⟩
theorem je_bools (g : Good B F k c X) (o : On c X) (tk : L2N.Takes X W) {op : BoolOp} {pos : Pos} : ∀ {es : List Ex} {xs : List Expr}, (∀ e ∈ es, Snd B F k e) → allE (looks es) c xs = true → es ≠ [] → JE B W X (.BoolOp op xs pos) (cBools op ((dens F es).map D.e))
  | [], xs, _, h, n => absurd rfl n
  | e :: es, xs, hs, h, _ => by
    cases xs with
    | nil => cases h
    | cons x xs =>
      have h' : (okx x && (look e).e c x && allE (looks es) c xs) = true := h
      rw [Bool.and_eq_true, Bool.and_eq_true] at h'
      obtain ⟨⟨h1, h2⟩, h3⟩ := h'
      have q := ((hs e List.mem_cons_self).e c X W x g o tk h2).1
      cases es with
      | nil =>
        cases xs with
        | nil => exact je_one q
        | cons _ _ => cases h3
      | cons e2 es =>
        cases xs with
        | nil => cases h3
        | cons x2 xs =>
          have r := je_bools g o tk (op := op) (pos := pos) (fun e he => hs e (List.mem_cons_of_mem _ he)) h3 (by simp)
          cases op with
          | And => exact je_and q r
          | Or => exact je_or q r
theorem jw_bools (g : Good B F k c X) (o : On c X) (tk : L2N.Takes X W) {op : BoolOp} {pos : Pos} : ∀ {es : List Ex} {xs : List Expr}, (∀ e ∈ es, Snd B F k e) → allT (looks es) c xs = true → es ≠ [] → JW B W X (.BoolOp op xs pos) (tBools op ((dens F es).map D.t))
  | [], xs, _, h, n => absurd rfl n
  | e :: es, xs, hs, h, _ => by
    cases xs with
    | nil => cases h
    | cons x xs =>
      have h' : ((look e).t c x && allT (looks es) c xs) = true := h
      rw [Bool.and_eq_true] at h'
      obtain ⟨h2, h3⟩ := h'
      have q := (hs e List.mem_cons_self).t c X W x g o tk h2
      cases es with
      | nil =>
        cases xs with
        | nil =>
          cases op with
          | And => exact jw_and1 q
          | Or => exact jw_or1 q
        | cons _ _ => cases h3
      | cons e2 es =>
        cases xs with
        | nil => cases h3
        | cons x2 xs =>
          have r := jw_bools g o tk (op := op) (pos := pos) (fun e he => hs e (List.mem_cons_of_mem _ he)) h3 (by simp)
          cases op with
          | And => exact jw_and q r
          | Or => exact jw_or q r
theorem gl_of (o : On c X) {x : Str} (h : glC c.sc x = true) : Gl X x := by
  unfold glC at h
  show X.env.scope.names.lookup x = _
  rw [o.sc]
  split at h
  · assumption
  · cases h
theorem bi_of (o : On c X) (g : Good B F k c X) {x y : Str} (h : biC c x y = true) (hm : y ∈ biNames) : x = y ∧ Gl X x ∧ X.mg x = none := by
  unfold biC at h
  rw [Bool.and_eq_true] at h
  have e := eq_of_beq h.1
  subst e
  exact ⟨rfl, gl_of o h.2, g.bis _ hm⟩
theorem okName_of {x : Str} (h : okName x = true) : (x == ("__debug__" : Str)) = false ∧ (x == ("__classdict__" : Str)) = false ∧ x ≠ "__name__" := by
  unfold okName at h
  rw [Bool.and_eq_true, Bool.and_eq_true] at h
  obtain ⟨⟨h1, h2⟩, h3⟩ := h
  refine ⟨by simpa using h1, by simpa using h2, fun e => ?_⟩
  rw [e] at h3
  simp at h3
theorem nm_of (o : On c X) {i : Nat} {x : Str} (h : nameIs c i x = true) : X.N[i]? = some x := by
  unfold nameIs at h
  rw [o.N]
  split at h
  · rename_i y e; rw [e, eq_of_beq h]
  · cases h
theorem vis_of (o : On c X) {x : Str} (h : visC c.sc x = true) : Vis X.env.scope x := by
  unfold visC at h
  unfold Vis
  rw [o.sc]
  split at h
  · exact .inl (by assumption)
  · exact .inr (.inl (by assumption))
  · exact .inr (.inr (by assumption))
  · cases h
theorem loc_of (o : On c X) {x : Str} (h : locC c x = true) : Loc X.env.scope x ∧ (X.fn x = true ∨ X.env.scope.names.lookup x = some .local) := by
  unfold locC at h
  unfold L2.Loc
  rw [o.sc]
  split at h
  · exact ⟨.inl (by assumption), .inr (by assumption)⟩
  · exact ⟨.inr (by assumption), .inl (o.fn x h)⟩
  · cases h
theorem isLocal_of (o : On c X) {x : Str} (h : isLocal c.sc x = true) : X.env.scope.names.lookup x = some .local := by
  unfold isLocal at h
  rw [o.sc]
  split at h
  · assumption
  · cases h
theorem glo_of (o : On c X) {g : Nat} {x : Str} {kd : GK} (h : glo c g x = some kd) : c.gs[g]? = some (x, kd) ∧ Gl X x ∧ okName x = true := by
  unfold glo at h
  split at h
  · rename_i y k e
    split at h
    · rename_i hb
      cases h
      rw [Bool.and_eq_true, Bool.and_eq_true] at hb
      have := eq_of_beq hb.1.1
      subst this
      exact ⟨e, gl_of o hb.1.2, hb.2⟩
    · cases h
  · cases h
theorem ho_none {op : Operator} : OpR X (binaryOp op) (rO2 B fun _ _ _ => none) := fun _ _ _ _ _ _ _ _ _ _ _ _ ⟨_, _, _, _, _, _, _, _, h⟩ => h.elim
theorem ho_bin (op : Operator) : OpR X (binaryOp op) (rO2 B (denBin op)) := by
  cases op with
  | Add => exact ho_add
  | Sub => exact ho_sub
  | Mult => exact ho_mul
  | FloorDiv => exact ho_div
  | Mod => exact ho_mod
  | Pow => exact ho_pow
  | _ => exact ho_none
theorem ho_cmpO (g : Good B F k c X) (op : CmpOp) : OpR X (compareOp op) (rO2 B (denCmp op)) := by
  cases op with
  | Eq => exact ho_eq g.hK g.un
  | NotEq => exact ho_ne g.hK g.un
  | Lt => exact ho_lt
  | LtE => exact ho_le
  | Gt => exact ho_gt
  | GtE => exact ho_ge
  | Is => exact ho_is
  | IsNot => exact ho_isnot
  | In => exact ho_in g.hK
  | NotIn => exact ho_notin g.hK
theorem je_bis (g : Good B F k c X) (o : On c X) {kd : Bi} (hq : (c.calm || !needsCalm kd) = true) (hf : ∀ s, kd = s → s ≠ .list ∧ s ≠ .sorted) {y : Str} {q p : Pos} {a : Expr} {es : List Expr} {kf : AF} (h : biC c y kd.nm = true) (ha : JA B W X (a :: es) kf) (hok : (a :: es).all okx = true) :
    JE B W X (.Call (.Name y q) (a :: es) [] p) (cBi (denBi kd) kf) := by
  rw [List.all_cons, Bool.and_eq_true] at hok
  have hs := okx_star hok.1 es X.env
  have hpl := plain_of hok.2 p X.env
  cases kd with
  | len => obtain ⟨rfl, h1, h2⟩ := bi_of o g h (by decide); exact je_bi (hc_len g.hK) h1 h2 (by decide +kernel) ha (by decide) (by decide) hs hpl
  | sum => obtain ⟨rfl, h1, h2⟩ := bi_of o g h (by decide); exact je_bi (hc_sum (g.calm (by simpa [needsCalm] using hq)).1) h1 h2 (by decide +kernel) ha (by decide) (by decide) hs hpl
  | all => obtain ⟨rfl, h1, h2⟩ := bi_of o g h (by decide); exact je_bi (hc_all (g.calm (by simpa [needsCalm] using hq)).1) h1 h2 (by decide +kernel) ha (by decide) (by decide) hs hpl
  | any => obtain ⟨rfl, h1, h2⟩ := bi_of o g h (by decide); exact je_bi (hc_any (g.calm (by simpa [needsCalm] using hq)).1) h1 h2 (by decide +kernel) ha (by decide) (by decide) hs hpl
  | max => obtain ⟨rfl, h1, h2⟩ := bi_of o g h (by decide); exact je_bi (hc_max (g.calm (by simpa [needsCalm] using hq)).1) h1 h2 (by decide +kernel) ha (by decide) (by decide) hs hpl
  | min => obtain ⟨rfl, h1, h2⟩ := bi_of o g h (by decide); exact je_bi (hc_min (g.calm (by simpa [needsCalm] using hq)).1) h1 h2 (by decide +kernel) ha (by decide) (by decide) hs hpl
  | abs => obtain ⟨rfl, h1, h2⟩ := bi_of o g h (by decide); exact je_bi hc_abs h1 h2 (by decide +kernel) ha (by decide) (by decide) hs hpl
  | int => obtain ⟨rfl, h1, h2⟩ := bi_of o g h (by decide); exact je_ty hc_int h1 h2 (by decide +kernel) ha (by decide) (by decide) hs hpl
  | tuple => obtain ⟨rfl, h1, h2⟩ := bi_of o g h (by decide); exact je_ty hc_tuple h1 h2 (by decide +kernel) ha (by decide) (by decide) hs hpl
  | str => obtain ⟨rfl, h1, h2⟩ := bi_of o g h (by decide); exact je_ty hc_str h1 h2 (by decide +kernel) ha (by decide) (by decide) hs hpl
  | list => exact absurd rfl (hf _ rfl).1
  | sorted => exact absurd rfl (hf _ rfl).2
theorem jf_list (g : Good B F k c X) (o : On c X) {y : Str} {q p : Pos} {a : Expr} {es : List Expr} {kf : AF} (h : biC c y (Bi.nm .list) = true) (ha : JA B W X (a :: es) kf) (hok : (a :: es).all okx = true) : JF B W X (.Call (.Name y q) (a :: es) [] p) (cBi bList kf) := by
  rw [List.all_cons, Bool.and_eq_true] at hok
  obtain ⟨rfl, h1, h2⟩ := bi_of o g h (by decide)
  exact jf_ty bList_lst (hc_list g.hK) h1 h2 (by decide +kernel) ha (by decide) (by decide) (okx_star hok.1 es X.env) (plain_of hok.2 p X.env)
theorem jf_sorted (g : Good B F k c X) (o : On c X) {y : Str} {q p : Pos} {a : Expr} {es : List Expr} {kf : AF} (h : biC c y (Bi.nm .sorted) = true) (ha : JA B W X (a :: es) kf) (hok : (a :: es).all okx = true) : JF B W X (.Call (.Name y q) (a :: es) [] p) (cBi bSorted kf) := by
  rw [List.all_cons, Bool.and_eq_true] at hok
  obtain ⟨rfl, h1, h2⟩ := bi_of o g h (by decide)
  exact jf_bi bSorted_lst (hc_sorted g.hK) h1 h2 (by decide +kernel) ha (by decide) (by decide) (okx_star hok.1 es X.env) (plain_of hok.2 p X.env)
theorem len_ne {α : Type} {l : List α} (h : (!l.isEmpty) = true) : ∃ a r, l = a :: r := by
  cases l with
  | nil => cases h
  | cons a r => exact ⟨a, r, rfl⟩
end
end Fx

/-! Fx15: a look that says yes is a proof: each kind of text. -/
namespace Fx
open PySem PySem.Spec PyProof.Rows L2
section
variable {B : Bx} {F : Mx} {k : Nat}
theorem and2 {a b : Bool} (h : (a && b) = true) : a = true ∧ b = true := by rwa [Bool.and_eq_true] at h
theorem notComp {W : WX} {X : Cx} {x : Expr} {f : EF} (h : isComp x = false) : SetOk B W X x f := fun z => by rw [h] at z; cases z
theorem snd_int {i : Int} : Snd B F k (.int i) := snd_e rfl rfl rfl fun c X W x g o tk h => by
  obtain ⟨j, h1, h2⟩ := anyO_some h
  obtain ⟨kk, p, rfl⟩ := vInt_eq h1
  have := of_decide_eq_true h2
  subst this
  exact ⟨fun _ _ => rfl, je_lit_int⟩
theorem snd_bl {b : Bool} : Snd B F k (.bl b) := snd_e rfl rfl rfl fun c X W x g o tk h => by
  obtain ⟨j, h1, h2⟩ := anyO_some h
  obtain ⟨kk, p, rfl⟩ := vBl_eq h1
  have := eq_of_beq h2
  subst this
  exact ⟨fun _ _ => rfl, je_lit_bl⟩
theorem snd_non : Snd B F k .non := snd_e rfl rfl rfl fun c X W x g o tk h => by
  obtain ⟨j, h1⟩ := Option.isSome_iff_exists.mp h
  obtain ⟨kk, p, rfl⟩ := vNon_eq h1
  exact ⟨fun _ _ => rfl, je_lit_non⟩
theorem snd_str {b : Str} : Snd B F k (.str b) := snd_e rfl rfl rfl fun c X W x g o tk h => by
  obtain ⟨j, h1, h2⟩ := anyO_some h
  obtain ⟨kk, p, rfl⟩ := vStr_eq h1
  have := eq_of_beq h2
  subst this
  exact ⟨fun _ _ => rfl, je_lit_str⟩
theorem snd_var {i : Nat} : Snd B F k (.var i) := snd_e rfl rfl rfl fun c X W x g o tk h => by
  obtain ⟨y, h1, h2⟩ := anyO_some h
  obtain ⟨p, rfl⟩ := vName_eq h1
  obtain ⟨h2, h3⟩ := and2 h2
  obtain ⟨h2, h4⟩ := and2 h2
  obtain ⟨n1, n2, n3⟩ := okName_of h3
  exact ⟨fun _ _ => rfl, je_var (nm_of o h2) (vis_of o h4) n1 n2⟩
theorem snd_gint {j : Nat} {i : Int} : Snd B F k (.gint j i) := snd_e rfl rfl rfl fun c X W x g o tk h => by
  obtain ⟨y, h1, h2⟩ := anyO_some h
  obtain ⟨p, rfl⟩ := vName_eq h1
  unfold intC at h2
  split at h2
  · rename_i z e
    have := of_decide_eq_true h2
    subst this
    obtain ⟨q1, q2, q3⟩ := glo_of o e
    obtain ⟨t, ht⟩ := g.nums _ _ _ q1
    exact ⟨fun _ _ => rfl, je_glob (v := .int i) q2 ht ⟨t, rfl⟩ (fun _ _ _ _ => repV_int') (okName_of q3).1⟩
  · cases h2
theorem snd_gfn {j : Nat} : Snd B F k (.gfn j) := snd_e rfl rfl rfl fun c X W x g o tk h => by
  obtain ⟨y, h1, h2⟩ := anyO_some h
  obtain ⟨p, rfl⟩ := vName_eq h1
  split at h2
  · rename_i n e
    obtain ⟨q1, q2, q3⟩ := glo_of o e
    obtain ⟨f, fd, ps, f1, f2, _⟩ := g.fns _ _ _ q1
    exact ⟨fun _ _ => rfl, je_glob (v := .ref f) q2 f2 rfl (fun _ _ _ _ => by unfold RepV; exact ⟨f, f1, rfl⟩) (okName_of q3).1⟩
  · cases h2
variable {a b d : Ex}
theorem snd_bin {op : Operator} (ha : Snd B F k a) (hb : Snd B F k b) : Snd B F k (.bin op a b) := snd_e rfl rfl rfl fun c X W x g o tk h => by
  obtain ⟨⟨l, op', r⟩, h1, h2⟩ := anyO_some h
  obtain ⟨p, rfl⟩ := vBin_eq h1
  obtain ⟨h2, h3⟩ := and2 h2
  obtain ⟨h2, h4⟩ := and2 h2
  have := of_decide_eq_true h2
  subst this
  exact ⟨fun _ _ => rfl, je_bin (ho_bin _) (ha.e c X W _ g o tk h4).1 (hb.e c X W _ g o tk h3).1⟩
theorem snd_addL (ha : Snd B F k a) (hb : Snd B F k b) : Snd B F k (.addL a b) := snd_f rfl (lt := fun c x => anyO (vBin x) fun (l, o, r) => decide (.Add = o) && (look a).e c l && (look b).e c r) rfl (fun c x h => ⟨h, by
    obtain ⟨⟨l, op', r⟩, h1, h2⟩ := anyO_some h
    obtain ⟨p, rfl⟩ := vBin_eq h1
    exact fun _ _ => rfl⟩) fun c X W x g o tk h => by
  obtain ⟨⟨l, op', r⟩, h1, h2⟩ := anyO_some h
  obtain ⟨p, rfl⟩ := vBin_eq h1
  obtain ⟨h2, h3⟩ := and2 h2
  obtain ⟨h2, h4⟩ := and2 h2
  have := of_decide_eq_true h2
  subst this
  exact ⟨jf_bin oAddL_lst ho_addF (ha.e c X W _ g o tk h4).1 (hb.e c X W _ g o tk h3).1, notComp rfl⟩
theorem snd_mulL (ha : Snd B F k a) (hb : Snd B F k b) : Snd B F k (.mulL a b) := snd_f rfl (lt := fun c x => anyO (vBin x) fun (l, o, r) => decide (.Mult = o) && (look a).e c l && (look b).e c r) rfl (fun c x h => ⟨h, by
    obtain ⟨⟨l, op', r⟩, h1, h2⟩ := anyO_some h
    obtain ⟨p, rfl⟩ := vBin_eq h1
    exact fun _ _ => rfl⟩) fun c X W x g o tk h => by
  obtain ⟨⟨l, op', r⟩, h1, h2⟩ := anyO_some h
  obtain ⟨p, rfl⟩ := vBin_eq h1
  obtain ⟨h2, h3⟩ := and2 h2
  obtain ⟨h2, h4⟩ := and2 h2
  have := of_decide_eq_true h2
  subst this
  exact ⟨jf_bin oMulL_lst ho_mulF (ha.e c X W _ g o tk h4).1 (hb.e c X W _ g o tk h3).1, notComp rfl⟩
theorem snd_neg (ha : Snd B F k a) : Snd B F k (.neg a) := snd_e rfl rfl rfl fun c X W x g o tk h => by
  obtain ⟨⟨op', l⟩, h1, h2⟩ := anyO_some h
  obtain ⟨p, rfl⟩ := vUn_eq h1
  obtain ⟨h2, h3⟩ := and2 h2
  have := of_decide_eq_true h2
  subst this
  exact ⟨fun _ _ => rfl, je_un ho_neg (ha.e c X W _ g o tk h3).1⟩
theorem snd_cmp {op : CmpOp} (ha : Snd B F k a) (hb : Snd B F k b) : Snd B F k (.cmp op a b) := by
  have key : ∀ (c : Ct) (X : Cx) (W : WX) (x : Expr), Good B F k c X → On c X → L2N.Takes X W → (anyO (vCmp x) fun (l, o, r) => decide (op = o) && okx r && (look a).e c l && (look b).e c r) = true →
      ∃ l r p, x = .Compare l [op] [r] p ∧ okx r = true ∧ JE B W X l (den F a).e ∧ JE B W X r (den F b).e := fun c X W x g o tk h => by
    obtain ⟨⟨l, op', r⟩, h1, h2⟩ := anyO_some h
    obtain ⟨p, rfl⟩ := vCmp_eq h1
    obtain ⟨h2, h3⟩ := and2 h2
    obtain ⟨h2, h4⟩ := and2 h2
    obtain ⟨h2, h5⟩ := and2 h2
    have := of_decide_eq_true h2
    subst this
    exact ⟨l, r, p, rfl, h5, (ha.e c X W _ g o tk h4).1, (hb.e c X W _ g o tk h3).1⟩
  refine snd_t (lt := fun c x => anyO (vCmp x) fun (l, o, r) => decide (op = o) && okx r && (look a).e c l && (look b).e c r) rfl rfl rfl (fun c X W x g o tk h => ?_) fun c X W x g o tk h => ?_
  · obtain ⟨l, r, p, rfl, h5, q1, q2⟩ := key c X W x g o tk h
    exact je_cmp (ho_cmpO g op) q1 q2 (okx_marks h5 _)
  · obtain ⟨l, r, p, rfl, h5, q1, q2⟩ := key c X W x g o tk h
    exact jt_cmp (ho_cmpO g op) q1 q2 (okx_marks h5 _)
theorem snd_chain {op op1 : CmpOp} (ha : Snd B F k a) (hb : Snd B F k b) (hd : Snd B F k d) : Snd B F k (.chain op op1 a b d) := by
  have key : ∀ (c : Ct) (X : Cx) (W : WX) (x : Expr), Good B F k c X → On c X → L2N.Takes X W → (anyO (vChain x) fun (l, o, o', m, r) => decide (op = o) && decide (op1 = o') && okx r && (look a).e c l && (look b).e c m && (look d).e c r) = true →
      ∃ l m r p, x = .Compare l [op, op1] [m, r] p ∧ okx r = true ∧ JE B W X l (den F a).e ∧ JE B W X m (den F b).e ∧ JE B W X r (den F d).e := fun c X W x g o tk h => by
    obtain ⟨⟨l, o1, o2, m, r⟩, h1, h2⟩ := anyO_some h
    obtain ⟨p, rfl⟩ := vChain_eq h1
    obtain ⟨h2, h3⟩ := and2 h2
    obtain ⟨h2, h4⟩ := and2 h2
    obtain ⟨h2, h5⟩ := and2 h2
    obtain ⟨h2, h6⟩ := and2 h2
    obtain ⟨h2, h7⟩ := and2 h2
    have := of_decide_eq_true h2
    subst this
    have := of_decide_eq_true h7
    subst this
    exact ⟨l, m, r, p, rfl, h6, (ha.e c X W _ g o tk h5).1, (hb.e c X W _ g o tk h4).1, (hd.e c X W _ g o tk h3).1⟩
  refine snd_t (lt := fun c x => anyO (vChain x) fun (l, o, o', m, r) => decide (op = o) && decide (op1 = o') && okx r && (look a).e c l && (look b).e c m && (look d).e c r) rfl rfl rfl (fun c X W x g o tk h => ?_) fun c X W x g o tk h => ?_
  · obtain ⟨l, m, r, p, rfl, h5, q1, q2, q3⟩ := key c X W x g o tk h
    exact je_chain (ho_cmpO g op) (ho_cmpO g op1) q1 q2 q3 (okx_marks h5 _)
  · obtain ⟨l, m, r, p, rfl, h5, q1, q2, q3⟩ := key c X W x g o tk h
    exact jt_chain (ho_cmpO g op) (ho_cmpO g op1) q1 q2 q3 (okx_marks h5 _)
theorem ne_of_isEmpty {es : List Ex} (h : (!es.isEmpty) = true) : es ≠ [] := by
  intro e; subst e; cases h
theorem snd_bool {op : BoolOp} {es : List Ex} (hs : ∀ e ∈ es, Snd B F k e) : Snd B F k (.bool op es) := by
  refine snd_t rfl rfl rfl (fun c X W x g o tk h => ?_) fun c X W x g o tk h => ?_
  · obtain ⟨⟨op', xs⟩, h1, h2⟩ := anyO_some h
    obtain ⟨p, rfl⟩ := vBool_eq h1
    obtain ⟨h2, h3⟩ := and2 h2
    obtain ⟨h2, h4⟩ := and2 h2
    have := of_decide_eq_true h2
    subst this
    exact je_bools g o tk hs h4 (ne_of_isEmpty h3)
  · obtain ⟨⟨op', xs⟩, h1, h2⟩ := anyO_some h
    obtain ⟨p, rfl⟩ := vBool_eq h1
    obtain ⟨h2, h3⟩ := and2 h2
    obtain ⟨h2, h4⟩ := and2 h2
    have := of_decide_eq_true h2
    subst this
    exact (jw_bools g o tk hs h4 (ne_of_isEmpty h3)).jt
theorem snd_not (ha : Snd B F k a) : Snd B F k (.not a) := by
  refine snd_t rfl rfl rfl (fun c X W x g o tk h => ?_) fun c X W x g o tk h => ?_
  · obtain ⟨⟨op', l⟩, h1, h2⟩ := anyO_some h
    obtain ⟨p, rfl⟩ := vUn_eq h1
    obtain ⟨h2, h3⟩ := and2 h2
    have := of_decide_eq_true h2
    subst this
    exact je_not (ha.e c X W _ g o tk h3).1
  · obtain ⟨⟨op', l⟩, h1, h2⟩ := anyO_some h
    obtain ⟨p, rfl⟩ := vUn_eq h1
    obtain ⟨h2, h3⟩ := and2 h2
    have := of_decide_eq_true h2
    subst this
    exact jt_not (ha.t c X W _ g o tk h3)
theorem snd_ite (ht : Snd B F k d) (ha : Snd B F k a) (hb : Snd B F k b) : Snd B F k (.ite d a b) := by
  refine snd_t rfl rfl rfl (fun c X W x g o tk h => ?_) fun c X W x g o tk h => by cases h
  obtain ⟨⟨u, l, r⟩, h1, h2⟩ := anyO_some h
  obtain ⟨p, rfl⟩ := vIte_eq h1
  obtain ⟨h2, h3⟩ := and2 h2
  obtain ⟨h2, h4⟩ := and2 h2
  exact je_ite (ht.t c X W _ g o tk h2) (ha.e c X W _ g o tk h4).1 (hb.e c X W _ g o tk h3).1
theorem snd_tup {es : List Ex} (hs : ∀ e ∈ es, Snd B F k e) : Snd B F k (.tup es) := snd_e rfl rfl rfl fun c X W x g o tk h => by
  obtain ⟨xs, h1, h2⟩ := anyO_some h
  obtain ⟨kk, p, rfl⟩ := vTup_eq h1
  exact ⟨fun _ _ => rfl, je_tup (ja_of g o tk hs h2).1⟩
theorem snd_lst {es : List Ex} (hs : ∀ e ∈ es, Snd B F k e) : Snd B F k (.lst es) := snd_f rfl (lt := fun c x => anyO (vLst x) fun xs => allE (looks es) c xs) rfl (fun c x h => ⟨h, by
    obtain ⟨xs, h1, h2⟩ := anyO_some h
    obtain ⟨p, rfl⟩ := vLst_eq h1
    exact fun _ _ => rfl⟩) fun c X W x g o tk h => by
  obtain ⟨xs, h1, h2⟩ := anyO_some h
  obtain ⟨p, rfl⟩ := vLst_eq h1
  exact ⟨jf_lst (ja_of g o tk hs h2).1, notComp rfl⟩
theorem snd_idx (ha : Snd B F k a) (hb : Snd B F k b) : Snd B F k (.idx a b) := snd_e rfl rfl rfl fun c X W x g o tk h => by
  obtain ⟨⟨l, r⟩, h1, h2⟩ := anyO_some h
  obtain ⟨p, rfl⟩ := vSub_eq h1
  obtain ⟨h2, h3⟩ := and2 h2
  obtain ⟨h2, h4⟩ := and2 h2
  exact ⟨fun _ _ => rfl, je_idx g.hK (ha.e c X W _ g o tk h4).1 (hb.e c X W _ g o tk h3).1 (okx_ix h2)⟩
theorem snd_slc (ha : Snd B F k a) (hb : Snd B F k b) (hd : Snd B F k d) : Snd B F k (.slc a b d) := snd_e rfl rfl rfl fun c X W x g o tk h => by
  obtain ⟨⟨l, lo, hi⟩, h1, h2⟩ := anyO_some h
  obtain ⟨p, q, rfl⟩ := vSlc_eq h1
  obtain ⟨h2, h3⟩ := and2 h2
  obtain ⟨h2, h4⟩ := and2 h2
  exact ⟨fun _ _ => rfl, je_slc g.hK (ha.e c X W _ g o tk h2).1 (hb.o c X W _ g o tk h4) (hd.o c X W _ g o tk h3)⟩
theorem snd_nix : Snd B F k .nix := snd_o rfl rfl fun c X W x h => by
  cases x with
  | none => exact jo_none
  | some x => cases h
theorem snd_rev (ha : Snd B F k a) : Snd B F k (.rev a) := snd_e rfl rfl rfl fun c X W x g o tk h => by
  obtain ⟨l, h1, h2⟩ := anyO_some h
  obtain ⟨kk, p1, p2, p3, p, rfl⟩ := vRev_eq h1
  exact ⟨fun _ _ => rfl, je_rev g.hK (ha.e c X W _ g o tk h2).1⟩
theorem snd_mu (ha : Snd B F k a) : Snd B F k (.mu a) := by
  refine ⟨?_, ?_, ?_, ?_, ?_, ?_⟩
  · intro c X W x g o tk h
    have h' : (isF a && (look a).e c x) = true := h
    obtain ⟨h1, h2⟩ := and2 h'
    exact ⟨((ha.e c X W x g o tk h2).2 h1).1.mu, fun z => by cases z⟩
  · intro c X W x g o tk h; cases h
  · intro c X W x g o tk h
    obtain ⟨y, rfl, h2⟩ := anyO_some (show anyO x (fun x => isF a && (look a).e c x) = true from h)
    obtain ⟨h1, h2⟩ := and2 h2
    exact jo_some ((ha.e c X W y g o tk h2).2 h1).1.mu
  · intro c X W t x g o tk _ h; cases h
  · intro c X x g o h; cases h
  · intro c X W x g o tk po h; cases h
theorem snd_call {j : Nat} {es : List Ex} (hs : ∀ e ∈ es, Snd B F k e) : Snd B F k (.call j es) := snd_e rfl rfl rfl fun c X W x g o tk h => by
  obtain ⟨⟨y, xs⟩, h1, h2⟩ := anyO_some h
  obtain ⟨q, p, rfl⟩ := vCall_eq h1
  obtain ⟨h2, h3⟩ := and2 h2
  obtain ⟨h2, h4⟩ := and2 h2
  obtain ⟨hcm, h2⟩ := and2 h2
  obtain ⟨x0, r, rfl⟩ := len_ne h4
  obtain ⟨ja, hok, _⟩ := ja_of g o tk hs h3
  rw [List.all_cons, Bool.and_eq_true] at hok
  unfold fnC at h2
  split at h2
  · rename_i n e
    obtain ⟨q1, q2, q3⟩ := glo_of o e
    obtain ⟨f, fd, ps, f1, f2, f3, f4, f5⟩ := g.fns _ _ _ q1
    exact ⟨fun _ _ => rfl, je_call (f5 hcm) (g.len _ _ _ q1) (g.hr hcm) q2 f2 f3 f4 tk ja (okName_of q3).1 (okx_star hok.1 _ _) (plain_of hok.2 _ _)⟩
  · cases h2
theorem snd_bi {kd : Bi} {es : List Ex} (hs : ∀ e ∈ es, Snd B F k e) : Snd B F k (.bi kd es) := by
  have key : ∀ (c : Ct) (X : Cx) (W : WX) (x : Expr), Good B F k c X → On c X → L2N.Takes X W → (anyO (vCall x) fun (y, xs) => biC c y kd.nm && (c.calm || !needsCalm kd) && !xs.isEmpty && allE (looks es) c xs) = true →
      ∃ y q p x0 r, x = .Call (.Name y q) (x0 :: r) [] p ∧ biC c y kd.nm = true ∧ (c.calm || !needsCalm kd) = true ∧ JA B W X (x0 :: r) (esL (dens F es)) ∧ (x0 :: r).all okx = true := fun c X W x g o tk h => by
    obtain ⟨⟨y, xs⟩, h1, h2⟩ := anyO_some h
    obtain ⟨q, p, rfl⟩ := vCall_eq h1
    obtain ⟨h5, h3⟩ := and2 h2
    obtain ⟨h6, h4⟩ := and2 h5
    obtain ⟨h6, h7⟩ := and2 h6
    obtain ⟨ja, hok, _⟩ := ja_of g o tk hs h3
    clear h h1 h2 h5
    obtain ⟨x0, r, rfl⟩ := len_ne h4
    exact ⟨y, q, p, x0, r, rfl, h6, h7, ja, hok⟩
  have dfl : ∀ (c : Ct) (x : Expr), (anyO (vCall x) fun (y, xs) => biC c y kd.nm && (c.calm || !needsCalm kd) && !xs.isEmpty && allE (looks es) c xs) = true → Dflt x := fun c x h => by
    obtain ⟨⟨y, xs⟩, h1, h2⟩ := anyO_some h
    obtain ⟨q, p, rfl⟩ := vCall_eq h1
    exact fun _ _ => rfl
  by_cases hl : kd = .list
  · subst hl
    refine snd_f rfl (lt := fun c x => anyO (vCall x) fun (y, xs) => biC c y (Bi.nm .list) && (c.calm || !needsCalm .list) && !xs.isEmpty && allE (looks es) c xs) rfl (fun c x h => ⟨h, dfl c x h⟩) fun c X W x g o tk h => ?_
    obtain ⟨y, q, p, x0, r, rfl, h2, _, ja, hok⟩ := key c X W x g o tk h
    exact ⟨jf_list g o h2 ja hok, notComp rfl⟩
  · by_cases hl2 : kd = .sorted
    · subst hl2
      refine snd_f rfl (lt := fun c x => anyO (vCall x) fun (y, xs) => biC c y (Bi.nm .sorted) && (c.calm || !needsCalm .sorted) && !xs.isEmpty && allE (looks es) c xs) rfl (fun c x h => ⟨h, dfl c x h⟩) fun c X W x g o tk h => ?_
      obtain ⟨y, q, p, x0, r, rfl, h2, _, ja, hok⟩ := key c X W x g o tk h
      exact ⟨jf_sorted g o h2 ja hok, notComp rfl⟩
    · refine snd_e rfl rfl (by cases kd <;> first | rfl | exact absurd rfl hl | exact absurd rfl hl2) fun c X W x g o tk h => ?_
      obtain ⟨y, q, p, x0, r, e, h2, hq, ja, hok⟩ := key c X W x g o tk h
      refine ⟨dfl c x h, ?_⟩
      subst e
      exact je_bis g o hq (fun s e => ⟨fun z => hl (e.trans z), fun z => hl2 (e.trans z)⟩) h2 ja hok
theorem boot_ty (t : Ty) : bootBuiltins (Str.ofString t.nm) = some (.type t.nm) := by cases t <;> decide +kernel
theorem snd_isTy {t : Ty} (ha : Snd B F k a) : Snd B F k (.isTy t a) := snd_e rfl rfl rfl fun c X W x g o tk h => by
  obtain ⟨⟨y, xs⟩, h1, h2⟩ := anyO_some h
  obtain ⟨q, p, rfl⟩ := vCall_eq h1
  match xs, h2 with
  | [l, r], h2 =>
    obtain ⟨k2, h3⟩ := and2 h2
    obtain ⟨k3, h4⟩ := and2 k2
    obtain ⟨k4, h5⟩ := and2 k3
    obtain ⟨z, h6, h7⟩ := anyO_some h4
    obtain ⟨p2, rfl⟩ := vName_eq h6
    clear h h1 h2 k2 k3 h4
    obtain ⟨rfl, b1, b2⟩ := bi_of o g k4 (by decide)
    obtain ⟨rfl, b3, b4⟩ := bi_of o g h7 (by cases t <;> decide)
    exact ⟨fun _ _ => rfl, je_isTy b1 b2 b3 b4 (boot_ty t) (by cases t <;> decide) (by cases t <;> decide) (ha.e c X W _ g o tk h3).1 (okx_star h5 _ _) rfl⟩
  | [], h2 => cases h2
  | [_], h2 => cases h2
  | _ :: _ :: _ :: _, h2 => cases h2
theorem snd_meth {kd : Mt} {es : List Ex} (ha : Snd B F k a) (hs : ∀ e ∈ es, Snd B F k e) : Snd B F k (.meth kd a es) := snd_e rfl rfl rfl fun c X W x g o tk h => by
  obtain ⟨⟨l, n, ap, xs, cp⟩, h1, h2⟩ := anyO_some h
  have := vMeth_eq h1
  subst this
  obtain ⟨h2, h3⟩ := and2 h2
  obtain ⟨h2, h4⟩ := and2 h2
  obtain ⟨h2, h5⟩ := and2 h2
  obtain ⟨h2, h6⟩ := and2 h2
  obtain ⟨h2, h7⟩ := and2 h2
  obtain ⟨h2, h8⟩ := and2 h2
  have := eq_of_beq h2
  subst this
  obtain ⟨x0, r, rfl⟩ := len_ne h6
  obtain ⟨ja, hok, _⟩ := ja_of g o tk hs h3
  have hok2 := hok
  rw [List.all_cons, Bool.and_eq_true] at hok
  have hlen : (x0 :: r).length < 10 := of_decide_eq_true h5
  have tx : ∀ nm : Str, MTxt X l nm ap x0 r cp := fun nm => ⟨okx_base h8 _ _, by
    rw [plain_all hok2]
    have : decide ((x0 :: r).length + ([] : List Keyword).length + (if ([] : List Keyword).isEmpty then 0 else 1) < 30) = true := decide_eq_true (by simp at hlen ⊢; omega)
    rw [this]; rfl, h7, okx_star hok.1 _ _, plain_of hok.2 _ _⟩
  have je := (ha.e c X W _ g o tk h4).1
  refine ⟨fun _ _ => rfl, ?_⟩
  cases kd with
  | append => exact je_methML PySem.F.slot_list_append PySem.F.type_list_append hm_append je ja (tx _)
  | popAt => exact je_methML PySem.F.slot_list_pop PySem.F.type_list_pop hm_popAt je ja (tx _)
  | index => exact je_methX PySem.F.slot_list_index PySem.F.type_list_index hm_indexL PySem.F.slot_tuple_index PySem.F.type_tuple_index hm_indexT je ja (tx _)
  | count => exact je_methX PySem.F.slot_list_count PySem.F.type_list_count hm_countL PySem.F.slot_tuple_count PySem.F.type_tuple_count hm_countT je ja (tx _)
end
end Fx

/-! Fx16: ranges, comprehensions, what is walked, targets, statements. -/
namespace Fx
open PySem PySem.Spec PyProof.Rows L2
section
variable {B : Bx} {F : Mx} {k : Nat} {a b d : Ex} {c : Ct} {X : Cx} {W : WX}
theorem numIs_of {xs : List Expr} {n : Nat} (h : numIs xs n = true) : xs.length = n := Nat.eq_of_beq_eq_true h
theorem jr_of {es : List Ex} (hs : ∀ e ∈ es, Snd B F k e) (g : Good B F k c X) (o : On c X) (tk : L2N.Takes X W) {x : Expr} (h : rgC c (looks es) x = true) : JR2 B W X (oneOf es.length) x (esL (dens F es)) ∧ Dflt x := by
  unfold rgC at h
  obtain ⟨⟨z, zs⟩, h1, h2⟩ := anyO_some h
  obtain ⟨q, p, rfl⟩ := vCall_eq h1
  obtain ⟨h3, h4⟩ := and2 h2
  obtain ⟨h5, h6⟩ := and2 h3
  clear h h1 h2 h3
  obtain ⟨rfl, b1, b2⟩ := bi_of o g h5 (by decide)
  rw [Bool.or_eq_true] at h6
  refine ⟨?_, fun _ _ => rfl⟩
  rcases h6 with h6 | h6
  · have hl := numIs_of h6
    match zs, es, h4, hl with
    | [x1], [e1], h4, _ =>
      have h4' : (okx x1 && (look e1).e c x1 && allE (looks []) c []) = true := h4
      obtain ⟨h7, _⟩ := and2 h4'
      obtain ⟨h8, h9⟩ := and2 h7
      exact jr_1 b1 b2 ((hs e1 List.mem_cons_self).e c X W _ g o tk h9).1 (okx_star h8 _ _)
    | [_], [], h4, _ => cases h4
    | [_], _ :: _ :: _, h4, _ =>
      have h4' : (_ && _ && false) = true := h4
      rw [Bool.and_false] at h4'; cases h4'
  · have hl := numIs_of h6
    match zs, es, h4, hl with
    | [x1, x2], [e1, e2], h4, _ =>
      have h4' : (okx x1 && (look e1).e c x1 && (okx x2 && (look e2).e c x2 && allE (looks []) c [])) = true := h4
      obtain ⟨h7, h10⟩ := and2 h4'
      obtain ⟨h8, h9⟩ := and2 h7
      obtain ⟨h11, _⟩ := and2 h10
      obtain ⟨h12, h13⟩ := and2 h11
      exact jr_2 b1 b2 ((hs e1 List.mem_cons_self).e c X W _ g o tk h9).1 ((hs e2 (List.mem_cons_of_mem _ List.mem_cons_self)).e c X W _ g o tk h13).1 (okx_star h8 _ _) (okx_star h12 _ _) (plain_of (by rw [List.all_cons, h12]; rfl) _ _)
    | [_, _], [], h4, _ => cases h4
    | [x1, x2], [e1], h4, _ =>
      have h4' : (okx x1 && (look e1).e c x1 && false) = true := h4
      rw [Bool.and_false] at h4'; cases h4'
    | [x1, x2], e1 :: e2 :: _ :: _, h4, _ =>
      have h4' : (okx x1 && (look e1).e c x1 && (okx x2 && (look e2).e c x2 && false)) = true := h4
      rw [Bool.and_false, Bool.and_false] at h4'; cases h4'
theorem snd_lrg {es : List Ex} (hs : ∀ e ∈ es, Snd B F k e) : Snd B F k (.lrg es) := by
  refine snd_f rfl (lt := fun c x => anyO (vCall x) fun (y, xs) => match xs with
    | [r] => c.calm && biC c y "list" && okx r && rgC c (looks es) r
    | _ => false) rfl (fun c x h => ⟨h, ?_⟩) fun c X W x g o tk h => ?_
  · obtain ⟨⟨y, xs⟩, h1, h2⟩ := anyO_some h
    obtain ⟨q, p, rfl⟩ := vCall_eq h1
    exact fun _ _ => rfl
  · obtain ⟨⟨y, xs⟩, h1, h2⟩ := anyO_some h
    obtain ⟨q, p, rfl⟩ := vCall_eq h1
    match xs, h2 with
    | [r], h2 =>
      obtain ⟨h3, h4⟩ := and2 h2
      obtain ⟨h5, h6⟩ := and2 h3
      obtain ⟨hcm, h5⟩ := and2 h5
      clear h h1 h2 h3
      obtain ⟨rfl, b1, b2⟩ := bi_of o g h5 (by decide)
      exact ⟨jf_listRg (g.calm hcm).1 b1 b2 (jr_of hs g o tk h4).1 (okx_star h6 _ _), notComp rfl⟩
    | [], h2 => cases h2
    | _ :: _ :: _, h2 => cases h2
theorem snd_trg {es : List Ex} (hs : ∀ e ∈ es, Snd B F k e) : Snd B F k (.trg es) := snd_e rfl rfl rfl fun c X W x g o tk h => by
  obtain ⟨⟨y, xs⟩, h1, h2⟩ := anyO_some h
  obtain ⟨q, p, rfl⟩ := vCall_eq h1
  match xs, h2 with
  | [r], h2 =>
    obtain ⟨h3, h4⟩ := and2 h2
    obtain ⟨h5, h6⟩ := and2 h3
    obtain ⟨hcm, h5⟩ := and2 h5
    clear h h1 h2 h3
    obtain ⟨rfl, b1, b2⟩ := bi_of o g h5 (by decide)
    exact ⟨fun _ _ => rfl, je_tupRg (g.calm hcm).1 b1 b2 (jr_of hs g o tk h4).1 (okx_star h6 _ _)⟩
  | [], h2 => cases h2
  | _ :: _ :: _, h2 => cases h2
/-! ### what is walked -/
theorem snd_iSeq (ha : Snd B F k a) : Snd B F k (.iSeq a) := snd_i rfl rfl fun c X W t x g o tk hx h => ji_seq (ha.e c X W x g o tk h).1
theorem snd_iRange {es : List Ex} (hs : ∀ e ∈ es, Snd B F k e) : Snd B F k (.iRange es) := snd_i rfl rfl fun c X W t x g o tk hx h => by
  have h' : rgC c (looks es) x = true := h
  unfold rgC at h'
  obtain ⟨⟨z, zs⟩, h1, h2⟩ := anyO_some h'
  obtain ⟨q, p, rfl⟩ := vCall_eq h1
  obtain ⟨h3, h4⟩ := and2 h2
  obtain ⟨h5, h6⟩ := and2 h3
  clear h h' h1 h2 h3
  obtain ⟨rfl, b1, b2⟩ := bi_of o g h5 (by decide)
  obtain ⟨ja, hok, hlen⟩ := ja_of g o tk hs h4
  rw [Bool.or_eq_true] at h6
  rcases h6 with h6 | h6
  · have hl := numIs_of h6
    match zs, hl, ja, hok, hlen with
    | [x1], _, ja, hok, hlen =>
      rw [List.all_cons, Bool.and_eq_true] at hok
      have e1 : oneOf es.length = false := by rw [← hlen]; rfl
      rw [e1]
      exact ji_range1 b1 b2 ja (by rw [okx_star hok.1]; rfl)
  · have hl := numIs_of h6
    match zs, hl, ja, hok, hlen with
    | [x1, x2], _, ja, hok, hlen =>
      rw [List.all_cons, Bool.and_eq_true, List.all_cons, Bool.and_eq_true] at hok
      have e1 : oneOf es.length = true := by rw [← hlen]; rfl
      rw [e1]
      exact ji_range2 b1 b2 ja (by rw [okx_star hok.1, okx_star hok.2.1]; rfl) (by rw [okx_star hok.2.1]; rfl)
theorem isTupX_eq {t : Expr} (h : isTupX t = true) : ∃ es kk p, t = .Tuple es kk p := by
  cases t <;> first | exact ⟨_, _, _, rfl⟩ | cases h
theorem snd_iZip {es : List Ex} (hs : ∀ e ∈ es, Snd B F k e) : Snd B F k (.iZip es) := snd_i rfl rfl fun c X W t x g o tk hx h => by
  obtain ⟨ht, h'⟩ := and2 h
  obtain ⟨tes, kk, tp, rfl⟩ := isTupX_eq ht
  obtain ⟨⟨z, zs⟩, h1, h2⟩ := anyO_some h'
  obtain ⟨q, p, rfl⟩ := vCall_eq h1
  obtain ⟨h3, h4⟩ := and2 h2
  obtain ⟨h5, h6⟩ := and2 h3
  clear h h' h1 h2 h3
  obtain ⟨rfl, b1, b2⟩ := bi_of o g h5 (by decide)
  obtain ⟨ja, hok, hlen⟩ := ja_of g o tk hs h4
  rw [Bool.or_eq_true] at h6
  rcases h6 with h6 | h6
  · have hl := numIs_of h6
    match zs, hl, ja, hok, hlen with
    | [x1, x2], _, ja, hok, hlen =>
      have hok2 := hok
      rw [List.all_cons, Bool.and_eq_true] at hok
      rw [← hlen]
      exact ji_zip2 b1 b2 ja (okx_star hok.1 _ _) (plain_of hok.2 _ _)
  · have hl := numIs_of h6
    match zs, hl, ja, hok, hlen with
    | [x1, x2, x3], _, ja, hok, hlen =>
      rw [List.all_cons, Bool.and_eq_true] at hok
      rw [← hlen]
      exact ji_zip3 b1 b2 ja (okx_star hok.1 _ _) (plain_of hok.2 _ _)
theorem snd_iEnum (ha : Snd B F k a) : Snd B F k (.iEnum a) := snd_i rfl rfl fun c X W t x g o tk hx h => by
  obtain ⟨ht, h'⟩ := and2 h
  obtain ⟨tes, kk, tp, rfl⟩ := isTupX_eq ht
  obtain ⟨⟨z, zs⟩, h1, h2⟩ := anyO_some h'
  obtain ⟨q, p, rfl⟩ := vCall_eq h1
  match zs, h2 with
  | [r], h2 =>
    obtain ⟨h3, h4⟩ := and2 h2
    obtain ⟨h5, h6⟩ := and2 h3
    clear h h' h1 h2 h3
    obtain ⟨rfl, b1, b2⟩ := bi_of o g h5 (by decide)
    exact ji_enum b1 b2 (ja_cons (ha.e c X W _ g o tk h4).1 ja_nil (okx_star h6 _ _)) (by rw [okx_star h6]; rfl)
  | [], h2 => cases h2
  | _ :: _ :: _, h2 => cases h2
/-! ### targets -/
theorem snd_gVar {i : Nat} : Snd B F k (.gVar i) := snd_g rfl rfl fun c X x g o h => by
  obtain ⟨y, h1, h2⟩ := anyO_some h
  obtain ⟨p, rfl⟩ := vName_eq h1
  obtain ⟨h3, h4⟩ := and2 h2
  obtain ⟨l1, l2⟩ := loc_of o h4
  exact jg_var g.nd (nm_of o h3) l1 l2
theorem okg_star {x : Expr} (h : okg x = true) (es : List Expr) (env : PySem.Env) : assignEach (x :: es) env = (false, assign x env) :: assignEach es env := by
  cases x <;> first | rfl | cases h
theorem jgs_of (g : Good B F k c X) (o : On c X) : ∀ {es : List Ex} {xs : List Expr}, (∀ e ∈ es, Snd B F k e) → allG (looks es) c xs = true → JGs B X xs (gIss es) ((dens F es).map D.g) ∧ (assignEach xs X.env).findIdx? (·.1) = none ∧ (assignEach xs X.env).length = ((dens F es).map D.g).length
  | [], xs, _, h => by
    cases xs with
    | nil => exact ⟨jgs_nil, rfl, rfl⟩
    | cons x xs => cases h
  | e :: es, xs, hs, h => by
    cases xs with
    | nil => cases h
    | cons x xs =>
      have h' : (okg x && (look e).g c x && allG (looks es) c xs) = true := h
      obtain ⟨h1, h3⟩ := and2 h'
      obtain ⟨h1, h2⟩ := and2 h1
      obtain ⟨k1, k2, k3⟩ := jgs_of g o (fun e he => hs e (List.mem_cons_of_mem _ he)) h3
      have es' := okg_star h1 xs X.env
      refine ⟨jgs_cons ((hs e List.mem_cons_self).g c X x g o h2) k1 (by rw [es']; rfl), ?_, ?_⟩
      · rw [es', List.findIdx?_cons]
        simp [k2]
      · rw [es']
        show _ + 1 = _ + 1
        rw [k3]
theorem snd_gTup {es : List Ex} (hs : ∀ e ∈ es, Snd B F k e) : Snd B F k (.gTup es) := snd_g rfl rfl fun c X x g o h => by
  obtain ⟨xs, h1, h2⟩ := anyO_some h
  obtain ⟨kk, p, rfl⟩ := vTup_eq h1
  obtain ⟨hcm, h2⟩ := and2 h2
  obtain ⟨k1, k2, k3⟩ := jgs_of g o hs h2
  exact jg_tup (g.calm hcm).1 k1 k2 k3
theorem snd_gTupH {es : List Ex} (hs : ∀ e ∈ es, Snd B F k e) : Snd B F k (.gTupH es) := snd_g rfl rfl fun c X x g o h => by
  obtain ⟨xs, h1, h2⟩ := anyO_some h
  obtain ⟨kk, p, rfl⟩ := vTup_eq h1
  obtain ⟨hcm, h2⟩ := and2 h2
  obtain ⟨k1, k2, k3⟩ := jgs_of g o hs h2
  exact jg_tupH (g.hot hcm) k1 k2 k3
theorem snd_gSub (ha : Snd B F k a) (hb : Snd B F k b) : Snd B F k (.gSub a b) := snd_g rfl rfl fun c X x g o h => by
  obtain ⟨⟨l, r⟩, h1, h2⟩ := anyO_some h
  obtain ⟨p, rfl⟩ := vSub_eq h1
  obtain ⟨h3, h4⟩ := and2 h2
  obtain ⟨h5, h6⟩ := and2 h3
  exact jg_sub (ha.e c X W0 _ g o takes0N h6).1 (hb.e c X W0 _ g o takes0N h4).1 hs_set (fun _ => by cases r <;> first | rfl | (cases h5; done))
/-! ### comprehensions -/
theorem pts_of (g : Good B F k c X) (o : On c X) {es : List Ex} {xs : List Expr} (hs : ∀ e ∈ es, Snd B F k e) (h : allT (looks es) c xs = true) (hl : xs.length ≤ 1) : PTs X xs (tJT B W0 (tIfs ((dens F es).map D.t))) := by
  match es, xs, h with
  | [], [], _ =>
    refine ⟨fun pins s σ H Q I q => pts_nil.run pins s σ H Q I ?_⟩
    obtain ⟨ρ, S, m, Rv, he, hs, hp⟩ := q
    exact Post.ok hs hp
  | [e], [x], h =>
    have h' : ((look e).t c x && true) = true := h
    rw [Bool.and_true] at h'
    exact pts_one ((hs e List.mem_cons_self).t c X W0 x g o takes0N h').pt
  | [], _ :: _, h => cases h
  | _ :: _, [], h => cases h
  | _ :: _ :: _, [x], h =>
    have h' : (_ && false) = true := h
    rw [Bool.and_false] at h'; cases h'
  | [_], _ :: _ :: _, _ => simp at hl
  | _ :: _ :: _, _ :: _ :: _, _ => simp at hl
theorem subL_of {xs ys : List Nat} (h : subL xs ys = true) : ∀ i ∈ xs, i ∈ ys := fun i hi => by
  have := List.all_eq_true.mp h i hi
  simpa using this
theorem snd_comp {own : List (Str × Nat)} {tg it elt : Ex} {ifs : List Ex} (ht : Snd B F k tg) (hi : Snd B F k it) (hf : ∀ e ∈ ifs, Snd B F k e) (he : Snd B F k elt) : Snd B F k (.comp own tg it ifs elt) := by
  refine snd_f rfl (lt := fun _ _ => false) rfl (fun c x h => by cases h) fun c X W x g o tk h => ?_
  obtain ⟨⟨l, t, i, fs, scope⟩, h1, h2⟩ := anyO_some h
  obtain ⟨p, rfl⟩ := vComp_eq h1
  obtain ⟨h2, q1⟩ := and2 h2
  obtain ⟨h2, q2⟩ := and2 h2
  obtain ⟨h2, q3⟩ := and2 h2
  obtain ⟨h2, q4⟩ := and2 h2
  obtain ⟨h2, q5⟩ := and2 h2
  obtain ⟨h2, q6⟩ := and2 h2
  obtain ⟨q8, q7⟩ := and2 h2
  obtain ⟨hcm, q8⟩ := and2 q8
  have ok : BlkOk X.N X.env.scope scope own := by rw [o.N, o.sc]; exact blkOk_by q8
  have ji := hi.i c X W t i g o tk q6 q5
  have jg := fun s H C cl fp => ht.g (c.blk scope) _ t (g.blk hcm s H scope C cl fp) (o.blk s H scope C cl fp) q4
  have jt := fun s H C cl fp => pts_of (c := c.blk scope) (g.blk hcm s H scope C cl fp) (o.blk s H scope C cl fp) hf q3 (of_decide_eq_true q2)
  have je := fun s H C cl fp => (he.e (c.blk scope) _ W0 l (g.blk hcm s H scope C cl fp) (o.blk s H scope C cl fp) takes0N q1).1
  refine ⟨jf_comp (g.calm hcm).1 g.nd ji ok (subL_of q7) jg jt je (okx_fold q6 _), fun _ i y py spos hh hN hy hsw hor => ?_⟩
  refine js_setLc (g.calm hcm).1 g.nd hN hy hsw ji ok (subL_of q7) jg jt je (okx_fold q6 _) hh fun te hte => ?_
  rcases hor with e | e
  · rw [e]; exact jf_je hte
  · rw [e]; exact jf_mu hte
theorem snd_comp2 {own : List (Str × Nat)} {own1 : List Nat} {tg it tg1 it1 elt : Ex} {ifs ifs1 : List Ex} (ht : Snd B F k tg) (hi : Snd B F k it) (hf : ∀ e ∈ ifs, Snd B F k e) (ht1 : Snd B F k tg1) (hi1 : Snd B F k it1) (hf1 : ∀ e ∈ ifs1, Snd B F k e) (he : Snd B F k elt) :
    Snd B F k (.comp2 own own1 tg it ifs tg1 it1 ifs1 elt) := by
  refine snd_f rfl (lt := fun _ _ => false) rfl (fun c x h => by cases h) fun c X W x g o tk h => ?_
  obtain ⟨⟨l, t, i, fs, t1, i1, fs1, scope⟩, h1, h2⟩ := anyO_some h
  obtain ⟨p, rfl⟩ := vComp2_eq h1
  obtain ⟨h2, q1⟩ := and2 h2
  obtain ⟨h2, q2⟩ := and2 h2
  obtain ⟨h2, q3⟩ := and2 h2
  obtain ⟨h2, q4⟩ := and2 h2
  obtain ⟨h2, q5⟩ := and2 h2
  obtain ⟨h2, q6⟩ := and2 h2
  obtain ⟨h2, q7⟩ := and2 h2
  obtain ⟨h2, q8⟩ := and2 h2
  obtain ⟨h2, q9⟩ := and2 h2
  obtain ⟨h2, q10⟩ := and2 h2
  obtain ⟨h2, q11⟩ := and2 h2
  obtain ⟨h2, q12⟩ := and2 h2
  obtain ⟨h2, q13⟩ := and2 h2
  obtain ⟨q15, q14⟩ := and2 h2
  obtain ⟨hcm, q15⟩ := and2 q15
  have ok : BlkOk X.N X.env.scope scope own := by rw [o.N, o.sc]; exact blkOk_by q15
  have ji := hi.i c X W t i g o tk q11 q9
  have jg := fun s H C cl fp => ht.g (c.blk scope) _ t (g.blk hcm s H scope C cl fp) (o.blk s H scope C cl fp) q8
  have jt := fun s H C cl fp => pts_of (c := c.blk scope) (g.blk hcm s H scope C cl fp) (o.blk s H scope C cl fp) hf q7 (of_decide_eq_true q6)
  have ji1 := fun s H C cl fp => hi1.i (c.blk scope) _ W0 t1 i1 (g.blk hcm s H scope C cl fp) (o.blk s H scope C cl fp) takes0N q10 q5
  have jg1 := fun s H C cl fp => ht1.g (c.blk scope) _ t1 (g.blk hcm s H scope C cl fp) (o.blk s H scope C cl fp) q4
  have jt1 := fun s H C cl fp => pts_of (c := c.blk scope) (g.blk hcm s H scope C cl fp) (o.blk s H scope C cl fp) hf1 q3 (of_decide_eq_true q2)
  have je := fun s H C cl fp => (he.e (c.blk scope) _ W0 l (g.blk hcm s H scope C cl fp) (o.blk s H scope C cl fp) takes0N q1).1
  refine ⟨jf_comp2 (g.calm hcm).1 g.nd ji ok (subL_of q14) (subL_of q13) (subL_of q12) jg jt ji1 jg1 jt1 je (okx_fold q11 _) (fun env => okx_fold q10 env), fun _ i y py spos hh hN hy hsw hor => ?_⟩
  refine js_setLc2 (g.calm hcm).1 g.nd hN hy hsw ji ok (subL_of q14) (subL_of q13) (subL_of q12) jg jt ji1 jg1 jt1 je (okx_fold q11 _) (fun env => okx_fold q10 env) hh fun te hte => ?_
  rcases hor with e | e
  · rw [e]; exact jf_je hte
  · rw [e]; exact jf_mu hte
/-! ### statements -/
theorem jss_of (g : Good B F k c X) (o : On c X) (tk : L2N.Takes X W) (po : PassesOwn (model X.prog X.w) X.A X.env X.xe) : ∀ {es : List Ex} {xs : List Stmt}, (∀ e ∈ es, Snd B F k e) → allS (looks es) c xs = true → JSs B W X xs (ssL (dens F es))
  | [], xs, _, h => by
    cases xs with
    | nil => exact jss_nil
    | cons x xs => cases h
  | e :: es, xs, hs, h => by
    cases xs with
    | nil => cases h
    | cons x xs =>
      have h' : ((look e).s c x && allS (looks es) c xs) = true := h
      obtain ⟨h1, h2⟩ := and2 h'
      exact jss_cons ((hs e List.mem_cons_self).s c X W x g o tk po h1) (jss_of g o tk po (fun e he => hs e (List.mem_cons_of_mem _ he)) h2)
theorem swap_plain {x : Expr} (h : isComp x = false) (hx : okx x = true) (t : Option Expr) (n : Nat) (env : PySem.Env) : swapsWith x t n env = pure false := by
  cases x <;> first | rfl | (cases hx; done) | (cases h; done)
theorem snd_sExpr (ha : Snd B F k a) : Snd B F k (.sExpr a) := snd_s rfl rfl fun c X W s g o tk po h => by
  obtain ⟨x, h1, h2⟩ := anyO_some h
  obtain ⟨p, rfl⟩ := vsExpr_eq h1
  obtain ⟨h3, h4⟩ := and2 h2
  obtain ⟨h5, h6⟩ := and2 h3
  exact js_expr (ha.e c X W x g o tk h4).1 (swap_plain (by simpa using h5) h6 _ _ _)
theorem snd_sRet (ha : Snd B F k a) : Snd B F k (.sRet a) := snd_s rfl rfl fun c X W s g o tk po h => by
  obtain ⟨ox, h1, h2⟩ := anyO_some h
  obtain ⟨p, rfl⟩ := vsRet_eq h1
  obtain ⟨x, rfl, h3⟩ := anyO_some h2
  exact js_ret (ha.e c X W x g o tk h3).1
theorem snd_sRetN : Snd B F k .sRetN := snd_s rfl rfl fun c X W s g o tk po h => by
  obtain ⟨ox, h1, h2⟩ := anyO_some h
  obtain ⟨p, rfl⟩ := vsRet_eq h1
  cases ox with
  | none => exact js_retN
  | some x => cases h2
theorem snd_sIf {xs ys : List Ex} (ha : Snd B F k a) (hx : ∀ e ∈ xs, Snd B F k e) (hy : ∀ e ∈ ys, Snd B F k e) : Snd B F k (.sIf a xs ys) := snd_s rfl rfl fun c X W s g o tk po h => by
  obtain ⟨⟨u, ps, qs⟩, h1, h2⟩ := anyO_some h
  obtain ⟨p, rfl⟩ := vsIf_eq h1
  obtain ⟨h3, h4⟩ := and2 h2
  obtain ⟨h5, h6⟩ := and2 h3
  exact js_if (ha.t c X W u g o tk h5) (jss_of g o tk po hx h6) (jss_of g o tk po hy h4)
theorem snd_sWhile {xs : List Ex} (ha : Snd B F k a) (hx : ∀ e ∈ xs, Snd B F k e) : Snd B F k (.sWhile a xs) := snd_s rfl rfl fun c X W s g o tk po h => by
  obtain ⟨⟨u, ps⟩, h1, h2⟩ := anyO_some h
  obtain ⟨p, rfl⟩ := vsWhile_eq h1
  obtain ⟨h3, h4⟩ := and2 h2
  exact js_while po (ha.t c X W u g o tk h3) (jss_of g o tk po hx h4)
theorem snd_sFor {tg it : Ex} {xs : List Ex} (ht : Snd B F k tg) (hi : Snd B F k it) (hx : ∀ e ∈ xs, Snd B F k e) : Snd B F k (.sFor tg it xs) := snd_s rfl rfl fun c X W s g o tk po h => by
  obtain ⟨⟨t, i, ps⟩, h1, h2⟩ := anyO_some h
  obtain ⟨p, rfl⟩ := vsFor_eq h1
  obtain ⟨h3, h4⟩ := and2 h2
  obtain ⟨h5, h6⟩ := and2 h3
  obtain ⟨h7, h8⟩ := and2 h5
  obtain ⟨hcm, h7⟩ := and2 h7
  exact js_for po (g.calm hcm).1 (hi.i c X W t i g o tk h7 h8) (ht.g c X t g o h6) (jss_of g o tk po hx h4) (okx_fold h7 _)
end
end Fx

/-! Fx17: assignments. -/
namespace Fx
open PySem PySem.Spec PyProof.Rows L2
section
variable {B : Bx} {F : Mx} {k : Nat} {a b d : Ex} {c : Ct} {X : Cx} {W : WX}
theorem kind_of (o : On c X) (h : kindF c = true) : X.env.scope.kind = .function := by
  unfold kindF at h
  rw [o.sc]
  split at h
  · assumption
  · cases h
theorem block_of (o : On c X) (h : kindF c = true) : X.env.blockKind = .function := by
  unfold Env.blockKind
  rw [kind_of o h]
  rfl
theorem kindOf_eq (o : On c X) (y : Str) : (X.env.kindOf y == some .local) = isLocal c.sc y := by
  unfold Env.kindOf isLocal
  rw [o.sc]
  cases c.sc.names.lookup y with
  | none => rfl
  | some kd => cases kd <;> rfl
theorem swaps_eq (o : On c X) (hk : kindF c = true) {y : Str} {p q : Pos} {e : Expr} {gs : List Comprehension} {sc : Scope} (n : Nat) : swapsWith (.ListComp e gs sc q) (some (.Name y p)) n X.env = pure (swapC c (.Name y p) (.ListComp e gs sc q)) := by
  show (pure (X.env.blockKind == .function && X.env.kindOf y == some .local && p.line == q.line && !(sc.names.any fun (n, k) => n == y && (k == .local || k == .cell))) : Sem Bool) = _
  rw [block_of o hk, kindOf_eq o y]
  rfl
theorem sole_false (o : On c X) {t x : Expr} (ht : okg t = true) (hx : okx x = true) (h : (!isComp x || kindF c) = true) (hs : (!swapC c t x) = true) (n : Nat) : swapsWithSole [t] x n X.env = pure false := by
  show swapsWith x (some t) n X.env = pure false
  cases hc : isComp x with
  | false => exact swap_plain hc hx _ _ _
  | true =>
    rw [hc] at h
    have hk : kindF c = true := h
    cases x with
    | ListComp e gs sc q =>
      cases t with
      | Name y p =>
        rw [swaps_eq o hk]
        have : swapC c (.Name y p) (.ListComp e gs sc q) = false := by simpa using hs
        rw [this]
      | _ => first | rfl | (cases ht; done)
    | _ => cases hc
theorem filt_eq (o : On c X) (l : Nat) : ∀ (ts : List Expr), (ts.filterMap fun
    | .Name id pos => if X.env.kindOf id == some .local && pos.line == l then some id else none
    | _ => none) = locNames c l ts
  | [] => rfl
  | t :: ts => by
    rw [List.filterMap_cons, filt_eq o l ts]
    cases t with
    | Name y p =>
      show _ = (if isLocal c.sc y && p.line == l then y :: locNames c l ts else locNames c l ts)
      dsimp only
      rw [kindOf_eq o y]
      cases (isLocal c.sc y && p.line == l) <;> rfl
    | _ => rfl
theorem headLine_eq : ∀ (ts : List Expr), (ts.head?.map (·.pos.line)).getD 0 = headLine ts
  | [] => rfl
  | _ :: _ => rfl
theorem okx_nostar {xs : List Expr} (h : xs.all okx = true) : (xs.any fun | .Starred .. => true | _ => false) = false := by
  rw [List.any_eq_false]
  intro x hx
  have := List.all_eq_true.mp h x hx
  cases x <;> first | (intro z; cases z; done) | (cases this; done)
theorem stores_eq (o : On c X) (hk : kindF c = true) {ts vs : List Expr} {k1 k2 : Nat} {p1 p2 : Pos} (hv : vs.all okx = true) (hl : vs.length = ts.length) : swappedStores [.Tuple ts k1 p1] (.Tuple vs k2 p2) X.env =
    (if (!(ts.length == 2 || ts.length == 3)) = true then pure none else if ((locNames c (headLine ts) ts).length != ts.length || (locNames c (headLine ts) ts).eraseDups.length != (locNames c (headLine ts) ts).length) = true then pure none
      else if vs.all (foldedForSure 8) = true then pure none else if vs.all (constantsAlone 8) = true then unsupported "assign.tuple-of-constant-expressions:order-of-the-stores" else pure (some (locNames c (headLine ts) ts))) := by
  have e1 : (vs.length != ts.length) = false := by rw [hl]; simp
  have e2 : (X.env.blockKind != .function) = false := by rw [block_of o hk]; rfl
  unfold swappedStores
  show (if (!(ts.length == 2 || ts.length == 3) || vs.length != ts.length || X.env.blockKind != .function) = true then _ else _) = _
  rw [e1, e2, Bool.or_false, Bool.or_false, headLine_eq]
  dsimp only
  erw [filt_eq o (headLine ts) ts, okx_nostar hv]
  by_cases h1 : (!(ts.length == 2 || ts.length == 3)) = true
  · rw [if_pos h1, if_pos h1]
  · rw [if_neg h1, if_neg h1]
    rw [if_neg Bool.false_ne_true]
    by_cases h2 : ((locNames c (headLine ts) ts).length != ts.length || (locNames c (headLine ts) ts).eraseDups.length != (locNames c (headLine ts) ts).length) = true
    · rw [if_pos h2, if_pos h2]
    · rw [if_neg h2, if_neg h2]
      by_cases h3 : vs.all (foldedForSure 8) = true
      · rw [if_pos h3, if_pos h3]
      · rw [if_neg h3, if_neg h3]
        by_cases h4 : vs.all (constantsAlone 8) = true
        · rw [if_pos h4, if_pos h4]
          first | done | rfl
        · rw [if_neg h4, if_neg h4]
          first | done | rfl
theorem beqN (a b : Nat) : Nat.beq a b = (a == b) := Bool.eq_iff_iff.mpr ⟨fun h => by rw [Nat.eq_of_beq_eq_true h]; exact beq_self_eq_true _, fun h => by rw [eq_of_beq h]; exact Nat.beq_refl _⟩
theorem namesAt_inv {i : Nat} {is : List Nat} {ts : List Expr} (h : namesAt c (i :: is) ts = true) : ∃ y p r, ts = .Name y p :: r ∧ nameIs c i y = true ∧ isLocal c.sc y = true ∧ namesAt c is r = true := by
  cases ts with
  | nil => cases h
  | cons t r =>
    cases t with
    | Name y p =>
      have h' : (nameIs c i y && isLocal c.sc y && namesAt c is r) = true := h
      obtain ⟨h1, h2⟩ := and2 h'
      obtain ⟨h3, h4⟩ := and2 h1
      exact ⟨y, p, r, rfl, h3, h4, h2⟩
    | _ => cases h
theorem namesAt_nil {ts : List Expr} (h : namesAt c [] ts = true) : ts = [] := by
  cases ts with
  | nil => rfl
  | cons t r => cases h
theorem noSwap_of (o : On c X) {t x : Expr} (ht : okg t = true) (h : noSwapC c t x = true) : swappedStores [t] x X.env = pure none := by
  cases t with
  | Tuple ts k1 p1 =>
    cases x with
    | Tuple vs k2 p2 =>
      have h' : (kindF c && vs.all okx && Nat.beq vs.length ts.length && (!(Nat.beq ts.length 2 || Nat.beq ts.length 3) || vs.all (foldedForSure 8) || !Nat.beq (locNames c (headLine ts) ts).length ts.length)) = true := h
      obtain ⟨h1, h2⟩ := and2 h'
      obtain ⟨h1, h3⟩ := and2 h1
      obtain ⟨h1, h4⟩ := and2 h1
      rw [stores_eq o h1 h4 (Nat.eq_of_beq_eq_true h3)]
      rw [Bool.or_eq_true, Bool.or_eq_true] at h2
      rcases h2 with (h2 | h2) | h2
      · have : (!(ts.length == 2 || ts.length == 3)) = true := by rw [beqN, beqN] at h2; exact h2
        rw [if_pos this]
      · split
        · rfl
        · split
          · rfl
          · rfl
      · split
        · rfl
        · have : ((locNames c (headLine ts) ts).length != ts.length) = true := by rw [beqN] at h2; exact h2
          rw [this, Bool.true_or, if_pos rfl]
    | _ => rfl
  | Name y p => cases x <;> rfl
  | Subscript l r p => cases x <;> rfl
  | _ => cases ht
theorem snd_sAsg {tg : Ex} (ht : Snd B F k tg) (ha : Snd B F k a) : Snd B F k (.sAsg tg a) := snd_s rfl rfl fun c X W s g o tk po h => by
  obtain ⟨⟨t, x, p⟩, h1, h2⟩ := anyO_some h
  have := vsAsg_eq h1
  subst this
  obtain ⟨h2, q1⟩ := and2 h2
  obtain ⟨h2, q2⟩ := and2 h2
  obtain ⟨h2, q3⟩ := and2 h2
  obtain ⟨h2, q4⟩ := and2 h2
  obtain ⟨h2, q5⟩ := and2 h2
  obtain ⟨q7, q6⟩ := and2 h2
  exact js_asg (ha.e c X W x g o tk q4).1 (ht.g c X t g o q5) (sole_false o q7 q6 q2 q1 _) (noSwap_of o q7 q3) (by rw [okg_star q7]; rfl)
theorem snd_sRaise {j : Nat} {m : Str} : Snd B F k (.sRaise j m) := snd_s rfl rfl fun c X W s g o tk po h => by
  obtain ⟨⟨x, n⟩, h1, h2⟩ := anyO_some h
  obtain ⟨p, q, jj, p2, r, rfl⟩ := vsRaise_eq h1
  obtain ⟨h3, h4⟩ := and2 h2
  obtain ⟨hcm, h3⟩ := and2 h3
  unfold excC at h3
  split at h3
  · rename_i e
    obtain ⟨q1, q2, q3⟩ := glo_of o e
    obtain ⟨C, hC, fx⟩ := g.excs _ _ q1
    refine ⟨PS.imp' (L2N.ps_raise (g.calm hcm).1 tk (L2N.pmk_own PySem.F.excBase_ValueError fx.xP fx.gP fx.kP (raises_own fx.bP fx.tP) q2 (okName_of q3).1)) fun D σ H hh => ?_⟩
    obtain ⟨ρ, S, m, Rv, he, hs, hp⟩ := hh
    exact hp m Rv H σ (.ref C) none (Ext.refl hs) he ⟨⟨C, hC, rfl⟩, rfl⟩
  · cases h3
theorem snd_sAsgC {i : Nat} {m : Bool} (ha : Snd B F k a) : Snd B F k (.sAsgC i m a) := snd_s rfl rfl fun c X W s g o tk po h => by
  obtain ⟨⟨t, x, p⟩, h1, h2⟩ := anyO_some h
  have := vsAsg_eq h1
  subst this
  obtain ⟨y, h3, h4⟩ := anyO_some h2
  obtain ⟨py, rfl⟩ := vName_eq h3
  obtain ⟨h4, q1⟩ := and2 h4
  obtain ⟨h4, q2⟩ := and2 h4
  obtain ⟨h4, q3⟩ := and2 h4
  obtain ⟨h4, q4⟩ := and2 h4
  obtain ⟨h4, q5⟩ := and2 h4
  obtain ⟨q7, q6⟩ := and2 h4
  refine ((ha.e c X W x g o tk q1).2 q4).2 q5 i y py p _ (nm_of o q7) (isLocal_of o q6) ?_ (by cases m; exact .inl rfl; exact .inr rfl)
  cases x with
  | ListComp e gs sc q => rw [swaps_eq o q3, q2]
  | _ => cases q5
theorem snd_sPar {is : List Nat} {es : List Ex} (hs : ∀ e ∈ es, Snd B F k e) : Snd B F k (.sPar is es) := snd_s rfl rfl fun c X W s g o tk po h => by
  obtain ⟨⟨t, x, p⟩, h1, h2⟩ := anyO_some h
  have := vsAsg_eq h1
  subst this
  obtain ⟨ts, h3, h4⟩ := anyO_some h2
  obtain ⟨xs, h5, h6⟩ := anyO_some h4
  clear h h1 h2 h4
  obtain ⟨k1, p1, rfl⟩ := vTup_eq h3
  obtain ⟨k2, p2, rfl⟩ := vTup_eq h5
  clear h3 h5
  obtain ⟨h6, q1⟩ := and2 h6
  obtain ⟨h6, q2⟩ := and2 h6
  obtain ⟨h6, q3⟩ := and2 h6
  obtain ⟨h6, q4⟩ := and2 h6
  obtain ⟨h6, q5⟩ := and2 h6
  obtain ⟨h6, q6⟩ := and2 h6
  obtain ⟨h6, q7⟩ := and2 h6
  obtain ⟨h6, q8⟩ := and2 h6
  obtain ⟨q10, q9⟩ := and2 h6
  obtain ⟨hcm, q10⟩ := and2 q10
  obtain ⟨ja, hok, hlen⟩ := ja_of g o tk hs q7
  have hl : xs.length = ts.length := Nat.eq_of_beq_eq_true q8
  have nd := of_decide_eq_true q3
  have ndi := of_decide_eq_true q5
  have ln : (locNames c (headLine ts) ts).length = ts.length := Nat.eq_of_beq_eq_true q4
  have sw : ∀ n, swapsWithSole [.Tuple ts k1 p1] (.Tuple xs k2 p2) n X.env = pure false := fun _ => rfl
  have st := stores_eq (k1 := k1) (k2 := k2) (p1 := p1) (p2 := p2) o q10 hok hl
  have n1 : ¬ (xs.all (foldedForSure 8) = true) := by simpa using q2
  have n2 : ¬ (xs.all (constantsAlone 8) = true) := by simpa using q1
  have hne : ∀ l : List Str, l.Nodup → l.eraseDups.length = l.length := fun l hl => by
    induction l with
    | nil => rfl
    | cons a l ih =>
      rw [List.nodup_cons] at hl
      rw [List.eraseDups_cons]
      have : List.filter (fun b => !b == a) l = l := by
        rw [List.filter_eq_self]
        intro b hb
        have : b ≠ a := fun e => hl.1 (e ▸ hb)
        simpa using this
      rw [this, List.length_cons, ih hl.2, List.length_cons]
  have sel : ((locNames c (headLine ts) ts).length != ts.length || (locNames c (headLine ts) ts).eraseDups.length != (locNames c (headLine ts) ts).length) = false := by
    rw [hne _ nd, ln]; simp
  rw [Bool.or_eq_true] at q9
  rcases q9 with q9 | q9
  · have l2 := Nat.eq_of_beq_eq_true q9
    obtain ⟨x1, x2, rfl⟩ := len2 (hl.trans l2)
    cases is with
    | nil => rw [namesAt_nil q6] at l2; cases l2
    | cons i is =>
      obtain ⟨y1, py1, ts, rfl, r1, r3, q6⟩ := namesAt_inv q6
      cases is with
      | nil => rw [namesAt_nil q6] at l2; cases l2
      | cons j is =>
        obtain ⟨y2, py2, ts, rfl, r4, r5, q6⟩ := namesAt_inv q6
        have e0 : ts = [] := List.length_eq_zero_iff.mp (by have l2x := l2; rw [List.length_cons, List.length_cons] at l2x; first | omega | (rw [List.length_cons] at l2x; omega))
        subst e0
        have e1 : is = [] := by
          cases is with
          | nil => rfl
          | cons _ _ => cases q6
        subst e1
        refine jpar2 (g.calm hcm).1 g.nd (nm_of o r1) (nm_of o r4) (by simpa using ndi) (isLocal_of o r3) (isLocal_of o r5) ja ?_ (sw _)
        rw [st, if_neg (by simp), if_neg (by rw [sel]; exact Bool.false_ne_true), if_neg n1, if_neg n2]
        have : locNames c (headLine [Expr.Name y1 py1, Expr.Name y2 py2]) [Expr.Name y1 py1, Expr.Name y2 py2] = [y1, y2] := by
          have ln' := ln
          unfold locNames locNames locNames at ln' ⊢
          cases h1 : (isLocal c.sc y1 && py1.line == headLine [Expr.Name y1 py1, Expr.Name y2 py2]) <;> cases h2 : (isLocal c.sc y2 && py2.line == headLine [Expr.Name y1 py1, Expr.Name y2 py2]) <;> simp [h1, h2] at ln' ⊢
        rw [this]
  · have l2 := Nat.eq_of_beq_eq_true q9
    obtain ⟨x1, x2, x3, rfl⟩ := len3 (hl.trans l2)
    cases is with
    | nil => rw [namesAt_nil q6] at l2; cases l2
    | cons i is =>
      obtain ⟨y1, py1, ts, rfl, r1, r3, q6⟩ := namesAt_inv q6
      cases is with
      | nil => rw [namesAt_nil q6] at l2; cases l2
      | cons j is =>
       obtain ⟨y2, py2, ts, rfl, r4, r5, q6⟩ := namesAt_inv q6
       cases is with
       | nil => rw [namesAt_nil q6] at l2; cases l2
       | cons l is =>
        obtain ⟨y3, py3, ts, rfl, r6, r7, q6⟩ := namesAt_inv q6
        have e0 : ts = [] := List.length_eq_zero_iff.mp (by have l2x := l2; rw [List.length_cons, List.length_cons] at l2x; first | omega | (rw [List.length_cons] at l2x; omega))
        subst e0
        have e1 : is = [] := by
          cases is with
          | nil => rfl
          | cons _ _ => cases q6
        subst e1
        have nd3 : (i ≠ j ∧ i ≠ l) ∧ j ≠ l := by simpa using ndi
        refine jpar3 (g.calm hcm).1 g.nd (nm_of o r1) (nm_of o r4) (nm_of o r6) nd3.1.1 nd3.1.2 nd3.2 (isLocal_of o r3) (isLocal_of o r5) (isLocal_of o r7) ja ?_ (sw _)
        rw [st, if_neg (by simp), if_neg (by rw [sel]; exact Bool.false_ne_true), if_neg n1, if_neg n2]
        have : locNames c (headLine [Expr.Name y1 py1, Expr.Name y2 py2, Expr.Name y3 py3]) [Expr.Name y1 py1, Expr.Name y2 py2, Expr.Name y3 py3] = [y1, y2, y3] := by
          have ln' := ln
          unfold locNames locNames locNames locNames at ln' ⊢
          cases h1 : (isLocal c.sc y1 && py1.line == headLine [Expr.Name y1 py1, Expr.Name y2 py2, Expr.Name y3 py3]) <;> cases h2 : (isLocal c.sc y2 && py2.line == headLine [Expr.Name y1 py1, Expr.Name y2 py2, Expr.Name y3 py3]) <;> cases h3 : (isLocal c.sc y3 && py3.line == headLine [Expr.Name y1 py1, Expr.Name y2 py2, Expr.Name y3 py3]) <;> simp [h1, h2, h3] at ln' ⊢
        rw [this]
end
end Fx

/-! Fx17b: a look that says yes is a proof: holes, defs as values, lambdas, suites. -/
namespace Fx
open PySem PySem.Spec PyProof.Rows L2 L2H HotX Fxh
section
variable {B : Bx} {F : Mx} {k : Nat} {a b d : Ex} {c : Ct} {X : Cx} {W : WX}
theorem snd_hole : Snd B F k .hole :=
  ⟨fun _ _ _ _ _ _ _ _ => ⟨je_no, fun z => nomatch z⟩, fun _ _ _ _ _ _ _ _ => jt_no, fun _ _ _ _ _ _ _ _ => jo_no, fun _ _ _ _ _ _ _ _ _ _ => ji_no, fun _ _ _ _ _ _ => jg_no, fun _ _ _ _ _ _ _ _ _ => js_no⟩
theorem snd_callV {i : Nat} {es : List Ex} (hs : ∀ e ∈ es, Snd B F k e) : Snd B F k (.callV i es) := snd_e rfl rfl rfl fun c X W x g o tk h => by
  obtain ⟨⟨y, xs⟩, h1, h2⟩ := anyO_some h
  obtain ⟨q, p, rfl⟩ := vCall_eq h1
  obtain ⟨h2, h3⟩ := and2 h2
  obtain ⟨h2, h4⟩ := and2 h2
  obtain ⟨h2, h5⟩ := and2 h2
  obtain ⟨h2, h6⟩ := and2 h2
  obtain ⟨hcm, h7⟩ := and2 h2
  obtain ⟨x0, r, rfl⟩ := len_ne h4
  obtain ⟨ja, hok, _⟩ := ja_of g o tk hs h3
  rw [List.all_cons, Bool.and_eq_true] at hok
  obtain ⟨n1, n2, _⟩ := okName_of h5
  refine ⟨fun _ _ => rfl, je_callV (k := 3 * k) (fun gg hg => ?_) (g.hr hcm) (nm_of o h7) (vis_of o h6) tk ja n1 n2 (okx_star hok.1 _ _) (plain_of hok.2 _ _)⟩
  obtain ⟨z, n, e⟩ := g.isF gg hg
  obtain ⟨f, fd, ps, f1, f2, f3, f4, f5⟩ := g.fns _ _ _ e
  exact ⟨n, f, fd, ps, f1, f3, f4, f5 hcm, g.len _ _ _ e⟩
theorem snd_word {j : Nat} (ha : Snd B F k a) : Snd B F k (.word j a) := snd_e rfl rfl rfl fun c X W x g o tk h => by
  obtain ⟨⟨y, ps, bd, scope⟩, h1, h2⟩ := anyO_some h
  obtain ⟨p, q, r, rfl⟩ := vLamC_eq h1
  obtain ⟨h2, h3⟩ := and2 h2
  obtain ⟨h2, h4⟩ := and2 h2
  obtain ⟨h2, h5⟩ := and2 h2
  obtain ⟨h2, h6⟩ := and2 h2
  obtain ⟨hcm, hlm⟩ := and2 h2
  have := noParams_eq h4
  subst this
  unfold wdC at h6
  split at h6
  · rename_i e
    obtain ⟨q1, q2, q3⟩ := glo_of o e
    obtain ⟨lm, hr⟩ := g.lam hlm
    refine ⟨fun _ _ => rfl, je_word (g.wds hlm _ _ q1) q2 (okName_of q3).1 lm hr (LamX.lamS_by (by rw [o.sc]; exact h5)) fun A outer s H E f' c' hr' => ?_⟩
    refine (ha.e (c.lamC scope) (lamCxN X A outer s H E scope f' c') (fun cls d _ H => E cls d H) bd ⟨g.hK, g.nd, hr'.units, fun _ => ⟨rfl, rfl⟩, fun _ => hr', g.fns, g.len, g.isF, g.nums, g.bis, g.excs, g.subs, g.atts, g.ves, fun h => (nomatch h), fun h => (nomatch h), fun h => (nomatch h), fun h => (nomatch h)⟩ ⟨o.N, rfl, fun x h => (nomatch h)⟩ ?_ h3).1
    exact L2N.takes_of rfl rfl rfl rfl
  · cases h6
theorem snd_rem (ha : Snd B F k a) (hb : Snd B F k b) : Snd B F k (.rem a b) := snd_e rfl rfl rfl fun c X W x g o tk h => by
  obtain ⟨⟨l, n, ap, xs, cp⟩, h1, h2⟩ := anyO_some h
  have := vMeth_eq h1
  subst this
  match xs, h2 with
  | [e], h2 =>
    obtain ⟨h2, h3⟩ := and2 h2
    obtain ⟨h2, h4⟩ := and2 h2
    obtain ⟨h2, h5⟩ := and2 h2
    obtain ⟨h2, h6⟩ := and2 h2
    obtain ⟨h2, h7⟩ := and2 h2
    obtain ⟨hcm, h8⟩ := and2 h2
    have := eq_of_beq h8
    subst this
    refine ⟨fun _ _ => rfl, je_rem (g.calm hcm).1 (ha.e c X W _ g o tk h4).1 (hb.e c X W _ g o tk h3).1 (okx_base h7 _ _) ?_ h6 (okx_star h5 _ _)⟩
    rw [plain_all (xs := [e]) (by rw [List.all_cons, h5]; rfl)]
    rfl
  | [], h2 => cases h2
  | _ :: _ :: _, h2 => cases h2
theorem snd_isOwn {j : Nat} (ha : Snd B F k a) : Snd B F k (.isOwn j a) := snd_e rfl rfl rfl fun c X W x g o tk h => by
  obtain ⟨⟨y, xs⟩, h1, h2⟩ := anyO_some h
  obtain ⟨q, p, rfl⟩ := vCall_eq h1
  match xs, h2 with
  | [l, r], h2 =>
    obtain ⟨k2, h3⟩ := and2 h2
    obtain ⟨k3, h4⟩ := and2 k2
    obtain ⟨k4, h5⟩ := and2 k3
    obtain ⟨hsu, k5⟩ := and2 k4
    obtain ⟨z, h6, h7⟩ := anyO_some h4
    obtain ⟨p2, rfl⟩ := vName_eq h6
    clear h h1 h2 k2 k3 h4
    obtain ⟨rfl, b1, b2⟩ := bi_of o g k5 (by decide)
    unfold excC at h7
    split at h7
    · rename_i e
      obtain ⟨q1, q2, q3⟩ := glo_of o e
      obtain ⟨C, hC, fx⟩ := g.excs _ _ q1
      refine ⟨fun _ _ => rfl, je_isX (g.suite hsu) b1 b2 (pe_glob (v := .ref C) q2 fx.gP rfl (okName_of q3).1) (fun u r => r) (fun x S v hv => ?_) (ha.e c X W _ g o tk h3).1 (okx_star h5 _ _) rfl⟩
      unfold oIsOwn at hv
      split at hv
      · rename_i cc
        split at hv
        · rename_i bb eb
          cases hv
          exact ⟨cc, bb, rfl, rfl, fun aC hA => let ⟨_, s2, s3⟩ := g.subs _ _ _ _ _ eb hA hC; ⟨s2, s3⟩⟩
        · cases hv
      · cases hv
    · cases h7
  | [], h2 => cases h2
  | [_], h2 => cases h2
  | _ :: _ :: _ :: _, h2 => cases h2
theorem snd_isVE (ha : Snd B F k a) : Snd B F k (.isVE a) := snd_e rfl rfl rfl fun c X W x g o tk h => by
  obtain ⟨⟨y, xs⟩, h1, h2⟩ := anyO_some h
  obtain ⟨q, p, rfl⟩ := vCall_eq h1
  match xs, h2 with
  | [l, r], h2 =>
    obtain ⟨k2, h3⟩ := and2 h2
    obtain ⟨k3, h4⟩ := and2 k2
    obtain ⟨k4, h5⟩ := and2 k3
    obtain ⟨hsu, k5⟩ := and2 k4
    obtain ⟨z, h6, h7⟩ := anyO_some h4
    obtain ⟨p2, rfl⟩ := vName_eq h6
    clear h h1 h2 k2 k3 h4
    obtain ⟨rfl, b1, b2⟩ := bi_of o g k5 (by decide)
    obtain ⟨rfl, b3, b4⟩ := bi_of o g h7 (by decide)
    refine ⟨fun _ _ => rfl, je_isX (g.suite hsu) b1 b2 (pe_bltn (v := .ty "ValueError") b3 b4 (by decide +kernel) rfl (by decide) (by decide)) (fun u r => r) (fun x S v hh => ?_) (ha.e c X W _ g o tk h3).1 (okx_star h5 _ _) rfl⟩
    unfold oIsVE at hh
    split at hh
    · rename_i cc
      split at hh
      · rename_i hve
        cases hh
        exact ⟨cc, true, rfl, rfl, fun aC hA => g.ves cc aC hve hA⟩
      · cases hh
    · cases hh
  | [], h2 => cases h2
  | [_], h2 => cases h2
  | _ :: _ :: _ :: _, h2 => cases h2
theorem plainB_base {x : Expr} (h : plainB x = true) (n : Str) (env : PySem.Env) : attributeBase x n env (eval x env) = eval x env := by
  cases x <;> first | rfl | cases h
theorem snd_attr {n : Str} (ha : Snd B F k a) : Snd B F k (.attr a n) := snd_e rfl rfl rfl fun c X W x g o tk h => by
  obtain ⟨⟨l, m⟩, h1, h2⟩ := anyO_some h
  obtain ⟨p, rfl⟩ := vAttr_eq h1
  obtain ⟨h2, h3⟩ := and2 h2
  obtain ⟨h2, h4⟩ := and2 h2
  obtain ⟨hsu, h5⟩ := and2 h2
  have := eq_of_beq h5
  subst this
  exact ⟨fun _ _ => rfl, je_attr (g.suite hsu) (fun c C h1 h2 => g.atts _ _ _ h1 h2) (ha.e c X W _ g o tk h3).1 (plainB_base h4 _ _)⟩
theorem pts_ofH (hc : c.calm = false) (hh : c.hot = true) (g : Good B F k c X) (o : On c X) {es : List Ex} {xs : List Expr} (hs : ∀ e ∈ es, Snd B F k e) (h : allT (looks es) c xs = true) (hl : xs.length ≤ 1) : PTs X xs (tJT B W0 (tIfs ((dens F es).map D.t))) := pts_of g o hs h hl
theorem snd_sSetH {i : Nat} {own : List (Str × Nat)} {tg a elt : Ex} {ifs : List Ex} (ht : Snd B F k tg) (ha : Snd B F k a) (hf : ∀ e ∈ ifs, Snd B F k e) (he : Snd B F k elt) : Snd B F k (.sSetH i own tg a ifs elt) := snd_s rfl rfl fun c X W s g o tk po h => by
  obtain ⟨⟨t, x, p⟩, h1, h2⟩ := anyO_some h
  have := vsAsg_eq h1
  subst this
  obtain ⟨y, h3, h4⟩ := anyO_some h2
  obtain ⟨⟨l, tt, it, fs, scope⟩, h5, h6⟩ := anyO_some h4
  obtain ⟨py, rfl⟩ := vName_eq h3
  obtain ⟨pc, rfl⟩ := vComp_eq h5
  clear h h1 h2 h3 h4 h5
  obtain ⟨h2, q1⟩ := and2 h6
  obtain ⟨h2, q2⟩ := and2 h2
  obtain ⟨h2, q3⟩ := and2 h2
  obtain ⟨h2, q4⟩ := and2 h2
  obtain ⟨h2, q5⟩ := and2 h2
  obtain ⟨h2, q6⟩ := and2 h2
  obtain ⟨h2, q7⟩ := and2 h2
  obtain ⟨h2, q8⟩ := and2 h2
  obtain ⟨h2, q9⟩ := and2 h2
  obtain ⟨h2, q10⟩ := and2 h2
  obtain ⟨h2, q11⟩ := and2 h2
  obtain ⟨q13, q12⟩ := and2 h2
  have hc : c.calm = false := by
    cases e : c.calm with
    | false => rfl
    | true => have := (g.calm e).2; rw [q11] at this; cases this
  have ok : BlkOk X.N X.env.scope scope own := by rw [o.N, o.sc]; exact blkOk_by q8
  have jg := fun s H C cl fp => ht.g (c.blk scope) _ tt (g.blkH hc q11 s H scope C cl fp) (o.blkH s H scope C cl fp) q4
  have jt := fun s H C cl fp => pts_of (c := c.blk scope) (g.blkH hc q11 s H scope C cl fp) (o.blkH s H scope C cl fp) hf q3 (of_decide_eq_true q2)
  have je := fun s H C cl fp => (he.e (c.blk scope) _ W0 l (g.blkH hc q11 s H scope C cl fp) (o.blkH s H scope C cl fp) takes0N q1).1
  refine js_setLcH (g.hot q11) g.nd (nm_of o q13) (isLocal_of o q12) ?_ (ha.e c X W it g o tk q5).1 ok (subL_of q7) jg jt je (okx_fold q6 _)
  rw [swaps_eq o q10, q9]
end
end Fx

/-! Fx18: a look that says yes is a proof: all texts; a module's defs. -/
namespace Fx
open PySem PySem.Spec PyProof.Rows L2 L2H HotX Fxh
section
variable {B : Bx} {F : Mx} {k : Nat}
theorem all_nil {P : Ex → Prop} : ∀ e ∈ ([] : List Ex), P e := fun _ h => absurd h (by simp)
theorem all_cons {P : Ex → Prop} {e : Ex} {es : List Ex} (h : P e) (hs : ∀ e ∈ es, P e) : ∀ x ∈ e :: es, P x := fun x hx => by
  rcases List.mem_cons.mp hx with rfl | hx
  · exact h
  · exact hs x hx
mutual
theorem snd : ∀ e : Ex, Snd B F k e
  | .int i => snd_int
  | .bl b => snd_bl
  | .non => snd_non
  | .str x => snd_str
  | .var i => snd_var
  | .gint g i => snd_gint
  | .gfn g => snd_gfn
  | .bin op a b => snd_bin (snd a) (snd b)
  | .addL a b => snd_addL (snd a) (snd b)
  | .mulL a b => snd_mulL (snd a) (snd b)
  | .neg a => snd_neg (snd a)
  | .cmp op a b => snd_cmp (snd a) (snd b)
  | .chain op op' a b c => snd_chain (snd a) (snd b) (snd c)
  | .bool op es => snd_bool (snds es)
  | .not a => snd_not (snd a)
  | .ite t a b => snd_ite (snd t) (snd a) (snd b)
  | .tup es => snd_tup (snds es)
  | .lst es => snd_lst (snds es)
  | .mu a => snd_mu (snd a)
  | .idx a b => snd_idx (snd a) (snd b)
  | .slc a lo hi => snd_slc (snd a) (snd lo) (snd hi)
  | .nix => snd_nix
  | .rev a => snd_rev (snd a)
  | .call g es => snd_call (snds es)
  | .bi kd es => snd_bi (snds es)
  | .isTy t a => snd_isTy (snd a)
  | .meth kd o es => snd_meth (snd o) (snds es)
  | .lrg es => snd_lrg (snds es)
  | .trg es => snd_trg (snds es)
  | .comp own tg it ifs elt => snd_comp (snd tg) (snd it) (snds ifs) (snd elt)
  | .comp2 own own1 tg it ifs tg1 it1 ifs1 elt => snd_comp2 (snd tg) (snd it) (snds ifs) (snd tg1) (snd it1) (snds ifs1) (snd elt)
  | .iSeq a => snd_iSeq (snd a)
  | .iRange es => snd_iRange (snds es)
  | .iZip es => snd_iZip (snds es)
  | .iEnum a => snd_iEnum (snd a)
  | .gVar i => snd_gVar
  | .gTup es => snd_gTup (snds es)
  | .gSub a b => snd_gSub (snd a) (snd b)
  | .sExpr a => snd_sExpr (snd a)
  | .sRet a => snd_sRet (snd a)
  | .sRetN => snd_sRetN
  | .sIf t a b => snd_sIf (snd t) (snds a) (snds b)
  | .sAsg tg a => snd_sAsg (snd tg) (snd a)
  | .sAsgC i m a => snd_sAsgC (snd a)
  | .sPar is es => snd_sPar (snds es)
  | .sFor tg it b => snd_sFor (snd tg) (snd it) (snds b)
  | .sWhile t b => snd_sWhile (snd t) (snds b)
  | .sRaise g m => snd_sRaise
  | .hole => snd_hole
  | .callV i es => snd_callV (snds es)
  | .word g a => snd_word (snd a)
  | .isOwn g a => snd_isOwn (snd a)
  | .isVE a => snd_isVE (snd a)
  | .attr a f => snd_attr (snd a)
  | .rem o a => snd_rem (snd o) (snd a)
  | .gTupH es => snd_gTupH (snds es)
  | .sSetH i own tg a ifs elt => snd_sSetH (snd tg) (snd a) (snds ifs) (snd elt)
theorem snds : ∀ es : List Ex, ∀ e ∈ es, Snd B F k e
  | [] => all_nil
  | e :: es => all_cons (snd e) (snds es)
end
end
/-! ### defs -/
structure Def where
  arity : Nat
  names : List Str
  body : List Ex
  lam : Bool
/-- a global of the text: a def, a number, an own error (its place, its base), a def that calls what it is handed -/
inductive Gm where
  | df (x : Str) (d : Def) | nu (x : Str) (i : Int) | ex (i : Nat) (x : Str) (par : Option Nat) | wd (x : Str) (d : WDef)
def Gm.gk : Gm → Str × GK
  | .df x d => (x, .fn d.arity)
  | .nu x i => (x, .int i)
  | .ex _ x _ => (x, .exc)
  | .wd x _ => (x, .wd)
def gsM (ms : List Gm) : List (Str × GK) := ms.map Gm.gk
def subN (ms : List Gm) : Nat → Nat → Nat → Bool
  | 0, _, _ => false
  | k + 1, c, d => Nat.beq c d || match ms[c]? with
    | some (.ex _ _ (some p)) => subN ms k p d
    | _ => false
def isExM (ms : List Gm) (c : Nat) : Bool := match ms[c]? with
  | some (.ex _ _ _) => true
  | _ => false
def subM (ms : List Gm) (c d : Nat) : Option Bool := if isExM ms c && isExM ms d then some (subN ms 8 c d) else none
def isFM (ms : List Gm) (g : Nat) : Bool := match ms[g]? with
  | some (.df _ _) => true
  | _ => false
def baseM (ms : List Gm) : Mx := ⟨isFM ms, fun _ _ _ => .no, fun _ _ _ => .no, subM ms, fun _ _ => false, isExM ms⟩
def wdM (ms : List Gm) (g : Nat) (act : Sto → R PV) (S : Sto) : R PV := match ms[g]? with
  | some (.wd _ d) => wordRun (baseM ms) d (act S)
  | _ => .no
def fnM (ms : List Gm) (M : Mx) (g : Nat) : VF := match ms[g]? with
  | some (.df _ d) => runDef d.arity d.names.length (ssL (dens M d.body))
  | _ => fun _ _ => .no
/-- the meaning of the defs, calls nested no deeper than k -/
def Sem (ms : List Gm) : Nat → Mx
  | 0 => { baseM ms with Wd := wdM ms }
  | k + 1 => { baseM ms with F := fnM ms (Sem ms k), Wd := wdM ms }
def lamQ (x : Str) : Str := x ++ ".<locals>." ++ "<lambda>"
/-- what is known of the module: names, defs, numbers, errors -/
structure Mdl (B : Bx) (K : PySem.W.Frag) (mg : Str → Option Value) (cs : List (Addr × Addr)) (ms : List Gm) : Prop where
  hK : B.K = K
  err : B.err = none
  fns : ∀ (g : Nat) (x : Str) (d : Def), ms[g]? = some (.df x d) → ∃ f fd st, B.fa g = some f ∧ mg x = some (.ref f) ∧ L2.Fun K x x st f fd ∧ Binds K fd (d.names.take d.arity) [] ∧ FnScope d.names (d.names.take d.arity) (defScope st) ∧ (d.names.take d.arity).length = d.arity ∧
    (d.lam = true → ∃ cc P, fd.code = .ref cc ∧ (cc, P) ∈ cs ∧ (P, lamQ x) ∈ B.T ∧ ∀ p ∈ B.T, p.1 = P → p.2 = lamQ x) ∧
    allS (looks d.body) ⟨d.names, defScope st, fun _ => true, gsM ms, true, false, false, d.lam⟩ (defBody st) = true
  nums : ∀ (g : Nat) (x : Str) (i : Int), ms[g]? = some (.nu x i) → ∃ t, mg x = some (Value.int i t)
  bis : ∀ x ∈ biNames, mg x = none
  excs : ∀ (g i : Nat) (x : Str) (p : Option Nat), ms[g]? = some (.ex i x p) → ∃ C, B.fa g = some C ∧ ExcFacts K mg x C
  subs : ∀ (g h : Nat) (b : Bool) (aC aD : Addr), subM ms g h = some b → B.fa g = some aC → B.fa h = some aD → PySem.W.exmOne K (.ref aC) (.ref aD) = some b ∧ PySem.W.kitOne K (.ref aC) (.ref aD) = some b ∧ ExcC K aC
  ves : ∀ (g : Nat) (aC : Addr), isExM ms g = true → B.fa g = some aC → PySem.W.kitOne K (.ref aC) (.type "ValueError") = some true ∧ ExcC K aC
  wds : ∀ (g : Nat) (x : Str) (d : WDef), ms[g]? = some (.wd x d) → ∃ f a oc od st kV doc pm cdv ct an osl, mg x = some (.ref f) ∧ PySem.W.keepIn K (.ref f) = true ∧ K.lookup f = some ⟨oc, od, .func (PySem.W.fnOf x x (defArgs st) (defBody st) (defScope st) .none kV doc pm an cdv ct), osl⟩ ∧ PySem.W.codeIn K cdv x = true ∧
    Binds K (PySem.W.fnOf x x (defArgs st) (defBody st) (defScope st) .none kV doc pm an cdv ct) [a] [] ∧ FnScope d.names [a] (defScope st) ∧ d.names[0]? = some a ∧ lookW d (gsM ms) (defScope st) (defBody st) = true
section
variable {B : Bx} {K : PySem.W.Frag} {mg : Str → Option Value} {cs : List (Addr × Addr)} {ms : List Gm} {X : Cx} {W : WX}
theorem gs_df {g : Nat} {x : Str} {n : Nat} (h : (gsM ms)[g]? = some (x, GK.fn n)) : ∃ d, ms[g]? = some (.df x d) ∧ d.arity = n := by
  unfold gsM at h
  rw [List.getElem?_map] at h
  cases e : ms[g]? with
  | none => rw [e] at h; cases h
  | some m =>
    rw [e] at h
    cases m <;> cases h
    exact ⟨_, rfl, rfl⟩
theorem gs_nu {g : Nat} {x : Str} {i : Int} (h : (gsM ms)[g]? = some (x, GK.int i)) : ms[g]? = some (.nu x i) := by
  unfold gsM at h
  rw [List.getElem?_map] at h
  cases e : ms[g]? with
  | none => rw [e] at h; cases h
  | some m =>
    rw [e] at h
    cases m <;> cases h
    rfl
theorem gs_ex {g : Nat} {x : Str} (h : (gsM ms)[g]? = some (x, GK.exc)) : ∃ i p, ms[g]? = some (.ex i x p) := by
  unfold gsM at h
  rw [List.getElem?_map] at h
  cases e : ms[g]? with
  | none => rw [e] at h; cases h
  | some m =>
    rw [e] at h
    cases m <;> cases h
    exact ⟨_, _, rfl⟩
theorem gs_wd {g : Nat} {x : Str} (h : (gsM ms)[g]? = some (x, GK.wd)) : ∃ d, ms[g]? = some (.wd x d) := by
  unfold gsM at h
  rw [List.getElem?_map] at h
  cases e : ms[g]? with
  | none => rw [e] at h; cases h
  | some m =>
    rw [e] at h
    cases m <;> cases h
    exact ⟨_, rfl⟩
theorem fnM_len {M : Mx} {g : Nat} {x : Str} {d : Def} (h : ms[g]? = some (.df x d)) : ∀ vs S, vs.length ≠ d.arity → fnM ms M g vs S = .no := fun vs S hn => by
  unfold fnM
  rw [h]
  exact runDef_len vs S hn
theorem sem_len {k g : Nat} {x : Str} {d : Def} (h : ms[g]? = some (.df x d)) : ∀ vs S, vs.length ≠ d.arity → (Sem ms k).F g vs S = .no := by
  cases k with
  | zero => exact fun _ _ _ => rfl
  | succ k => exact fnM_len h
theorem isFM_of {g : Nat} (h : isFM ms g = true) : ∃ (x : Str) (n : Nat), (gsM ms)[g]? = some (x, GK.fn n) := by
  unfold isFM at h
  split at h
  · rename_i x d e
    exact ⟨x, d.arity, by unfold gsM; rw [List.getElem?_map, e]; rfl⟩
  · cases h
/-- the parts of Good that the module tells -/
theorem good_of (M : Mdl B K mg cs ms) {F : Mx} {k : Nat} {c : Ct} (hF : F.isF = isFM ms ∧ F.sub = subM ms ∧ F.att = (fun _ _ => false) ∧ F.ve = isExM ms) (hc : c.gs = gsM ms) {B' : Bx} (hBK : B'.K = B.K) (hBf : B'.fa = B.fa) (hk : X.K = K) (hm : X.mg = mg) (nd : X.N.Nodup) (un : X.A.units + 64 < cLine)
    (calm : c.calm = true → X.calm = true ∧ c.hot = false) (hr : c.calm = true → Room (3 * k) X.A)
    (hfn : c.calm = true → ∀ (g : Nat) (x : Str) (d : Def) (f : Addr) (fd : FuncData), ms[g]? = some (.df x d) → mg x = some (.ref f) → (∃ st, L2.Fun K x x st f fd) → FnOk X.prog X.w X.K X.mg X.base (L2N.CX X.prog X.w) (3 * k) f fd (d.names.take d.arity) (spOf B' (F.F g) d.arity))
    (hlen : ∀ (g : Nat) (x : Str) (d : Def), ms[g]? = some (.df x d) → ∀ vs S, vs.length ≠ d.arity → F.F g vs S = .no)
    (su : c.suite = true → Suite B' X) (hot : c.hot = true → L2H.HotC X) (lam : c.lam = true → LamOk B' X ∧ Room (3 * k + 2) X.A)
    (wds : c.lam = true → ∀ (g : Nat) (x : Str), c.gs[g]? = some (x, GK.wd) → WdOk B' F k X.prog X.w X.K X.mg X.base g x) : Good B' F k c X := by
  have fK : B'.K = K := hBK.trans M.hK
  have fa : B'.fa = B.fa := hBf
  refine ⟨fK.trans hk.symm, nd, un, calm, hr, fun g x n h => ?_, fun g x n h => ?_, fun g h => ?_, fun g x i h => ?_, fun x hx => ?_, fun g x h => ?_, fun g h b aC aD q1 q2 q3 => ?_, fun g n C q1 _ => ?_, fun g aC q1 q2 => ?_, su, hot, lam, wds⟩
  · rw [hc] at h
    obtain ⟨d, h1, rfl⟩ := gs_df h
    obtain ⟨f, fd, st, f1, f2, f3, f4, f5, f6, _⟩ := M.fns g x d h1
    rw [fa, hk, hm]
    rw [hk, hm] at hfn
    exact ⟨f, fd, _, f1, f2, f3.kp, f4, fun q => hfn q g x d f fd h1 f2 ⟨st, f3⟩⟩
  · rw [hc] at h
    obtain ⟨d, h1, rfl⟩ := gs_df h
    exact hlen g x d h1
  · rw [hF.1] at h
    rw [hc]
    exact isFM_of h
  · rw [hc] at h
    rw [hm]
    exact M.nums g x i (gs_nu h)
  · rw [hm]; exact M.bis x hx
  · rw [hc] at h
    obtain ⟨i, p, h1⟩ := gs_ex h
    rw [fa, hk, hm]
    exact M.excs g i x p h1
  · rw [hF.2.1] at q1
    rw [fa] at q2 q3
    rw [hk]
    exact M.subs g h b aC aD q1 q2 q3
  · rw [hF.2.2.1] at q1; cases q1
  · rw [hF.2.2.2] at q1
    rw [fa] at q2
    rw [hk]
    exact M.ves g aC q1 q2
end
end Fx

/-! Fx18b: defs that call what they are handed; all defs of a module. -/
namespace Fx
open PySem PySem.Spec PyProof.Rows L2 L2H HotX Fxh
theorem flAll_lookup : ∀ {l : List (Str × PV)} {q : List (Str × Fl)}, errOf.flAll l = some q → q ≠ [] ∧ ∀ f y, q.lookup f = some y → l.lookup f = some (flP y)
  | [], q, h => by cases h
  | [p], q, h => by
    unfold errOf.flAll at h
    cases e : errOf.flOne p.2 with
    | none => rw [e] at h; cases h
    | some y =>
      rw [e] at h
      cases h
      refine ⟨by simp, fun f z hz => ?_⟩
      obtain ⟨a, b⟩ := p
      have eb : b = flP y := by
        cases b <;> first | (cases e; rfl) | cases e
      simp only [List.lookup] at hz ⊢
      split at hz
      · cases hz; rw [eb]
      · cases hz
  | p :: p2 :: r, q, h => by
    unfold errOf.flAll at h
    cases e : errOf.flOne p.2 with
    | none => rw [e] at h; cases h
    | some y =>
      rw [e] at h
      cases e2 : errOf.flAll (p2 :: r) with
      | none => rw [e2] at h; cases h
      | some q2 =>
        rw [e2] at h
        cases h
        obtain ⟨_, ih⟩ := flAll_lookup e2
        refine ⟨by simp, fun f z hz => ?_⟩
        obtain ⟨a, b⟩ := p
        have eb : b = flP y := by
          cases b <;> first | (cases e; rfl) | cases e
        rw [List.lookup] at hz ⊢
        dsimp only at hz ⊢
        split at hz
        · cases hz; rw [eb]
        · exact ih f z hz
theorem errOf_rep {B : Bx} {m : Mp} {Rv : Rsv} {N : Nat} {H : Hp} {x : PX} {cls : Value} {dd : Option Addr} {e : PV} {a : Addr} (h : ExcRep B m Rv N H x cls dd) (he : errOf x = some e) : RepV (B.withE ⟨a, cls, dd⟩) m Rv N H e (.ref a) := by
  obtain ⟨⟨a0, h1, h2⟩, h3⟩ := h
  unfold errOf at he
  cases ef : x.fs with
  | none =>
    rw [ef] at he h3
    cases he
    unfold RepV
    exact ⟨_, rfl, rfl, ⟨a0, h1, h2⟩, h3⟩
  | some fs =>
    rw [ef] at he h3
    dsimp only at he h3
    cases e2 : errOf.flAll fs with
    | none => rw [e2] at he; cases he
    | some q =>
      rw [e2] at he
      cases he
      obtain ⟨h4, h5⟩ := flAll_lookup e2
      obtain ⟨dv, gs, h6, h7, h8⟩ := h3
      unfold RepV
      refine ⟨_, rfl, rfl, ⟨a0, h1, h2⟩, ?_⟩
      cases q with
      | nil => exact absurd rfl h4
      | cons q0 q =>
        refine ⟨dv, gs, h6, h7, fun f y hy => ?_⟩
        obtain ⟨v, h9, h10⟩ := h8 f _ (h5 f y hy)
        rw [h9]
        cases y with
        | int i => rw [repV_int h10]; rfl
        | str s => rw [repV_str h10]; rfl
theorem rep_wEnv {B : Bx} {m : Mp} {Rv : Rsv} {N n : Nat} {H : Hp} {σ : L2.St} (h : σ.length = n) : RepE B m Rv N H (wEnv n) σ := by
  refine ⟨by unfold wEnv; rw [List.length_replicate, h], fun i x e => ?_⟩
  unfold wEnv at e
  rw [List.getElem?_replicate] at e
  split at e <;> cases e
section
variable {B : Bx} {P : Program} {w : World} {K : PySem.W.Frag} {mg : Str → Option Value} {base : Heap} {cs : List (Addr × Addr)} {ms : List Gm}
theorem fn_no {B : Bx} {k n : Nat} {f : Addr} {fd : FuncData} {ps : List Str} {CX : CXT} (hl : ps.length = n) : FnOk P w K mg base CX k f fd ps (spOf B (fun _ _ => .no) n) :=
  ⟨fun vs H Q E h => by rw [h.1, hl], fun A outer s H args us vs Q E hr e0 hb hv h => by
    obtain ⟨_, m, Rv, S, ps, _, _, hp⟩ := h
    exact hp.elim⟩
/-- the context of such a def's body -/
abbrev wdCx (X : Cx) (d : WDef) (x : Str) (sc : Scope) (f : Addr) (cdv : Value) (s : Shared) (H : Hp) : Cx := (cxOf C8.CX0 X.prog X.w X.K X.mg X.base d.names x sc f cdv X.A X.stack s H C8.E0).nox
theorem good_rest (M : Mdl B K mg cs ms) {X : Cx} {k : Nat} {d : WDef} {x a : Str} {sc : Scope} {f : Addr} {cdv : Value} {s : Shared} {H : Hp} (hK : X.K = K) (hm : X.mg = mg) (S : FnScope d.names [a] sc) (hr : Room (3 * k + 2) X.A) :
    Good B (baseM ms) k (cRest d (gsM ms) sc) (wdCx X d x sc f cdv s H) := by
  have hr' : Room (3 * k) (wdCx X d x sc f cdv s H).A := (Room.deeper (k := 3 * k + 1) hr _).mono (Nat.le_succ _)
  refine good_of M ⟨rfl, rfl, rfl, rfl⟩ rfl rfl rfl hK hm S.nd hr'.units (fun _ => ⟨rfl, rfl⟩) (fun _ => hr') (fun _ g y dd f2 fd h1 h2 h3 => ?_) (fun _ _ _ _ _ _ _ => rfl) (fun h => (nomatch h)) (fun h => (nomatch h)) (fun h => (nomatch h)) (fun h => (nomatch h))
  obtain ⟨_, _, _, _, _, _, _, _, h6, _⟩ := M.fns g y dd h1
  exact fn_no h6
theorem good_suite (M : Mdl B K mg cs ms) {X : Cx} {k : Nat} {d : WDef} {x a : Str} {sc : Scope} {f : Addr} {cdv : Value} {s : Shared} {H : Hp} (hK : X.K = K) (hm : X.mg = mg) (S : FnScope d.names [a] sc) (hr : Room (3 * k + 2) X.A) {ae : Addr} {oe : Obj} {cls : Value} {dd : Option Addr} {pn : List (Addr × Obj)}
    (hz : L2N.Zn cls dd oe) (hf : ∃ vs, oe.data = .fields vs) : Good (B.withE ⟨ae, cls, dd⟩) (baseM ms) k (cSuite d (gsM ms) sc) ((wdCx X d x sc f cdv s H).suite ae ((ae, oe) :: pn)) := by
  have hr' : Room (3 * k) (wdCx X d x sc f cdv s H).A := (Room.deeper (k := 3 * k + 1) hr _).mono (Nat.le_succ _)
  refine good_of M ⟨rfl, rfl, rfl, rfl⟩ rfl rfl rfl hK hm S.nd hr'.units (fun h => (nomatch h)) (fun h => (nomatch h)) (fun h => (nomatch h)) (fun _ _ _ _ _ _ _ => rfl) (fun _ => ⟨_, ae, oe, cls, dd, pn, rfl, hz, hf, rfl⟩) (fun _ => ?_) (fun h => (nomatch h)) (fun h => (nomatch h))
  obtain ⟨vs, hd⟩ := hf
  exact ⟨(ae, oe), ⟨rfl, vs, hd, hz.2.2 vs hd⟩, List.mem_cons_self⟩
theorem hds_of (M : Mdl B K mg cs ms) {X : Cx} {k : Nat} {d : WDef} {x a : Str} {sc : Scope} {f : Addr} {cdv : Value} {s : Shared} {H : Hp} (hK : X.K = K) (hm : X.mg = mg) (S : FnScope d.names [a] sc) (hr : Room (3 * k + 2) X.A) : ∀ {cl : List (Nat × Nat × List Ex)} {hs : List ExceptHandler}, lookHs d (gsM ms) sc cl hs = true →
    ∃ l, HdsAs (wdCx X d x sc f cdv s H) hs l ∧ ∀ (D : Ends) (Q : VK), D.rt = Q → ∀ cls dd σ H', σ.length = d.names.length → ClP B (baseM ms) d.names.length cl Q cls dd H' → wManyAs X.K W0 D l cls dd σ H'
  | [], hs, h => by
    cases hs with
    | nil => exact ⟨[], .nil, fun D Q hD cls dd σ H' hl ⟨y, S1, m, Rv, h1, h2, h3⟩ => (show False from h3).elim⟩
    | cons _ _ => cases h
  | (c, i, fs) :: r, hs, h => by
    match hs, h with
    | .ExceptHandler (some (.Name xx np)) (some nn) (b :: ss) pos :: hs, h =>
      have h' : (excC (cRest d (gsM ms) sc) c xx && nameIs (cRest d (gsM ms) sc) i nn && isLocal sc nn && allS (looks fs) (cSuite d (gsM ms) sc) (b :: ss) && lookHs d (gsM ms) sc r hs) = true := h
      obtain ⟨h', k1⟩ := and2 h'
      obtain ⟨h', k2⟩ := and2 h'
      obtain ⟨h', k3⟩ := and2 h'
      obtain ⟨k5, k4⟩ := and2 h'
      have oR : On (cRest d (gsM ms) sc) (wdCx X d x sc f cdv s H) := ⟨rfl, rfl, fun _ _ => rfl⟩
      obtain ⟨l, ih1, ih2⟩ := hds_of M (X := X) (k := k) (x := x) (f := f) (cdv := cdv) (s := s) (H := H) hK hm S hr k1
      unfold excC at k5
      split at k5
      · rename_i e
        obtain ⟨q1, q2, q3⟩ := glo_of oR e
        obtain ⟨i0, p0, q4⟩ := gs_ex q1
        obtain ⟨C, hC, fx⟩ := M.excs c i0 xx p0 q4
        refine ⟨(i, .ref C, fun a cls dd => tJS (B.withE ⟨a, cls, dd⟩) W0 (ssL (dens (baseM ms) fs))) :: l, .cons ⟨q2, (okName_of q3).1, .inl (by show X.mg xx = _; rw [hm]; exact fx.gP)⟩ (nm_of oR k4) (isLocal_of oR k3) (fun ae oe cls dd pn hz hf => ?_) ih1, ?_⟩
        · exact (jss_of (good_suite M hK hm S hr hz hf) ⟨rfl, rfl, fun _ _ => rfl⟩ takes0N PassesOwn.never (fun e _ => snd e) k2).pss
        · intro D Q hD cls dd σ H' hl hcl
          obtain ⟨y, S1, m, Rv, hs1, er, hp⟩ := hcl
          obtain ⟨a0, ha0, hcls⟩ := er.1
          unfold wordCl at hp
          split at hp
          · rename_i es
            have sb := (M.subs y.cls c true a0 C es ha0 hC).1
            rw [← hcls, ← hK] at sb
            refine ⟨true, sb, fun _ ae na => ?_, fun z => nomatch z⟩
            split at hp
            · rename_i ev ee
              refine ⟨(wEnv d.names.length).set i (some ev), S1, m, Rv, (rep_wEnv hl).set i (errOf_rep er ee), hs1.lift M.err, ?_⟩
              split at hp
              · rename_i v S2 es2
                rw [es2]
                split at hp
                · rename_i hn
                  obtain ⟨hn1, hn2⟩ := and2 hn
                  intro m' Rv' H2 z e2 rz
                  show D.rt z H2
                  rw [hD]
                  exact hp m' Rv' H2 (e2.drop hn2) z (RepV.unE v z hn1 rz)
                · exact hp.elim
              · exact hp.elim
            · exact hp.elim
          · rename_i es
            have sb := (M.subs y.cls c false a0 C es ha0 hC).1
            rw [← hcls, ← hK] at sb
            exact ⟨false, sb, fun z => (nomatch z), fun _ => ih2 D Q hD cls dd σ H' hl ⟨y, S1, m, Rv, hs1, er, hp⟩⟩
          · exact hp.elim
      · cases k5
    | [], h => cases h
    | .ExceptHandler none _ _ _ :: _, h => cases h
theorem word_ok (M : Mdl B K mg cs ms) {F : Mx} {k g : Nat} {x : Str} {d : WDef} (hg : ms[g]? = some (.wd x d)) (hF : ∀ act S, F.Wd g act S = wordRun (baseM ms) d (act S)) : WdOk B F k P w K mg base g x := by
  obtain ⟨f, a, oc, od, st, kV, doc, pm, cdv, ct, an, osl, h1, h2, h3, h4, h5, h6, h7, h8⟩ := M.wds g x d hg
  unfold lookW at h8
  split at h8
  · rename_i a' p1 p2 p3 h hs p4 rest eb
    obtain ⟨h8, k1⟩ := and2 h8
    obtain ⟨h8, k2⟩ := and2 h8
    obtain ⟨h8, k3⟩ := and2 h8
    obtain ⟨k5, k4⟩ := and2 h8
    have ea : a' = a := by
      unfold nameIs at k5
      split at k5
      · rename_i y ey
        have ey' : d.names[0]? = some y := ey
        rw [h7] at ey'
        cases ey'
        exact (eq_of_beq k5).symm
      · cases k5
    subst ea
    obtain ⟨n1, n2, _⟩ := okName_of k3
    have va : Vis (defScope st) a' := by
      unfold visC at k4
      unfold Vis
      split at k4
      · exact .inl (by assumption)
      · exact .inr (.inl (by assumption))
      · exact .inr (.inr (by assumption))
      · cases k4
    refine ⟨d, baseM ms, f, a', oc, od, defArgs st, defBody st, defScope st, .none, kV, doc, pm, cdv, ct, an, osl, h1, h2, h3, h4, h5, h6, h7, va, n1, n2, hF, fun X hP hw hK hm hb hr q f' c' s H Q tl act hc htt => ?_⟩
    obtain ⟨l, hd1, hd2⟩ := hds_of M (X := X) (k := k) (x := x) (f := f) (cdv := cdv) (s := s) (H := H) hK hm h6 hr k2
    have jr := (jss_of (X := wdCx X d x (defScope st) f cdv s H) (good_rest M hK hm h6 hr) ⟨rfl, rfl, fun _ _ => rfl⟩ takes0N PassesOwn.never (fun e _ => snd e) k1).pss
    have jr2 : PSs (wdCx X d x (defScope st) f cdv s H) rest (fun D σ H' => ∃ S m Rv, Fx.St B m Rv S H' ∧ PostF B W0 m Rv S H' (ssL (dens (baseM ms) d.rest) (wEnv d.names.length) S) D) :=
      ⟨fun pins s' σ H' D I ⟨S, m, Rv, q1, q2⟩ => jr.run pins s' σ H' D I ⟨_, S, m, Rv, rep_wEnv I.len, q1, q2⟩⟩
    have hn0 : (L2.start d.names [V.ref f'])[0]? = some (some (V.ref f')) := by rfl
    have hln : (L2.start d.names [V.ref f']).length = d.names.length := by
      have : 0 < d.names.length := lt_of_get h7
      unfold L2.start
      simp
      omega
    rw [eb]
    refine ⟨_, pss_cons (ps_try_manyAs (X := wdCx X d x (defScope st) f cdv s H) (l := l) (Wout := W0)
      (tb := fun W D σ H => ∃ Ech : XK, (∀ cls d H', Ech cls d H' → W cls d σ H') ∧ σ[0]? = some (some (.ref f')) ∧ H c' = some (LamX.CodeO c' q) ∧ tl Ech H (fun _ H' => D.nx σ H')) rfl rfl h6.nd takes0N (fun W pn xe tk _ => ?_) hd1) jr2, ?_⟩
    · refine ⟨fun pins s' σ H' D I ⟨Ech, hW, e1, e2, e3⟩ => ?_⟩
      exact (pss_one (ps_expr (pos := p3) (act W pn xe Ech p1 p2 tk))).run pins s' σ H' D I ⟨e1, e2, hW, e3⟩
    · refine ⟨ClP B (baseM ms) d.names.length d.cl Q, fun cls dd H' hcl => ?_, hn0, hc, htt⟩
      exact hd2 _ Q rfl cls dd _ H' hln hcl
  · cases h8
end
end Fx

/-! Fx18c: each def of a module keeps the promise of its meaning. -/
namespace Fx
open PySem PySem.Spec PyProof.Rows L2 L2H HotX Fxh
section
variable {B : Bx} {P : Program} {w : World} {K : PySem.W.Frag} {mg : Str → Option Value} {base : Heap} {cs : List (Addr × Addr)} {ms : List Gm}
theorem sem_parts {k : Nat} : (Sem ms k).isF = isFM ms ∧ (Sem ms k).sub = subM ms ∧ (Sem ms k).att = (fun _ _ => false) ∧ (Sem ms k).ve = isExM ms := by
  cases k <;> exact ⟨rfl, rfl, rfl, rfl⟩
theorem sem_wd {k g : Nat} {x : Str} {d : WDef} (hg : ms[g]? = some (.wd x d)) : ∀ act S, (Sem ms k).Wd g act S = wordRun (baseM ms) d (act S) := fun act S => by
  have : (Sem ms k).Wd = wdM ms := by cases k <;> rfl
  rw [this]
  unfold wdM
  rw [hg]
theorem fun_inj {x : Str} {st st' : Stmt} {f : Addr} {fd fd' : FuncData} (a : L2.Fun K x x st f fd) (b : L2.Fun K x x st' f fd') : fd = fd' := by
  obtain ⟨_, _, _, _, _, _, _, _, _, _, h1, _⟩ := a.ex
  obtain ⟨_, _, _, _, _, _, _, _, _, _, h2, _⟩ := b.ex
  rw [h1] at h2
  cases h2
  rfl
theorem lam_of (M : Mdl B K mg cs ms) (hT : ∀ p ∈ cs, LamX.TabB base mg p.1 p.2) {fd : FuncData} {x : Str} {cdv : Value} (hcd : fd.code = cdv) (h : ∃ cc P, fd.code = .ref cc ∧ (cc, P) ∈ cs ∧ (P, lamQ x) ∈ B.T ∧ ∀ p ∈ B.T, p.1 = P → p.2 = lamQ x)
    {X : Cx} (h1 : X.env.code = cdv) (h2 : X.base = base) (h3 : X.mg = mg) (h4 : X.env.qual ++ "<lambda>" = lamQ x) : LamOk B X := by
  obtain ⟨cc, Pt, q1, q2, q3, q4⟩ := h
  refine ⟨cc, Pt, by rw [h1, ← hcd, q1], by rw [h2, h3]; exact hT _ q2, by rw [h4]; exact q3, fun p hp e => by rw [h4]; exact q4 p hp e⟩
theorem sem_ok (M : Mdl B K mg cs ms) (hT : ∀ p ∈ cs, LamX.TabB base mg p.1 p.2) : ∀ (k g : Nat) (x : Str) (d : Def) (f : Addr) (fd : FuncData), ms[g]? = some (.df x d) → mg x = some (.ref f) → (∃ st, L2.Fun K x x st f fd) →
    FnOk P w K mg base (L2N.CX P w) (3 * k) f fd (d.names.take d.arity) (spOf B ((Sem ms k).F g) d.arity)
  | 0, g, x, d, f, fd, h, _, _ => by
    obtain ⟨_, _, _, _, _, _, _, _, h6, _⟩ := M.fns g x d h
    exact fn_no h6
  | k + 1, g, x, d, f, fd, h, hm, ⟨st', hf⟩ => by
    obtain ⟨f', fd', st, h2, h3, h4, h5, h6, h7, h8, h9⟩ := M.fns g x d h
    rw [hm] at h3
    cases h3
    have := fun_inj hf h4
    subst this
    have e : spOf B ((Sem ms (k + 1)).F g) d.arity = spOf B (runDef (d.names.take d.arity).length d.names.length (ssL (dens (Sem ms k) d.body))) (d.names.take d.arity).length := by
      rw [h7]
      have : (Sem ms (k + 1)).F g = runDef d.arity d.names.length (ssL (dens (Sem ms k) d.body)) := by
        show fnM ms (Sem ms k) g = _
        unfold fnM
        rw [h]
      rw [this]
    rw [e]
    show FnOk P w K mg base (L2N.CX P w) (3 * k + 2 + 1) f fd _ _
    refine def_ok h4 h6 fun cdv hcd A outer s H E W hr tk po => ?_
    refine jss_of (c := ⟨d.names, defScope st, fun _ => true, gsM ms, true, false, false, d.lam⟩) (k := k) (F := Sem ms k) ?_ ⟨rfl, rfl, fun _ _ => rfl⟩ tk po (fun e _ => snd e) h9
    refine good_of M sem_parts rfl rfl rfl rfl rfl h6.nd hr.units (fun _ => ⟨rfl, rfl⟩) (fun _ => hr.mono (by omega)) (fun _ g y d2 f2 fd2 q1 q2 q3 => sem_ok M hT k g y d2 f2 fd2 q1 q2 q3) (fun g y d2 q1 => sem_len q1) (fun z => (nomatch z)) (fun z => (nomatch z)) (fun hl => ⟨lam_of M hT hcd (h8 hl) rfl rfl rfl rfl, hr⟩) fun _ g y q => ?_
    obtain ⟨d2, q2⟩ := gs_wd q
    exact word_ok M q2 (sem_wd q2)
end
end Fx

/-! Fx19: a module from its parts; the law's end. -/
namespace Fx
open PySem PySem.Spec PyProof.Rows L2
/-- all that is asked of an own error class without an __init__ -/
def excCB (K : PySem.W.Frag) (C : Addr) : Bool :=
  decide (PySem.W.findIn K (.ref C) "__getattribute__" = some (some (.builtin "BaseException.__getattribute__"))) && decide (PySem.W.findIn K (.ref C) "__getattr__" = some none) && decide (PySem.W.subIn K (.ref C) (.type "BaseException") = some true) && PySem.W.hasDictIn K C &&
  decide (PySem.W.findIn K (.ref C) "__class__" = some (some (.builtin "object.__class__"))) && decide (PySem.W.specialIn K (.builtin "object.__class__") "__get__" = some (some (.builtin "getset_descriptor.__get__"))) && decide (PySem.W.takesIn K (.builtin "object.__class__") = some true) && decide (PySem.W.mroIn K C (.type "object") = some true)
theorem excCB_ok {K : PySem.W.Frag} {C : Addr} (h : excCB K C = true) : ExcC K C := by
  unfold excCB at h
  obtain ⟨h, h8⟩ := and2 h
  obtain ⟨h, h7⟩ := and2 h
  obtain ⟨h, h6⟩ := and2 h
  obtain ⟨h, h5⟩ := and2 h
  obtain ⟨h, h4⟩ := and2 h
  obtain ⟨h, h3⟩ := and2 h
  obtain ⟨h1, h2⟩ := and2 h
  exact ⟨of_decide_eq_true h1, of_decide_eq_true h2, of_decide_eq_true h3, h4, of_decide_eq_true h5, of_decide_eq_true h6, of_decide_eq_true h7, of_decide_eq_true h8⟩
def clsB (K : PySem.W.Frag) (C : Addr) : Bool :=
  PySem.W.excIn K C [.type "ValueError", .type "Exception", .type "BaseException", .type "object"] "ValueError.__new__" && PySem.W.keepIn K (.ref C) && decide (PySem.W.typeIn K (.ref C) = some (.type "type")) && excCB K C &&
  decide (PySem.W.kitOne K (.ref C) (.type "ValueError") = some true) && decide (PySem.W.mroIn K C (.ref C) = some true)
structure ClsOk (K : PySem.W.Frag) (C : Addr) : Prop where
  xP : PySem.W.excIn K C [.type "ValueError", .type "Exception", .type "BaseException", .type "object"] "ValueError.__new__" = true
  kP : PySem.W.keepIn K (.ref C) = true
  tP : PySem.W.typeIn K (.ref C) = some (.type "type")
  iP : ExcC K C
  vP : PySem.W.kitOne K (.ref C) (.type "ValueError") = some true
  sP : PySem.W.mroIn K C (.ref C) = some true
theorem clsB_ok {K : PySem.W.Frag} {C : Addr} (h : clsB K C = true) : ClsOk K C := by
  unfold clsB at h
  obtain ⟨h, h6⟩ := and2 h
  obtain ⟨h, h5⟩ := and2 h
  obtain ⟨h, h4⟩ := and2 h
  obtain ⟨h, h3⟩ := and2 h
  obtain ⟨h1, h2⟩ := and2 h
  exact ⟨h1, h2, of_decide_eq_true h3, excCB_ok h4, of_decide_eq_true h5, of_decide_eq_true h6⟩
structure DefOk (K : PySem.W.Frag) (mg : Str → Option Value) (gs : List (Str × GK)) (T : List (Addr × Str)) (cs : List (Addr × Addr)) (x : Str) (d : Def) : Prop where
  ok : ∃ f fd st, mg x = some (.ref f) ∧ L2.Fun K x x st f fd ∧ (∀ us : List Value, us.length = (d.names.take d.arity).length → bindArgs fd ⟨us, []⟩ = pure ((d.names.take d.arity).zip us)) ∧ FnScope d.names (d.names.take d.arity) (defScope st) ∧ (d.names.take d.arity).length = d.arity ∧
    (d.lam = true → ∃ cc P, fd.code = .ref cc ∧ (cc, P) ∈ cs ∧ (P, lamQ x) ∈ T ∧ ∀ p ∈ T, p.1 = P → p.2 = lamQ x) ∧
    allS (looks d.body) ⟨d.names, defScope st, fun _ => true, gs, true, false, false, d.lam⟩ (defBody st) = true
structure WdefOk (K : PySem.W.Frag) (mg : Str → Option Value) (gs : List (Str × GK)) (x : Str) (d : WDef) : Prop where
  ok : ∃ f a oc od st kV doc pm cdv ct an osl, mg x = some (.ref f) ∧ PySem.W.keepIn K (.ref f) = true ∧ K.lookup f = some ⟨oc, od, .func (PySem.W.fnOf x x (defArgs st) (defBody st) (defScope st) .none kV doc pm an cdv ct), osl⟩ ∧ PySem.W.codeIn K cdv x = true ∧
    Binds K (PySem.W.fnOf x x (defArgs st) (defBody st) (defScope st) .none kV doc pm an cdv ct) [a] [] ∧ FnScope d.names [a] (defScope st) ∧ d.names[0]? = some a ∧ lookW d gs (defScope st) (defBody st) = true
def GmOk (K : PySem.W.Frag) (mg : Str → Option Value) (gs : List (Str × GK)) (E : List (Nat × Addr)) (T : List (Addr × Str)) (cs : List (Addr × Addr)) : Gm → Prop
  | .df x d => DefOk K mg gs T cs x d
  | .nu x i => ∃ t, mg x = some (Value.int i t)
  | .ex i x _ => ∃ C, E.lookup i = some C ∧ mg x = some (.ref C) ∧ ClsOk K C
  | .wd x d => WdefOk K mg gs x d
def AllOk (K : PySem.W.Frag) (mg : Str → Option Value) (gs : List (Str × GK)) (E : List (Nat × Addr)) (T : List (Addr × Str)) (cs : List (Addr × Addr)) : List Gm → Prop
  | [] => True
  | m :: ms => GmOk K mg gs E T cs m ∧ AllOk K mg gs E T cs ms
theorem AllOk.at {K : PySem.W.Frag} {mg : Str → Option Value} {gs : List (Str × GK)} {E : List (Nat × Addr)} {T : List (Addr × Str)} {cs : List (Addr × Addr)} : ∀ {ms : List Gm} {i : Nat} {m : Gm}, AllOk K mg gs E T cs ms → ms[i]? = some m → GmOk K mg gs E T cs m
  | [], _, _, _, h => by simp at h
  | _ :: _, 0, _, h, e => by simp at e; subst e; exact h.1
  | _ :: ms, i + 1, _, h, e => AllOk.at h.2 (by simpa using e)
theorem lookup_mem : ∀ {E : List (Nat × Addr)} {i : Nat} {a : Addr}, E.lookup i = some a → (i, a) ∈ E
  | [], _, _, h => by cases h
  | (j, b) :: E, i, a, h => by
    rw [List.lookup] at h
    split at h
    · rename_i e
      have e := eq_of_beq e
      cases h
      rw [e]
      exact List.mem_cons_self
    · exact List.mem_cons_of_mem _ (lookup_mem h)
def ixOk : List Gm → Nat → Bool
  | [], _ => true
  | .ex i _ _ :: ms, n => Nat.beq i n && ixOk ms (n + 1)
  | _ :: ms, n => ixOk ms (n + 1)
theorem ixOk_at : ∀ {ms : List Gm} {n g i : Nat} {x : Str} {p : Option Nat}, ixOk ms n = true → ms[g]? = some (.ex i x p) → i = n + g
  | [], n, g, i, x, p, _, h => by simp at h
  | m :: ms, n, 0, i, x, p, k, h => by
    simp at h
    subst h
    unfold ixOk at k
    exact Nat.eq_of_beq_eq_true (and2 k).1
  | m :: ms, n, g + 1, i, x, p, k, h => by
    have h' : ms[g]? = some (.ex i x p) := by simpa using h
    have k' : ixOk ms (n + 1) = true := by
      cases m <;> unfold ixOk at k <;> first | exact k | exact (and2 k).2
    rw [ixOk_at k' h']
    omega
def subsB (K : PySem.W.Frag) (ms : List Gm) (E : List (Nat × Addr)) : Bool := E.all fun p => E.all fun q => decide (PySem.W.mroIn K p.2 (.ref q.2) = some (subN ms 8 p.1 q.1))
def bxOf (K : PySem.W.Frag) (mg : Str → Option Value) (gs : List (Str × GK)) (T : List (Addr × Str)) : Bx := ⟨K, fun g => match gs[g]? with
  | some (x, .fn _) => (match mg x with
    | some (.ref f) => some f
    | _ => none)
  | some (x, .exc) => (match mg x with
    | some (.ref f) => some f
    | _ => none)
  | _ => none, T, none⟩
section
variable {T : List (Addr × Str)} {cs : List (Addr × Addr)} {K : PySem.W.Frag} {mg : Str → Option Value} {ms : List Gm} {E : List (Nat × Addr)}
theorem gs_at {g : Nat} {m : Gm} (h : ms[g]? = some m) : (gsM ms)[g]? = some m.gk := by
  unfold gsM; rw [List.getElem?_map, h]; rfl
theorem ex_at (h : AllOk K mg (gsM ms) E T cs ms) (hi : ixOk ms 0 = true) {g : Nat} {aC : Addr} (he : isExM ms g = true) (hf : (bxOf K mg (gsM ms) T).fa g = some aC) : (g, aC) ∈ E ∧ ClsOk K aC := by
  unfold isExM at he
  split at he
  · rename_i i x p e
    have hi := ixOk_at hi e
    rw [Nat.zero_add] at hi
    subst hi
    obtain ⟨C, h1, h2, h3⟩ := (show ∃ C, E.lookup i = some C ∧ mg x = some (.ref C) ∧ ClsOk K C from h.at e)
    have hf' : (match (gsM ms)[i]? with | some (x, .fn _) => (match mg x with | some (.ref f) => some f | _ => none) | some (x, .exc) => (match mg x with | some (.ref f) => some f | _ => none) | _ => none) = some aC := hf
    rw [gs_at e] at hf'
    have hf2 : (match mg x with | some (.ref f) => some f | _ => none) = some aC := hf'
    rw [h2] at hf2
    cases hf2
    exact ⟨lookup_mem h1, h3⟩
  · cases he
theorem mdl_of (h : AllOk K mg (gsM ms) E T cs ms) (hi : ixOk ms 0 = true) (hs : subsB K ms E = true) (hb : ∀ x ∈ biNames, mg x = none) : Mdl (bxOf K mg (gsM ms) T) K mg cs ms := by
  refine ⟨rfl, rfl, fun g x d hg => ?_, fun g x i hg => h.at hg, hb, fun g i x p hg => ?_, fun g k b aC aD q1 q2 q3 => ?_, fun g aC q1 q2 => ?_, fun g x d hg => ?_⟩
  · obtain ⟨f, fd, st, q1, q2, q3, q4, q5, q6, q7⟩ := (show DefOk K mg (gsM ms) T cs x d from h.at hg).ok
    refine ⟨f, fd, st, ?_, q1, q2, .all q3, q4, q5, q6, q7⟩
    show (match (gsM ms)[g]? with | some (x, .fn _) => (match mg x with | some (.ref f) => some f | _ => none) | some (x, .exc) => (match mg x with | some (.ref f) => some f | _ => none) | _ => none) = some f
    rw [gs_at hg]
    show (match mg x with | some (.ref f) => some f | _ => none) = some f
    rw [q1]
  · obtain ⟨C, h1, h2, h3⟩ := (show ∃ C, E.lookup i = some C ∧ mg x = some (.ref C) ∧ ClsOk K C from h.at hg)
    refine ⟨C, ?_, ⟨h2, h3.xP, h3.kP, h3.iP.hs, h3.tP⟩⟩
    show (match (gsM ms)[g]? with | some (x, .fn _) => (match mg x with | some (.ref f) => some f | _ => none) | some (x, .exc) => (match mg x with | some (.ref f) => some f | _ => none) | _ => none) = some C
    rw [gs_at hg]
    show (match mg x with | some (.ref f) => some f | _ => none) = some C
    rw [h2]
  · unfold subM at q1
    split at q1
    · rename_i hx
      cases q1
      obtain ⟨x1, x2⟩ := and2 hx
      obtain ⟨e1, c1⟩ := ex_at h hi x1 q2
      obtain ⟨e2, c2⟩ := ex_at h hi x2 q3
      have q := List.all_eq_true.mp (List.all_eq_true.mp hs _ e1) _ e2
      have q := of_decide_eq_true q
      dsimp only at q
      refine ⟨PySem.W.exm_ref c2.iP.hs c2.iP.hd c2.tP q, ?_, c1.iP⟩
      unfold PySem.W.kitOne
      split
      · rename_i eb
        have eb := Value.ref.inj (beq_iff_eq.mp eb)
        subst eb
        rw [c1.sP] at q
        exact q
      · have hcl : (PySem.W.clsIn K aD).isSome = true := by
          have z := c2.iP.hd
          unfold PySem.W.hasDictIn at z
          cases ez : PySem.W.clsIn K aD with
          | none => rw [ez] at z; cases z
          | some _ => rfl
        have e3 : ((PySem.W.clsIn K aD).isSome && PySem.W.typeIn K (.ref aD) == some (.type "type")) = true := by rw [hcl, c2.tP]; rfl
        show (if ((PySem.W.clsIn K aD).isSome && PySem.W.typeIn K (.ref aD) == some (.type "type")) = true then PySem.W.subIn K (.ref aC) (.ref aD) else none) = _
        rw [if_pos e3]
        exact q
    · cases q1
  · obtain ⟨_, c1⟩ := ex_at h hi q1 q2
    exact ⟨c1.vP, c1.iP⟩
  · exact (show WdefOk K mg (gsM ms) x d from h.at hg).ok
end
/-- the law's promise -/
def spIn (K : PySem.W.Frag) (T : List (Addr × Str)) (n : Nat) : Sp := fun vs H Q _ => ∃ (a : Addr) (ns : List Int), vs = [.ref a] ∧ ns.length ≤ n ∧ LamX.Tabs T H ∧ SqL K H a (ns.map V.int) ∧ ∀ H', Q (.bl true) H'
theorem law_sp {B : Bx} {F : VF} {vs : List V} {H : Hp} {Q : VK} {E : XK} {n : Nat} (hl : ∀ ns : List Int, ns.length ≤ n → ∃ S, F [.scr ns] [] = .ok (.bl true) S) (h : spIn B.K B.T n vs H Q E) : spOf B F 1 vs H Q E := by
  obtain ⟨a, ns, rfl, hn, hT, hS, hQ⟩ := h
  obtain ⟨S, e⟩ := hl ns hn
  refine ⟨rfl, fun _ => 0, fun _ => False, [], [.scr ns], ⟨fun n xs h => by simp at h, fun i j h => absurd h (by simp), fun n h => absurd h (by simp), fun r h => h.elim, hT⟩, .cons ?_ .nil, ?_⟩
  · unfold RepV
    refine ⟨a, rfl, ?_⟩
    rcases hS with (h | ⟨o, h⟩) | h
    · exact .inr (.inr ⟨h, fun z => z.elim⟩)
    · exact .inl ⟨o, h⟩
    · exact .inr (.inl (.inr h))
  · rw [e]
    intro m' Rv' H' _ x r
    rw [repV_bl r]
    exact hQ H'
theorem law_F {T : List (Addr × Str)} {cs : List (Addr × Addr)} {P : Program} {w : World} {K : PySem.W.Frag} {mg : Str → Option Value} {ms : List Gm} {E : List (Nat × Addr)} {k g n : Nat} {d : Def} {fa : Addr} {x y : Str} (A : AllOk K mg (gsM ms) E T cs ms) (hi : ixOk ms 0 = true) (hs : subsB K ms E = true) (hb : ∀ x ∈ biNames, mg x = none)
    (hg : ms[g]? = some (.df x d)) (hd : d.arity = 1) (hp : d.names.take d.arity = [y]) (hfa : mg x = some (.ref fa)) (hrun : ∀ ns : List Int, ns.length ≤ n → ∃ S, (Sem ms k).F g [.scr ns] [] = .ok (.bl true) S) :
    ∃ fd : FuncData, (∀ (s : Shared) (u : Value), BindsTo s fd ⟨[u], []⟩ [(y, u)]) ∧ ∀ base : Heap, (∀ p ∈ cs, LamX.TabB base mg p.1 p.2) → FnOk P w K mg base (L2N.CX P w) (3 * k) fa fd [y] (spIn K T n) := by
  obtain ⟨f, fd, st, q1, q2, q3, q4, q5, q6, q7⟩ := (show DefOk K mg (gsM ms) T cs x d from A.at hg).ok
  have M := mdl_of A hi hs hb
  rw [q1] at hfa
  cases hfa
  refine ⟨fd, fun s u => ?_, fun base hT => ?_⟩
  · have := q3 [u] (by rw [hp]; rfl)
    rw [hp] at this
    exact .of_eq this
  · have fn := sem_ok (P := P) (w := w) (base := base) M hT k g x d _ fd hg q1 ⟨st, q2⟩
    rw [hp, hd] at fn
    exact fn.imp fun vs H Q E h => law_sp (B := bxOf K mg (gsM ms) T) hrun h
/-- the law of a module whose defs make lambdas -/
theorem law_at {l : PySem.W.OpenLaw} {w : World} {K : PySem.W.Frag} {mg : Str → Option Value} {h : Heap} {T : List (Addr × Str)} {cs : List (Addr × Addr)} {ms : List Gm} {E : List (Nat × Addr)} {k g n : Nat} {d : Def} {fa : Addr} {x y : Str} (A : AllOk K mg (gsM ms) E T cs ms) (hi : ixOk ms 0 = true) (hs : subsB K ms E = true) (hb : ∀ x ∈ biNames, mg x = none)
    (hg : ms[g]? = some (.df x d)) (hd : d.arity = 1) (hp : d.names.take d.arity = [y]) (hfa : mg x = some (.ref fa)) (hrun : ∀ ns : List Int, ns.length ≤ n → ∃ S, (Sem ms k).F g [.scr ns] [] = .ok (.bl true) S)
    (hT : T.map (·.1) = cs.map (·.2)) (h1 : ∀ p ∈ cs, h.get? p.2 = some { cls := .none, data := .fields #[] }) (h2 : ∀ p ∈ cs, K.lookup p.2 = none) (h3 : ∀ p ∈ cs, PySem.W.CodeHd h p.1 p.2) :
    LamX.LawAtS l w K (L2N.CX l.prog w) (3 * k) n y mg fa h := by
  obtain ⟨fd, e1, e2⟩ := law_F (P := l.prog) (w := w) A hi hs hb hg hd hp hfa hrun
  refine ⟨fd, cs, spIn K T n, h1, h2, h3, e1, fun H a ns hn _ hH hS => ⟨a, ns, rfl, hn, fun p hp => ?_, hS, fun _ => rfl⟩, fun base _ _ hTB => e2 base hTB⟩
  have : p.1 ∈ cs.map (·.2) := by rw [← hT]; exact List.mem_map_of_mem hp
  obtain ⟨q, hq, eq⟩ := List.mem_map.mp this
  refine LamX.TabS.nil ?_
  rw [← eq]
  exact hH q hq
/-- facts of one def, as k_is finds them -/
theorem one {K : PySem.W.Frag} {h : Heap} {mg : Str → Option Value} {gs : List (Str × GK)} {T : List (Addr × Str)} {cs : List (Addr × Addr)} {x : Str} {st : Stmt} {d : Def} {f : Addr} {oc kV doc pm cdv ct : Value} {od an : Option Addr} {osl : Array (Option Value)} (X : K.In h) (G : h.Ns mainGlobals mg)
    (a : PySem.W.nsIn K mainGlobals x = some (some (.ref f))) (l : K.lookup f = some ⟨oc, od, .func (PySem.W.fnOf x x (defArgs st) (defBody st) (defScope st) .none kV doc pm an cdv ct), osl⟩) (c : PySem.W.codeIn K cdv x = true) (kp : PySem.W.keepIn K (.ref f) = true)
    (hb : ∀ (kV doc pm : Value) (an : Option Addr) (cdv ct : Value) (us : List Value), us.length = (d.names.take d.arity).length → bindArgs (PySem.W.fnOf x x (defArgs st) (defBody st) (defScope st) .none kV doc pm an cdv ct) ⟨us, []⟩ = pure ((d.names.take d.arity).zip us))
    (hs : FnScope d.names (d.names.take d.arity) (defScope st)) (hl : (d.names.take d.arity).length = d.arity) (hq : d.lam = true → ∃ cc P, cdv = .ref cc ∧ (cc, P) ∈ cs ∧ (P, lamQ x) ∈ T ∧ ∀ p ∈ T, p.1 = P → p.2 = lamQ x)
    (hc : allS (looks d.body) ⟨d.names, defScope st, fun _ => true, gs, true, false, false, d.lam⟩ (defBody st) = true) : DefOk K mg gs T cs x d :=
  have F := fun_mk l c kp
  ⟨f, _, st, PySem.W.mg_of X G a, F, hb kV doc pm an cdv ct, hs, hl, hq, hc⟩
theorem wd1 {K : PySem.W.Frag} {h : Heap} {mg : Str → Option Value} {gs : List (Str × GK)} {x a : Str} {st : Stmt} {d : WDef} {f : Addr} {oc kV doc pm cdv ct : Value} {od an : Option Addr} {osl : Array (Option Value)} (X : K.In h) (G : h.Ns mainGlobals mg)
    (e : PySem.W.nsIn K mainGlobals x = some (some (.ref f))) (l : K.lookup f = some ⟨oc, od, .func (PySem.W.fnOf x x (defArgs st) (defBody st) (defScope st) .none kV doc pm an cdv ct), osl⟩) (c : PySem.W.codeIn K cdv x = true) (kp : PySem.W.keepIn K (.ref f) = true)
    (hb : ∀ (kV doc pm : Value) (an : Option Addr) (cdv ct : Value) (us : List Value), us.length = [a].length → bindArgs (PySem.W.fnOf x x (defArgs st) (defBody st) (defScope st) .none kV doc pm an cdv ct) ⟨us, []⟩ = pure ([a].zip us))
    (hs : FnScope d.names [a] (defScope st)) (h0 : d.names[0]? = some a) (hc : lookW d gs (defScope st) (defBody st) = true) : WdefOk K mg gs x d :=
  ⟨f, a, oc, od, st, kV, doc, pm, cdv, ct, an, osl, PySem.W.mg_of X G e, kp, l, c, .all (hb kV doc pm an cdv ct), hs, h0, hc⟩
theorem num1 {K : PySem.W.Frag} {h : Heap} {mg : Str → Option Value} {x : Str} {i : Int} {t : Tok} (X : K.In h) (G : h.Ns mainGlobals mg) (a : PySem.W.nsIn K mainGlobals x = some (some (.int i t))) : ∃ t, mg x = some (Value.int i t) := ⟨t, PySem.W.mg_of X G a⟩
theorem exc1 {K : PySem.W.Frag} {h : Heap} {mg : Str → Option Value} {x : Str} {C : Addr} {E : List (Nat × Addr)} {i : Nat} (X : K.In h) (G : h.Ns mainGlobals mg) (a : PySem.W.nsIn K mainGlobals x = some (some (.ref C))) (e : E.lookup i = some C) (q : clsB K C = true) : ∃ C, E.lookup i = some C ∧ mg x = some (.ref C) ∧ ClsOk K C :=
  ⟨C, e, PySem.W.mg_of X G a, clsB_ok q⟩
/-- the names of a def's scope by a look -/
def scC (N P : List Str) (sc : Scope) : Bool :=
  (match sc.kind with | .function => true | _ => false) && !sc.isCoroutine && !sc.isGenerator && decide N.Nodup && decide (N.take P.length = P) && P.all (fun x => match sc.names.lookup x with | some .local => true | some .cell => true | _ => false) && sc.names.all (fun y => match y.2 with | .free => false | _ => true)
theorem sc_by {N P : List Str} {sc : Scope} (h : scC N P sc = true) : FnScope N P sc := by
  unfold scC at h
  obtain ⟨h, h7⟩ := and2 h
  obtain ⟨h, h6⟩ := and2 h
  obtain ⟨h, h5⟩ := and2 h
  obtain ⟨h, h4⟩ := and2 h
  obtain ⟨h, h3⟩ := and2 h
  obtain ⟨h1, h2⟩ := and2 h
  refine ⟨?_, by simpa using h2, by simpa using h3, of_decide_eq_true h4, of_decide_eq_true h5, fun x hx => ?_, fun y hy e => ?_⟩
  · split at h1
    · assumption
    · cases h1
  · have q := List.all_eq_true.mp h6 x hx
    split at q
    · exact .inl (by assumption)
    · exact .inr (by assumption)
    · cases q
  · have q := List.all_eq_true.mp h7 y hy
    rw [e] at q
    cases q
end Fx

/-! Fx20: the draws of the laws. -/
namespace Fx
open PySem
def cupE (d c0 c1 c2 c3 : Int) : List Ex := [(.sAsg (.gVar 1) (.bi .abs [(.idx (.bin .Add (.bi .list [(.var 0)]) (.lst [(.int 0)])) (.int 0))])), (.sRet (.mu (.lst [(.ite (.cmp .GtE (.var 1) (.bin .Pow (.int 10) (.int 18))) (.bin .FloorDiv (.var 1) (.int d)) (.int 0)), (.bin .Add (.bin .Mod (.bi .int [(.bin .Add (.bin .Mult (.var 1) (.int c0)) (.int c1))]) (.int c2)) (.int c3))])))]
def rollE (m a md b md2 dv : Int) : List Ex := [(.sIf (.cmp .Gt (.idx (.var 0) (.int 0)) (.int 0)) [(.sAsg (.gVar 2) (.bin .Mod (.bi .int [(.idx (.var 0) (.int 0))]) (.var 1))), (.sAsg (.gSub (.var 0) (.int 0)) (.bin .FloorDiv (.idx (.var 0) (.int 0)) (.var 1))), (.sRet (.var 2))] []), (.sAsg (.gSub (.var 0) (.int 1)) (.bin .Mod (.bi .int [(.bin .Add (.bin .Mult (.idx (.var 0) (.int 1)) (.int m)) (.int a))]) (.int md))), (.sAsg (.gVar 3) (.bin .Mod (.bi .int [(.bin .Mult (.idx (.var 0) (.int 1)) (.bin .Add (.idx (.var 0) (.int 1)) (.int b)))]) (.int md2))), (.sRet (.bin .Mod (.bi .int [(.bin .FloorDiv (.var 3) (.int dv))]) (.var 1)))]
/-! ### runs of the parts -/
section
variable {ρ ρ1 : Env} {S S1 S2 S3 : Sto} {f h k : EF} {a b : AF} {x y z : PV} {xs : List PV}
theorem cBin_ok {g : PV → PV → Sto → Option PV} (h1 : f ρ S = .ok x S1) (h2 : h ρ S1 = .ok y S2) (h3 : g x y S2 = some z) : cBin g f h ρ S = .ok z S2 := by
  unfold cBin; rw [h1]; show R.bind (h ρ S1) _ = _; rw [h2]; show ofO (g x y S2) S2 = _; rw [h3]; rfl
theorem cUn_ok {g : PV → Sto → Option PV} (h1 : f ρ S = .ok x S1) (h3 : g x S1 = some z) : cUn g f ρ S = .ok z S1 := by
  unfold cUn; rw [h1]; show ofO (g x S1) S1 = _; rw [h3]; rfl
theorem aCons_ok (h1 : f ρ S = .ok x S1) (h2 : a ρ S1 = .ok xs S2) : aCons f a ρ S = .ok (x :: xs) S2 := by
  unfold aCons; rw [h1]; show R.bind (a ρ S1) _ = _; rw [h2]; rfl
theorem cBi_ok {g : VO} (h1 : a ρ S = .ok xs S1) (h2 : g xs S1 = some z) : cBi g a ρ S = .ok z S1 := by
  unfold cBi; rw [h1]; show ofO (g xs S1) S1 = _; rw [h2]; rfl
theorem cLst_ok (h1 : a ρ S = .ok xs S1) (h2 : lenOk xs.length = true) : cLst a ρ S = .ok (.lst xs) S1 := by
  unfold cLst; rw [h1]; show (if lenOk xs.length = true then _ else _) = _; rw [if_pos h2]
theorem cTup_ok (h1 : a ρ S = .ok xs S1) (h2 : lenOk xs.length = true) : cTup a ρ S = .ok (.tup xs) S1 := by
  unfold cTup; rw [h1]; show (if lenOk xs.length = true then _ else _) = _; rw [if_pos h2]
theorem cMu_ok (h1 : f ρ S = .ok (.lst xs) S1) : cMu f ρ S = .ok (.ref S1.length) (S1 ++ [.lst xs]) := by
  unfold cMu; rw [h1]; rfl
theorem cCall_ok {F : VF} {r : R PV} (h1 : a ρ S = .ok xs S1) (h2 : F xs S1 = r) : cCall F a ρ S = r := by
  unfold cCall; rw [h1]; exact h2
theorem cIte_ok {t : TF} {c : Bool} {r : R PV} (h1 : t ρ S = .ok c S1) (h2 : (if c then f ρ S1 else h ρ S1) = r) : cIte t f h ρ S = r := by
  unfold cIte; rw [h1]; exact h2
theorem tVal_ok {c : Bool} (h1 : f ρ S = .ok (.bl c) S1) : tVal f ρ S = .ok c S1 := by
  unfold tVal; rw [h1]; rfl
theorem sAsg_ok {i : Nat} (h1 : f ρ S = .ok x S1) : sAsg (gVar i) f ρ S = .nx (ρ.set i (some x)) S1 := by
  unfold sAsg; rw [h1]; rfl
theorem sPar_ok {is : List Nat} {a : AF} {ρ2 : Env} (h1 : a ρ S = .ok xs S1) (h2 : setAll is xs ρ = some ρ2) : sPar is a ρ S = .nx ρ2 S1 := by
  unfold sPar; rw [h1]; show (match setAll is xs ρ with | some ρ1 => F.nx ρ1 S1 | none => F.no) = _; rw [h2]
theorem sRet_ok (h1 : f ρ S = .ok x S1) : sRet f ρ S = .ret x S1 := by
  unfold sRet; rw [h1]; rfl
theorem sSeq_nx {p q : SF} {r : F} (h1 : p ρ S = .nx ρ1 S1) (h2 : q ρ1 S1 = r) : sSeq p q ρ S = r := by
  unfold sSeq; rw [h1]; exact h2
theorem sSeq_ret {p q : SF} (h1 : p ρ S = .ret x S1) : sSeq p q ρ S = .ret x S1 := by
  unfold sSeq; rw [h1]; rfl
theorem sIf_ok {t : TF} {p q : SF} {c : Bool} {r : F} (h1 : t ρ S = .ok c S1) (h2 : (if c then p ρ S1 else q ρ S1) = r) : sIf t p q ρ S = r := by
  unfold sIf; rw [h1]; exact h2
end
theorem oMul_r {i j : Int} {S : Sto} (h : smallI j = true) : oMul (.int i) (.int j) S = some (.int (i * j)) := by
  show (if (smallI i || smallI j) = true then _ else _) = _
  rw [h, Bool.or_true, if_pos rfl]
theorem oMul_l {i j : Int} {S : Sto} (h : smallI i = true) : oMul (.int i) (.int j) S = some (.int (i * j)) := by
  show (if (smallI i || smallI j) = true then _ else _) = _
  rw [h, Bool.true_or, if_pos rfl]
theorem oDiv_ok {i j : Int} {S : Sto} (h : 0 < j) (h2 : j < 1073741824) : oDiv (.int i) (.int j) S = some (.int (i / j)) :=
  if_pos (by rw [Bool.and_eq_true, decide_eq_true_eq, decide_eq_true_eq]; exact ⟨h, h2⟩)
theorem oMod_ok {i j : Int} {S : Sto} (h : 0 < j) : oMod (.int i) (.int j) S = some (.int (i % j)) := if_pos (decide_eq_true h)
theorem cup_run (F : Mx) {d c0 c1 c2 c3 : Int} (hd : 0 < d) (hd2 : d < 1073741824) (hc : smallI c0 = true) (hc2 : 0 < c2) (ns : List Int) (hn : ns.length ≤ 63) : ∃ a b, runDef 1 2 (ssL (dens F (cupE d c0 c1 c2 c3))) [.scr ns] [] = .ok (.ref 0) [.lst [.int a, .int b]] := by
  have key : ∀ z : Int, ((cBi bAbs (aCons (cBin oIdx (cBin oAdd (cBi bList (aCons (cVar 0) aNil)) (cLst (aCons (cLit (.int 0)) aNil))) (cLit (.int 0))) aNil)) [some (.scr ns), none] [] = .ok (.int z) []) → ∃ a b, runDef 1 2 (ssL (dens F (cupE d c0 c1 c2 c3))) [.scr ns] [] = .ok (.ref 0) [.lst [.int a, .int b]] := fun z hz => by
    have d1 : ∃ a, (cIte (tVal (cBin oGe (cVar 1) (cBin oPow (cLit (.int 10)) (cLit (.int 18))))) (cBin oDiv (cVar 1) (cLit (.int d))) (cLit (.int 0))) [some (.scr ns), some (.int z)] [] = .ok (.int a) [] := by
      by_cases hg : (10 : Int) ^ 18 ≤ z
      · exact ⟨z / d, cIte_ok (c := true) (tVal_ok (cBin_ok (x := .int z) (y := .int (10 ^ 18)) rfl rfl (by show some (PV.bl (decide ((10 : Int) ^ 18 ≤ z))) = _; rw [decide_eq_true hg]))) (cBin_ok (x := .int z) (y := .int d) rfl rfl (oDiv_ok hd hd2))⟩
      · exact ⟨0, cIte_ok (c := false) (tVal_ok (cBin_ok (x := .int z) (y := .int (10 ^ 18)) rfl rfl (by show some (PV.bl (decide ((10 : Int) ^ 18 ≤ z))) = _; rw [decide_eq_false hg]))) rfl⟩
    obtain ⟨a, d1⟩ := d1
    refine ⟨a, (z * c0 + c1) % c2 + c3, ?_⟩
    have m0 : (cBin oMul (cVar 1) (cLit (.int c0))) [some (.scr ns), some (.int z)] [] = .ok (.int (z * c0)) [] := cBin_ok (x := .int z) (y := .int c0) rfl rfl (oMul_r hc)
    have m1 : (cBin oMod (cBi bInt (aCons (cBin oAdd (cBin oMul (cVar 1) (cLit (.int c0))) (cLit (.int c1))) aNil)) (cLit (.int c2))) [some (.scr ns), some (.int z)] [] = .ok (.int ((z * c0 + c1) % c2)) [] :=
      cBin_ok (x := .int (z * c0 + c1)) (y := .int c2) (cBi_ok (aCons_ok (cBin_ok (y := .int c1) m0 rfl rfl) rfl) rfl) rfl (oMod_ok hc2)
    have m2 : (cBin oAdd (cBin oMod (cBi bInt (aCons (cBin oAdd (cBin oMul (cVar 1) (cLit (.int c0))) (cLit (.int c1))) aNil)) (cLit (.int c2))) (cLit (.int c3))) [some (.scr ns), some (.int z)] [] = .ok (.int ((z * c0 + c1) % c2 + c3)) [] := cBin_ok (y := .int c3) m1 rfl rfl
    have e : ssL (dens F (cupE d c0 c1 c2 c3)) [some (.scr ns), none] [] = .ret (.ref 0) [.lst [.int a, .int ((z * c0 + c1) % c2 + c3)]] :=
      sSeq_nx (ρ1 := [some (.scr ns), some (.int z)]) (sAsg_ok hz) (sSeq_ret (sRet_ok (cMu_ok (S1 := []) (cLst_ok (aCons_ok d1 (aCons_ok m2 rfl)) rfl))))
    show (match ssL (dens F (cupE d c0 c1 c2 c3)) [some (.scr ns), none] [] with
      | .nx _ S1 => fin 0 .non S1 | .ret v S1 => fin 0 v S1 | .exc x _ S1 => .exc x S1 | .no => .no) = _
    rw [e]
    rfl
  have hl : lenOk ((ns.map PV.int).length + 1) = true := by
    unfold lenOk
    rw [List.length_map]
    exact Nat.ble_eq_true_of_le (by omega)
  have lst : (cBin oAdd (cBi bList (aCons (cVar 0) aNil)) (cLst (aCons (cLit (.int 0)) aNil))) [some (.scr ns), none] [] = .ok (.lst (ns.map .int ++ [.int 0])) [] :=
    cBin_ok (x := .lst (ns.map .int)) (y := .lst [.int 0]) rfl rfl (if_pos hl)
  cases ns with
  | nil => exact key 0 rfl
  | cons n r =>
    refine key (if n < 0 then -n else n) (cBi_ok (aCons_ok (cBin_ok (y := .int 0) lst rfl (z := .int n) ?_) rfl) rfl)
    have : ixN ((n :: r).map PV.int ++ [PV.int 0]).length 0 = some 0 := by
      unfold ixN
      rw [if_pos (by decide), if_pos (by simp; omega)]
      rfl
    show (match (ixN ((n :: r).map PV.int ++ [PV.int 0]).length 0).bind (fun j => ((n :: r).map PV.int ++ [PV.int 0])[j]?) with | some v => some v | none => none) = _
    rw [this]
    rfl
def ix0 (i : Int) : EF := cBin oIdx (cVar 0) (cLit (.int i))
def rollQ (m a md b md2 dv : Int) : SF := sSeq (sIf (tVal (cBin oGt (ix0 0) (cLit (.int 0)))) (sSeq (sAsg (gVar 2) (cBin oMod (cBi bInt (aCons (ix0 0) aNil)) (cVar 1))) (sSeq (sAsg (gSub (cVar 0) (cLit (.int 0)) stSet) (cBin oDiv (ix0 0) (cVar 1))) (sSeq (sRet (cVar 2)) sNil))) sNil)
  (sSeq (sAsg (gSub (cVar 0) (cLit (.int 1)) stSet) (cBin oMod (cBi bInt (aCons (cBin oAdd (cBin oMul (ix0 1) (cLit (.int m))) (cLit (.int a))) aNil)) (cLit (.int md))))
  (sSeq (sAsg (gVar 3) (cBin oMod (cBi bInt (aCons (cBin oMul (ix0 1) (cBin oAdd (ix0 1) (cLit (.int b)))) aNil)) (cLit (.int md2))))
  (sSeq (sRet (cBin oMod (cBi bInt (aCons (cBin oDiv (cVar 3) (cLit (.int dv))) aNil)) (cVar 1))) sNil)))
theorem rollQ_eq (F : Mx) (m a md b md2 dv : Int) : ssL (dens F (rollE m a md b md2 dv)) = rollQ m a md b md2 dv := rfl
theorem roll_run (F : Mx) {m a md b md2 dv : Int} (hm : smallI m = true) (h1 : 0 < md) (h1' : md ≤ 9223372036854775808) (h2 : 0 < md2) (h3 : 0 < dv) (h3' : dv < 1073741824) {many : Int} (hp : 0 < many) (hp2 : many < 1073741824) (x y : Int) :
    ∃ v x' y', 0 ≤ v ∧ v < many ∧ runDef 2 4 (ssL (dens F (rollE m a md b md2 dv))) [.ref 0, .int many] [.lst [.int x, .int y]] = .ok (.int v) [.lst [.int x', .int y']] := by
  rw [rollQ_eq]
  have run : ∀ v x' y', rollQ m a md b md2 dv [some (.ref 0), some (.int many), none, none] [.lst [.int x, .int y]] = .ret (.int v) [.lst [.int x', .int y']] → runDef 2 4 (rollQ m a md b md2 dv) [.ref 0, .int many] [.lst [.int x, .int y]] = .ok (.int v) [.lst [.int x', .int y']] := fun v x' y' e => by
    show (match (rollQ m a md b md2 dv [some (.ref 0), some (.int many), none, none] [.lst [.int x, .int y]] : Fx.F) with
      | .nx _ S1 => fin 1 .non S1 | .ret v S1 => fin 1 v S1 | .exc x _ S1 => .exc x S1 | .no => .no) = _
    rw [e]
    rfl
  have test : (tVal (cBin oGt (ix0 0) (cLit (.int 0)))) [some (.ref 0), some (.int many), none, none] [.lst [.int x, .int y]] = .ok (decide (0 < x)) [.lst [.int x, .int y]] := rfl
  by_cases hx : 0 < x
  · refine ⟨x % many, x / many, y, Int.emod_nonneg _ (by omega), Int.emod_lt_of_pos _ hp, run _ _ _ ?_⟩
    rw [decide_eq_true hx] at test
    refine sSeq_ret (sIf_ok test ?_)
    rw [if_pos rfl]
    refine sSeq_nx (sAsg_ok (cBin_ok (x := .int x) (y := .int many) rfl rfl (oMod_ok hp))) (sSeq_nx (ρ1 := [some (.ref 0), some (.int many), some (.int (x % many)), none]) (S1 := [.lst [.int (x / many), .int y]]) ?_ rfl)
    have q : (cBin oDiv (ix0 0) (cVar 1)) [some (.ref 0), some (.int many), some (.int (x % many)), none] [.lst [.int x, .int y]] = .ok (.int (x / many)) [.lst [.int x, .int y]] := cBin_ok (x := .int x) (y := .int many) rfl rfl (oDiv_ok hp hp2)
    show sAsg _ _ [some (.ref 0), some (.int many), some (.int (x % many)), none] [.lst [.int x, .int y]] = _
    unfold sAsg
    rw [q]
    rfl
  · have y0 : 0 ≤ (y * m + a) % md := Int.emod_nonneg _ (by omega)
    have y1 : (y * m + a) % md < md := Int.emod_lt_of_pos _ h1
    generalize hy : (y * m + a) % md = y' at y0 y1
    have hs : smallI y' = true := by
      unfold smallI
      rw [Bool.and_eq_true, decide_eq_true_eq, decide_eq_true_eq]
      have e1 : (2 : Int) ^ 64 = 18446744073709551616 := by decide
      rw [e1]
      omega
    refine ⟨(y' * (y' + b)) % md2 / dv % many, x, y', Int.emod_nonneg _ (by omega), Int.emod_lt_of_pos _ hp, run _ _ _ ?_⟩
    rw [decide_eq_false hx] at test
    refine sSeq_nx (ρ1 := [some (.ref 0), some (.int many), none, none]) (S1 := [.lst [.int x, .int y]]) (sIf_ok test (if_neg Bool.false_ne_true)) ?_
    refine sSeq_nx (ρ1 := [some (.ref 0), some (.int many), none, none]) (S1 := [.lst [.int x, .int y']]) ?_ ?_
    · have q0 : (cBin oMul (ix0 1) (cLit (.int m))) [some (.ref 0), some (.int many), none, none] [.lst [.int x, .int y]] = .ok (.int (y * m)) [.lst [.int x, .int y]] := cBin_ok (x := .int y) (y := .int m) rfl rfl (oMul_r hm)
      have q1 : (cBin oMod (cBi bInt (aCons (cBin oAdd (cBin oMul (ix0 1) (cLit (.int m))) (cLit (.int a))) aNil)) (cLit (.int md))) [some (.ref 0), some (.int many), none, none] [.lst [.int x, .int y]] = .ok (.int y') [.lst [.int x, .int y]] :=
        cBin_ok (x := .int (y * m + a)) (y := .int md) (cBi_ok (aCons_ok (cBin_ok (y := .int a) q0 rfl rfl) rfl) rfl) rfl (by rw [oMod_ok h1, hy])
      unfold sAsg
      rw [q1]
      rfl
    · have q0 : (cBin oMul (ix0 1) (cBin oAdd (ix0 1) (cLit (.int b)))) [some (.ref 0), some (.int many), none, none] [.lst [.int x, .int y']] = .ok (.int (y' * (y' + b))) [.lst [.int x, .int y']] := cBin_ok (x := .int y') (y := .int (y' + b)) rfl rfl (oMul_l hs)
      refine sSeq_nx (sAsg_ok (cBin_ok (x := .int (y' * (y' + b))) (y := .int md2) (cBi_ok (aCons_ok q0 rfl) rfl) rfl (oMod_ok h2))) ?_
      exact sSeq_ret (sRet_ok (cBin_ok (y := .int many) (cBi_ok (aCons_ok (cBin_ok (x := .int (y' * (y' + b) % md2)) (y := .int dv) rfl rfl (oDiv_ok h3 h3')) rfl) rfl) rfl (oMod_ok hp)))
/-! ### tables of code objects, by a look -/
def tabAt (o : Obj) : Option Addr := match o.data with
  | .fields vs => (match (vs[11]? : Option Value) with
    | some (.ref P) => some P
    | _ => none)
  | _ => none
theorem uniq_of {T : List (Addr × Str)} {P : Addr} {q : Str} (h : (T.all fun p => !(Nat.beq p.1 P) || p.2 == q) = true) : ∀ p ∈ T, p.1 = P → p.2 = q := fun p hp e => by
  have := List.all_eq_true.mp h p hp
  rw [e] at this
  simp at this
  exact this
theorem hu_of {T : List (Addr × Str)} (h : (T.all fun r => T.all fun p => !(Nat.beq p.1 r.1) || p.2 == r.2) = true) : ∀ (P : Addr) (q : Str), (P, q) ∈ T → (T.all fun p => !(Nat.beq p.1 P) || p.2 == q) = true := fun P q hp => List.all_eq_true.mp h (P, q) hp
end Fx

set_option maxHeartbeats 0
namespace Fx
open PySem PySem.Spec PyProof.Rows L2
def topS (i : Nat) : Stmt := PySem.Challenge.pw_leaguesettled_k73_whole_errors_of_orders.main.body.getD i (.Pass ⟨0, 0, 0, 0⟩)
def d_is_whole : Def := ⟨3, ["value", "low", "high"], [(.sRet (.bool .And [(.isTy .int (.var 0)), (.not (.isTy .bool (.var 0))), (.chain .LtE .LtE (.var 1) (.var 0) (.var 2))]))], false⟩
def d_is_tuple_of : Def := ⟨3, ["value", "low", "high"], [(.sRet (.bool .And [(.isTy .tuple (.var 0)), (.chain .LtE .LtE (.var 1) (.bi .len [(.var 0)]) (.var 2))]))], false⟩
def d_is_rising : Def := ⟨1, ["values", "one", "other"], [(.sRet (.bi .all [(.comp [("one", 1), ("other", 2)] (.gTup [(.gVar 1), (.gVar 2)]) (.iZip [(.var 0), (.slc (.var 0) (.int 1) .nix)]) [] (.cmp .Lt (.var 1) (.var 2)))]))], false⟩
def d_fits_league : Def := ⟨1, ["value", "sizes", "changes", "borders", "above", "below", "own", "size", "up", "down"], [(.sIf (.bool .Or [(.not (.call 7 [(.var 0), (.int 2), (.int 2)])), (.not (.call 7 [(.idx (.var 0) (.int 0)), (.int 1), (.gint 4 6)]))]) [(.sRet (.bl false))] []), (.sAsg (.gTup [(.gVar 1), (.gVar 2)]) (.var 0)), (.sIf (.bool .Or [(.not (.bi .all [(.comp [("own", 6)] (.gVar 6) (.iSeq (.var 1)) [] (.call 6 [(.var 6), (.int 1), (.gint 5 24)]))])), (.cmp .Gt (.bi .sum [(.var 1)]) (.gint 5 24))]) [(.sRet (.bl false))] []), (.sAsg (.gVar 3) (.bin .Sub (.bi .len [(.var 1)]) (.int 1))), (.sIf (.bool .Or [(.not (.call 7 [(.var 2), (.var 3), (.var 3)])), (.not (.bi .all [(.comp [("own", 6)] (.gVar 6) (.iSeq (.var 2)) [] (.call 6 [(.var 6), (.int 1), (.gint 5 24)]))]))]) [(.sRet (.bl false))] []), (.sPar [4, 5] [(.bin .Add (.tup [(.int 0)]) (.var 2)), (.bin .Add (.var 2) (.tup [(.int 0)]))]), (.sRet (.bi .all [(.comp [("size", 7), ("up", 8), ("down", 9)] (.gTup [(.gVar 7), (.gVar 8), (.gVar 9)]) (.iZip [(.var 1), (.var 4), (.var 5)]) [] (.cmp .LtE (.bin .Add (.var 8) (.var 9)) (.var 7)))]))], false⟩
def d_need_league : Def := ⟨1, ["league"], [(.sIf (.not (.call 9 [(.var 0)])) [(.sRaise 1 ⟨#[110, 111, 116, 32, 97, 32, 108, 101, 97, 103, 117, 101]⟩)] [])], false⟩
def d_teams_in : Def := ⟨1, ["league"], [(.sRet (.bi .sum [(.idx (.var 0) (.int 0))]))], false⟩
def d_fits_season : Def := ⟨2, ["league", "value", "many", "row", "size", "team"], [(.sAsg (.gVar 2) (.call 11 [(.var 0)])), (.sIf (.not (.call 7 [(.var 1), (.bi .len [(.idx (.var 0) (.int 0))]), (.bi .len [(.idx (.var 0) (.int 0))])])) [(.sRet (.bl false))] []), (.sIf (.not (.bi .all [(.comp [("row", 3), ("size", 4)] (.gTup [(.gVar 3), (.gVar 4)]) (.iZip [(.var 1), (.idx (.var 0) (.int 0))]) [] (.call 7 [(.var 3), (.var 4), (.var 4)]))])) [(.sRet (.bl false))] []), (.sIf (.not (.bi .all [(.comp2 [("row", 3), ("team", 5)] [5] (.gVar 3) (.iSeq (.var 1)) [] (.gVar 5) (.iSeq (.var 3)) [] (.call 6 [(.var 5), (.int 0), (.bin .Sub (.var 2) (.int 1))]))])) [(.sRet (.bl false))] []), (.sIf (.not (.bi .all [(.comp [("row", 3)] (.gVar 3) (.iSeq (.var 1)) [] (.call 8 [(.var 3)]))])) [(.sRet (.bl false))] []), (.sRet (.cmp .Eq (.bi .sorted [(.comp2 [("row", 3), ("team", 5)] [5] (.gVar 3) (.iSeq (.var 1)) [] (.gVar 5) (.iSeq (.var 3)) [] (.var 5))]) (.lrg [(.var 2)])))], false⟩
def d_need_season : Def := ⟨2, ["league", "season"], [(.sExpr (.call 10 [(.var 0)])), (.sIf (.not (.call 12 [(.var 0), (.var 1)])) [(.sRaise 2 ⟨#[110, 111, 116, 32, 97, 32, 115, 101, 97, 115, 111, 110]⟩)] [])], false⟩
def d_place_of : Def := ⟨2, ["season", "team", "division", "at", "row"], [(.sAsg (.gVar 2) (.idx (.comp [("at", 3), ("row", 4)] (.gTup [(.gVar 3), (.gVar 4)]) (.iEnum (.var 0)) [(.cmp .In (.var 1) (.var 4))] (.var 3)) (.int 0))), (.sRet (.tup [(.var 2), (.meth .index (.idx (.var 0) (.var 2)) [(.var 1)])]))], false⟩
def d_season_by : Def := ⟨2, ["league", "divisions", "many", "teams", "own", "at", "team"], [(.sExpr (.call 10 [(.var 0)])), (.sAsg (.gTup [(.gVar 2), (.gVar 3)]) (.tup [(.bi .len [(.idx (.var 0) (.int 0))]), (.call 11 [(.var 0)])])), (.sIf (.bool .Or [(.not (.call 7 [(.var 1), (.var 3), (.var 3)])), (.not (.bi .all [(.comp [("own", 4)] (.gVar 4) (.iSeq (.var 1)) [] (.call 6 [(.var 4), (.int 0), (.bin .Sub (.var 2) (.int 1))]))]))]) [(.sRaise 2 ⟨#[110, 111, 116, 32, 116, 104, 101, 32, 100, 105, 118, 105, 115, 105, 111, 110, 115, 32, 111, 102, 32, 97, 108, 108, 32, 116, 101, 97, 109, 115]⟩)] []), (.sIf (.cmp .NotEq (.comp [("at", 5)] (.gVar 5) (.iRange [(.var 2)]) [] (.meth .count (.var 1) [(.var 5)])) (.bi .list [(.idx (.var 0) (.int 0))])) [(.sRaise 2 ⟨#[110, 111, 116, 32, 97, 115, 32, 109, 97, 110, 121, 32, 116, 101, 97, 109, 115, 32, 97, 115, 32, 100, 105, 118, 105, 115, 105, 111, 110, 115, 32, 104, 97, 118, 101]⟩)] []), (.sRet (.bi .tuple [(.comp [("at", 5)] (.gVar 5) (.iRange [(.var 2)]) [] (.bi .tuple [(.comp [("team", 6), ("own", 4)] (.gTup [(.gVar 6), (.gVar 4)]) (.iEnum (.var 1)) [(.cmp .Eq (.var 4) (.var 5))] (.var 6))]))]))], false⟩
def d_product_to : Def := ⟨1, ["number", "found", "own"], [(.sAsg (.gVar 1) (.int 1)), (.sFor (.gVar 2) (.iRange [(.int 2), (.bin .Add (.var 0) (.int 1))]) [(.sAsg (.gVar 1) (.bin .Mult (.var 1) (.var 2)))]), (.sRet (.var 1))], false⟩
def d_shared_ways : Def := ⟨1, ["sizes", "found", "own"], [(.sAsg (.gVar 1) (.call 16 [(.bi .sum [(.var 0)])])), (.sFor (.gVar 2) (.iSeq (.var 0)) [(.sAsg (.gVar 1) (.bin .FloorDiv (.var 1) (.call 16 [(.var 2)])))]), (.sRet (.var 1))], false⟩
def d_divisions_in : Def := ⟨2, ["league", "season", "team"], [(.sRet (.bi .tuple [(.comp [("team", 2)] (.gVar 2) (.iRange [(.call 11 [(.var 0)])]) [] (.idx (.call 14 [(.var 1), (.var 2)]) (.int 0)))]))], false⟩
def d_need_pattern : Def := ⟨2, ["league", "pattern", "teams", "many", "own"], [(.sAsg (.gTup [(.gVar 2), (.gVar 3)]) (.tup [(.call 11 [(.var 0)]), (.bi .len [(.idx (.var 0) (.int 0))])])), (.sIf (.not (.call 7 [(.var 1), (.var 2), (.var 2)])) [(.sRaise 2 ⟨#[110, 111, 116, 32, 97, 115, 32, 109, 97, 110, 121, 32, 97, 115, 32, 116, 104, 101, 114, 101, 32, 97, 114, 101, 32, 116, 101, 97, 109, 115]⟩)] []), (.sIf (.not (.bi .all [(.comp [("own", 4)] (.gVar 4) (.iSeq (.var 1)) [] (.bool .Or [(.cmp .Is (.var 4) .non), (.call 6 [(.var 4), (.int 0), (.bin .Sub (.var 3) (.int 1))])]))])) [(.sRaise 2 ⟨#[110, 111, 116, 32, 97, 32, 112, 97, 116, 116, 101, 114, 110]⟩)] [])], false⟩
def d_need_below : Def := ⟨2, ["value", "many"], [(.sIf (.not (.call 6 [(.var 0), (.int 0), (.bin .Sub (.var 1) (.int 1))])) [(.sRaise 3 ⟨#[110, 111, 116, 32, 115, 117, 99, 104, 32, 97, 32, 110, 117, 109, 98, 101, 114]⟩)] [])], false⟩
def d_need_both : Def := ⟨3, ["league", "season", "other"], [(.sExpr (.call 13 [(.var 0), (.var 1)])), (.sIf (.not (.call 12 [(.var 0), (.var 2)])) [(.sRaise 2 ⟨#[110, 111, 116, 32, 97, 32, 115, 101, 97, 115, 111, 110]⟩)] [])], false⟩
def d_rank_in : Def := ⟨2, ["sizes", "divisions", "left", "found", "own", "at"], [(.sPar [2, 3] [(.mu (.bi .list [(.var 0)])), (.int 0)]), (.sFor (.gVar 4) (.iSeq (.var 1)) [(.sFor (.gVar 5) (.iRange [(.var 4)]) [(.sIf (.cmp .Gt (.idx (.var 2) (.var 5)) (.int 0)) [(.sAsg (.gVar 3) (.bin .Add (.var 3) (.call 17 [(.bin .Add (.bin .Add (.slc (.var 2) .nix (.var 5)) (.lst [(.bin .Sub (.idx (.var 2) (.var 5)) (.int 1))])) (.slc (.var 2) (.bin .Add (.var 5) (.int 1)) .nix))])))] [])]), (.sAsg (.gSub (.var 2) (.var 4)) (.bin .Sub (.idx (.var 2) (.var 4)) (.int 1)))]), (.sRet (.var 3))], false⟩
def d_row_ranked : Def := ⟨2, ["sizes", "rank", "left", "found", "turn", "chosen", "at", "ways"], [(.sPar [2, 3] [(.mu (.bi .list [(.var 0)])), (.tup [])]), (.sFor (.gVar 4) (.iRange [(.bi .sum [(.var 0)])]) [(.sAsg (.gVar 5) .non), (.sFor (.gVar 6) (.iRange [(.bi .len [(.var 2)])]) [(.sAsg (.gVar 7) (.ite (.cmp .Gt (.idx (.var 2) (.var 6)) (.int 0)) (.call 17 [(.bin .Add (.bin .Add (.slc (.var 2) .nix (.var 6)) (.lst [(.bin .Sub (.idx (.var 2) (.var 6)) (.int 1))])) (.slc (.var 2) (.bin .Add (.var 6) (.int 1)) .nix))]) (.int 0))), (.sIf (.bool .And [(.cmp .Is (.var 5) .non), (.cmp .Lt (.var 1) (.var 7))]) [(.sAsg (.gVar 5) (.var 6))] [(.sIf (.cmp .Is (.var 5) .non) [(.sAsg (.gVar 1) (.bin .Sub (.var 1) (.var 7)))] [])])]), (.sAsg (.gTup [(.gSub (.var 2) (.var 5)), (.gVar 3)]) (.tup [(.bin .Sub (.idx (.var 2) (.var 5)) (.int 1)), (.bin .Add (.var 3) (.tup [(.var 5)]))]))]), (.sRet (.var 3))], false⟩
def d_row_beside : Def := ⟨2, ["divisions", "by", "at", "fit", "rest", "chosen", "own"], [(.sFor (.gVar 2) (.iSeq (.rev (.lrg [(.bin .Sub (.bi .len [(.var 0)]) (.int 1))]))) [(.sAsgC 3 false (.comp [("own", 6)] (.gVar 6) (.iSeq (.slc (.var 0) (.bin .Add (.var 2) (.int 1)) .nix)) [(.cmp .Gt (.bin .Mult (.bin .Sub (.var 6) (.idx (.var 0) (.var 2))) (.var 1)) (.int 0))] (.var 6))), (.sIf (.cmp .NotEq (.var 3) (.lst [])) [(.sPar [4, 5] [(.mu (.bi .sorted [(.slc (.var 0) (.var 2) .nix)])), (.ite (.cmp .Gt (.var 1) (.int 0)) (.bi .min [(.var 3)]) (.bi .max [(.var 3)]))]), (.sExpr (.rem (.var 4) (.var 5))), (.sRet (.bin .Add (.bin .Add (.slc (.var 0) .nix (.var 2)) (.tup [(.var 5)])) (.bi .tuple [(.ite (.cmp .Gt (.var 1) (.int 0)) (.var 4) (.rev (.var 4)))])))] [])]), (.sRet .non)], false⟩
def d_left_by : Def := ⟨2, ["league", "pattern", "at", "size"], [(.sRet (.comp [("at", 2), ("size", 3)] (.gTup [(.gVar 2), (.gVar 3)]) (.iEnum (.idx (.var 0) (.int 0))) [] (.bin .Sub (.var 3) (.meth .count (.var 1) [(.var 2)]))))], false⟩
def d_ways_left : Def := ⟨1, ["left"], [(.sRet (.ite (.cmp .GtE (.bi .min [(.var 0)]) (.int 0)) (.call 17 [(.var 0)]) (.int 0)))], false⟩
def d_filled : Def := ⟨3, ["league", "pattern", "rank", "rest", "divisions", "own"], [(.sAsg (.gVar 3) (.bi .list [(.call 23 [(.call 25 [(.var 0), (.var 1)]), (.var 2)])])), (.sAsg (.gVar 4) (.tup [])), (.sFor (.gVar 5) (.iSeq (.var 1)) [(.sAsg (.gVar 4) (.bin .Add (.var 4) (.tup [(.ite (.cmp .IsNot (.var 5) .non) (.var 5) (.idx (.var 3) (.int 0)))]))), (.sAsg (.gVar 3) (.ite (.cmp .IsNot (.var 5) .non) (.var 3) (.slc (.var 3) (.int 1) .nix)))]), (.sRet (.call 15 [(.var 0), (.var 4)]))], false⟩
def d_chosen_from : Def := ⟨2, ["many", "few", "found", "at"], [(.sAsg (.gVar 2) (.int 1)), (.sFor (.gVar 3) (.iRange [(.var 1)]) [(.sAsg (.gVar 2) (.bin .FloorDiv (.bin .Mult (.var 2) (.bin .Sub (.var 0) (.var 3))) (.bin .Add (.var 3) (.int 1))))]), (.sRet (.var 2))], false⟩
def d_ways_apart : Def := ⟨3, ["left", "homes", "many", "teams", "held", "size", "own", "rows", "later", "at", "one", "by", "other", "whole", "least", "sign"], [(.sPar [3, 4] [(.bi .sum [(.var 0)]), (.lst [(.int 1)])]), (.sIf (.not (.chain .LtE .LtE (.int 0) (.var 2) (.var 3))) [(.sRet (.int 0))] []), (.sFor (.gTup [(.gVar 5), (.gVar 6)]) (.iZip [(.var 0), (.var 1)]) [(.sAsgC 7 false (.comp [("at", 9)] (.gVar 9) (.iRange [(.bin .Add (.bi .min [(.var 5), (.var 6)]) (.int 1))]) [] (.bin .Mult (.bin .Mult (.call 28 [(.var 6), (.var 9)]) (.call 28 [(.var 5), (.var 9)])) (.call 16 [(.var 9)])))), (.sAsg (.gVar 8) (.mu (.mulL (.lst [(.int 0)]) (.bin .Sub (.bin .Add (.bi .len [(.var 4)]) (.bi .len [(.var 7)])) (.int 1))))), (.sFor (.gTup [(.gVar 9), (.gVar 10)]) (.iEnum (.var 4)) [(.sFor (.gTup [(.gVar 11), (.gVar 12)]) (.iEnum (.var 7)) [(.sAsg (.gSub (.var 8) (.bin .Add (.var 9) (.var 11))) (.bin .Add (.idx (.var 8) (.bin .Add (.var 9) (.var 11))) (.bin .Mult (.var 10) (.var 12))))])]), (.sAsg (.gVar 4) (.var 8))]), (.sPar [13, 14] [(.int 0), (.bin .Sub (.var 3) (.var 2))]), (.sFor (.gVar 9) (.iRange [(.var 14), (.bi .len [(.var 4)])]) [(.sAsg (.gVar 15) (.ite (.cmp .Eq (.bin .Mod (.bi .int [(.bin .Sub (.var 9) (.var 14))]) (.int 2)) (.int 0)) (.int 1) (.neg (.int 1)))), (.sAsg (.gVar 13) (.bin .Add (.var 13) (.bin .Mult (.bin .Mult (.bin .Mult (.var 15) (.call 28 [(.var 9), (.var 14)])) (.idx (.var 4) (.var 9))) (.call 16 [(.bin .Sub (.var 3) (.var 9))]))))]), (.sFor (.gVar 5) (.iSeq (.var 0)) [(.sAsg (.gVar 13) (.bin .FloorDiv (.var 13) (.call 16 [(.var 5)])))]), (.sRet (.var 13))], false⟩
def d_first_row_apart : Def := ⟨3, ["league", "divisions", "many", "left", "found", "homes", "own", "fit", "at", "more"], [(.sPar [3, 4] [(.mu (.bi .list [(.idx (.var 0) (.int 0))])), (.tup [])]), (.sAsg (.gVar 5) (.mu (.bi .list [(.idx (.var 0) (.int 0))]))), (.sIf (.cmp .Eq (.call 29 [(.var 3), (.var 5), (.var 2)]) (.int 0)) [(.sRet .non)] []), (.sFor (.gVar 6) (.iSeq (.var 1)) [(.sAsg (.gSub (.var 5) (.var 6)) (.bin .Sub (.idx (.var 5) (.var 6)) (.int 1))), (.sAsg (.gVar 7) (.mu (.lst []))), (.sFor (.gVar 8) (.iRange [(.bi .len [(.var 3)])]) [(.sAsg (.gVar 9) (.bin .Sub (.var 2) (.ite (.cmp .NotEq (.var 8) (.var 6)) (.int 1) (.int 0)))), (.sIf (.bool .And [(.cmp .Gt (.idx (.var 3) (.var 8)) (.int 0)), (.cmp .Gt (.call 29 [(.bin .Add (.bin .Add (.slc (.var 3) .nix (.var 8)) (.lst [(.bin .Sub (.idx (.var 3) (.var 8)) (.int 1))])) (.slc (.var 3) (.bin .Add (.var 8) (.int 1)) .nix)), (.var 5), (.var 9)]) (.int 0))]) [(.sExpr (.meth .append (.var 7) [(.tup [(.var 8), (.var 9)])]))] [])]), (.sAsg (.gTup [(.gVar 8), (.gVar 2)]) (.idx (.var 7) (.int 0))), (.sAsg (.gTup [(.gSub (.var 3) (.var 8)), (.gVar 4)]) (.tup [(.bin .Sub (.idx (.var 3) (.var 8)) (.int 1)), (.bin .Add (.var 4) (.tup [(.var 8)]))]))]), (.sRet (.var 4))], false⟩
def d_farthest_in : Def := ⟨1, ["league", "many"], [(.sRet (.bi .max [(.comp [("many", 1)] (.gVar 1) (.iRange [(.bin .Add (.call 11 [(.var 0)]) (.int 1))]) [(.cmp .Gt (.call 29 [(.idx (.var 0) (.int 0)), (.idx (.var 0) (.int 0)), (.var 1)]) (.int 0))] (.var 1))]))], false⟩
def d_season_rank : Def := ⟨2, ["league", "season"], [(.sExpr (.call 13 [(.var 0), (.var 1)])), (.sRet (.call 22 [(.idx (.var 0) (.int 0)), (.call 18 [(.var 0), (.var 1)])]))], false⟩
def d_season_ranked : Def := ⟨2, ["league", "rank"], [(.sExpr (.call 10 [(.var 0)])), (.sExpr (.call 20 [(.var 1), (.call 17 [(.idx (.var 0) (.int 0))])])), (.sRet (.call 15 [(.var 0), (.call 23 [(.idx (.var 0) (.int 0)), (.var 1)])]))], false⟩
def d_following_season : Def := ⟨2, ["league", "season", "row"], [(.sExpr (.call 13 [(.var 0), (.var 1)])), (.sAsg (.gVar 2) (.call 24 [(.call 18 [(.var 0), (.var 1)]), (.int 1)])), (.sRet (.ite (.cmp .IsNot (.var 2) .non) (.call 15 [(.var 0), (.var 2)]) .non))], false⟩
def d_season_ahead : Def := ⟨2, ["league", "season", "row"], [(.sExpr (.call 13 [(.var 0), (.var 1)])), (.sAsg (.gVar 2) (.call 24 [(.call 18 [(.var 0), (.var 1)]), (.neg (.int 1))])), (.sRet (.ite (.cmp .IsNot (.var 2) .non) (.call 15 [(.var 0), (.var 2)]) .non))], false⟩
def d_last_season : Def := ⟨1, ["league"], [(.sExpr (.call 10 [(.var 0)])), (.sRet (.call 15 [(.var 0), (.call 23 [(.idx (.var 0) (.int 0)), (.bin .Sub (.call 17 [(.idx (.var 0) (.int 0))]) (.int 1))])]))], false⟩
def d_count_like : Def := ⟨2, ["league", "pattern"], [(.sExpr (.call 10 [(.var 0)])), (.sExpr (.call 19 [(.var 0), (.var 1)])), (.sRet (.call 26 [(.call 25 [(.var 0), (.var 1)])]))], false⟩
def d_first_like : Def := ⟨2, ["league", "pattern"], [(.sRet (.ite (.cmp .Gt (.call 37 [(.var 0), (.var 1)]) (.int 0)) (.call 27 [(.var 0), (.var 1), (.int 0)]) .non))], false⟩
def d_like_ranked : Def := ⟨3, ["league", "pattern", "rank"], [(.sExpr (.call 20 [(.var 2), (.call 37 [(.var 0), (.var 1)])])), (.sRet (.call 27 [(.var 0), (.var 1), (.var 2)]))], false⟩
def d_apart_by : Def := ⟨3, ["league", "season", "other", "one", "own"], [(.sExpr (.call 21 [(.var 0), (.var 1), (.var 2)])), (.sRet (.bi .len [(.comp [("one", 3), ("own", 4)] (.gTup [(.gVar 3), (.gVar 4)]) (.iZip [(.call 18 [(.var 0), (.var 1)]), (.call 18 [(.var 0), (.var 2)])]) [(.cmp .NotEq (.var 3) (.var 4))] (.int 1))]))], false⟩
def d_count_apart : Def := ⟨2, ["league", "many"], [(.sExpr (.call 10 [(.var 0)])), (.sExpr (.call 20 [(.var 1), (.bin .Add (.call 11 [(.var 0)]) (.int 1))])), (.sRet (.call 29 [(.idx (.var 0) (.int 0)), (.idx (.var 0) (.int 0)), (.var 1)]))], false⟩
def d_counts_apart : Def := ⟨1, ["league", "many"], [(.sExpr (.call 10 [(.var 0)])), (.sRet (.bi .tuple [(.comp [("many", 1)] (.gVar 1) (.iRange [(.bin .Add (.call 11 [(.var 0)]) (.int 1))]) [] (.call 29 [(.idx (.var 0) (.int 0)), (.idx (.var 0) (.int 0)), (.var 1)]))]))], false⟩
def d_first_apart : Def := ⟨3, ["league", "season", "many", "row"], [(.sExpr (.call 13 [(.var 0), (.var 1)])), (.sExpr (.call 20 [(.var 2), (.bin .Add (.call 11 [(.var 0)]) (.int 1))])), (.sAsg (.gVar 3) (.call 30 [(.var 0), (.call 18 [(.var 0), (.var 1)]), (.var 2)])), (.sRet (.ite (.cmp .IsNot (.var 3) .non) (.call 15 [(.var 0), (.var 3)]) .non))], false⟩
def d_farthest : Def := ⟨1, ["league"], [(.sExpr (.call 10 [(.var 0)])), (.sRet (.call 31 [(.var 0)]))], false⟩
def d_far_season : Def := ⟨2, ["league", "season"], [(.sExpr (.call 13 [(.var 0), (.var 1)])), (.sRet (.call 15 [(.var 0), (.call 30 [(.var 0), (.call 18 [(.var 0), (.var 1)]), (.call 31 [(.var 0)])])]))], false⟩
def d_is_far_season : Def := ⟨3, ["league", "season", "value"], [(.sExpr (.call 13 [(.var 0), (.var 1)])), (.sRet (.bool .And [(.call 12 [(.var 0), (.var 2)]), (.cmp .Eq (.call 40 [(.var 0), (.var 1), (.var 2)]) (.call 31 [(.var 0)]))]))], false⟩
def d__law_cup : Def := ⟨1, ["script", "cell"], [(.sAsg (.gVar 1) (.bi .abs [(.idx (.bin .Add (.bi .list [(.var 0)]) (.lst [(.int 0)])) (.int 0))])), (.sRet (.mu (.lst [(.ite (.cmp .GtE (.var 1) (.bin .Pow (.int 10) (.int 18))) (.bin .FloorDiv (.var 1) (.int 333)) (.int 0)), (.bin .Add (.bin .Mod (.bi .int [(.bin .Add (.bin .Mult (.var 1) (.int 683)) (.int 5613))]) (.int 2077503101)) (.int 463))])))], false⟩
def d__law_roll : Def := ⟨2, ["cup", "many", "found", "deep"], [(.sIf (.cmp .Gt (.idx (.var 0) (.int 0)) (.int 0)) [(.sAsg (.gVar 2) (.bin .Mod (.bi .int [(.idx (.var 0) (.int 0))]) (.var 1))), (.sAsg (.gSub (.var 0) (.int 0)) (.bin .FloorDiv (.idx (.var 0) (.int 0)) (.var 1))), (.sRet (.var 2))] []), (.sAsg (.gSub (.var 0) (.int 1)) (.bin .Mod (.bi .int [(.bin .Add (.bin .Mult (.idx (.var 0) (.int 1)) (.int 31441)) (.int 8527))]) (.int 2147483399))), (.sAsg (.gVar 3) (.bin .Mod (.bi .int [(.bin .Mult (.idx (.var 0) (.int 1)) (.bin .Add (.idx (.var 0) (.int 1)) (.int 727)))]) (.int 2147483563))), (.sRet (.bin .Mod (.bi .int [(.bin .FloorDiv (.var 3) (.int 821))]) (.var 1)))], false⟩
def d__law_word : WDef := ⟨["call", "error", "kinds", "words", "word", "is_so"], [(0, 1, [(.sAsg (.gVar 2) (.tup [(.tup [(.str ⟨#[108, 101, 97, 103, 117, 101]⟩), (.isOwn 1 (.var 1))]), (.tup [(.str ⟨#[115, 101, 97, 115, 111, 110]⟩), (.isOwn 2 (.var 1))]), (.tup [(.str ⟨#[110, 117, 109, 98, 101, 114]⟩), (.isOwn 3 (.var 1))])])), (.sSetH 3 [("word", 4), ("is_so", 5)] (.gTupH [(.gVar 4), (.gVar 5)]) (.var 2) [(.var 5)] (.var 4)), (.sRet (.ite (.bool .And [(.cmp .Eq (.bi .len [(.var 3)]) (.int 1)), (.isVE (.var 1))]) (.idx (.var 3) (.int 0)) (.str ⟨#[111, 100, 100]⟩)))])], [(.sRet (.str ⟨#[]⟩))]⟩
def d__law_season_words : Def := ⟨4, ["league", "season", "other", "many", "words", "call"], [(.sAsgC 4 true (.comp [("call", 5)] (.gVar 5) (.iSeq (.tup [(.gfn 32), (.gfn 34), (.gfn 35), (.gfn 45)])) [] (.word 49 (.callV 5 [(.var 0), (.var 1)])))), (.sExpr (.meth .append (.var 4) [(.word 49 (.call 46 [(.var 0), (.var 1), (.var 2)]))])), (.sExpr (.meth .append (.var 4) [(.word 49 (.call 40 [(.var 0), (.var 1), (.var 2)]))])), (.sRet (.bin .Add (.var 4) (.lst [(.word 49 (.call 43 [(.var 0), (.var 1), (.var 3)]))])))], true⟩
def d__law_league_words : Def := ⟨3, ["league", "pattern", "number", "words", "call"], [(.sAsgC 3 false (.comp [("call", 4)] (.gVar 4) (.iSeq (.tup [(.gfn 36), (.gfn 42), (.gfn 44)])) [] (.word 49 (.callV 4 [(.var 0)])))), (.sAsg (.gVar 3) (.bin .Add (.var 3) (.comp [("call", 4)] (.gVar 4) (.iSeq (.tup [(.gfn 33), (.gfn 41)])) [] (.word 49 (.callV 4 [(.var 0), (.var 2)]))))), (.sAsg (.gVar 3) (.bin .Add (.var 3) (.comp [("call", 4)] (.gVar 4) (.iSeq (.tup [(.gfn 37), (.gfn 38)])) [] (.word 49 (.callV 4 [(.var 0), (.var 1)]))))), (.sRet (.bin .Add (.var 3) (.lst [(.word 49 (.call 39 [(.var 0), (.var 1), (.var 2)]))])))], true⟩
def d_law : Def := ⟨1, ["script", "cup", "size", "good", "season", "odds", "odd", "pair", "rows", "none", "words", "wide", "own"], [(.sAsg (.gVar 1) (.call 47 [(.var 0)])), (.sAsg (.gVar 2) (.bin .Add (.int 2) (.call 48 [(.var 1), (.int 6)]))), (.sPar [3, 4] [(.tup [(.tup [(.var 2), (.int 2)]), (.tup [(.bin .Add (.int 1) (.call 48 [(.var 1), (.int 2)]))])]), (.tup [(.trg [(.var 2)]), (.tup [(.var 2), (.bin .Add (.var 2) (.int 1))])])]), (.sIf (.bool .Or [(.cmp .NotEq (.call 50 [(.var 3), (.var 4), (.var 4), (.int 2)]) (.bin .Mult (.lst [(.str ⟨#[]⟩)]) (.int 7))), (.cmp .NotEq (.call 51 [(.var 3), (.bin .Mult (.tup [.non]) (.bin .Add (.var 2) (.int 2))), (.int 0)]) (.bin .Mult (.lst [(.str ⟨#[]⟩)]) (.int 8)))]) [(.sRet (.bl false))] []), (.sAsg (.gVar 5) (.lst [.non, (.tup []), (.tup [(.tup [(.int 2)])]), (.tup [(.tup [(.int 2)]), (.tup []), (.tup [])]), (.lst [(.tup [(.int 2)]), (.tup [])]), (.tup [(.lst [(.int 2)]), (.tup [])]), (.tup [(.tup [(.int 2)]), (.lst [])]), (.tup [(.tup []), (.tup [])]), (.tup [(.tup [(.int 0)]), (.tup [])]), (.tup [(.tup [(.bl true)]), (.tup [])]), (.tup [(.tup [(.int 25)]), (.tup [])]), (.tup [(.tup [(.int 12), (.int 13)]), (.tup [(.int 1)])]), (.tup [(.tup [.non]), (.tup [])])])), (.sAsg (.gVar 5) (.bin .Add (.var 5) (.lst [(.tup [(.tup [(.int 1), (.int 2), (.int 2), (.int 2), (.int 2), (.int 2), (.int 1)]), (.bin .Mult (.tup [(.int 1)]) (.int 6))]), (.tup [(.tup [(.int 2), (.int 2)]), (.tup [])]), (.tup [(.tup [(.int 2), (.int 2)]), (.tup [(.int 1), (.int 1)])]), (.tup [(.tup [(.int 2), (.int 2)]), (.tup [(.int 0)])]), (.tup [(.tup [(.int 2), (.int 2)]), (.tup [(.int 3)])]), (.tup [(.tup [(.int 2), (.int 2)]), (.tup [(.bl true)])]), (.tup [(.tup [(.int 3), (.int 2)]), (.tup [(.neg (.int 1))])])]))), (.sFor (.gVar 6) (.iSeq (.bin .Add (.var 5) (.lst [(.tup [(.tup [(.int 2), (.int 2), (.int 2)]), (.tup [(.int 1), (.int 2)])]), (.tup [(.tup [(.int 1), (.int 1), (.int 1)]), (.tup [(.int 1), (.int 1)])]), (.tup [(.tup [(.int 2), (.int 2)]), (.tup [.non])]), (.tup [(.tup [(.int 2), (.str ⟨#[50]⟩)]), (.tup [(.int 1)])]), (.str ⟨#[50, 50]⟩), (.int 5)]))) [(.sIf (.bool .Or [(.cmp .NotEq (.call 50 [(.var 6), .non, .non, .non]) (.bin .Mult (.lst [(.str ⟨#[108, 101, 97, 103, 117, 101]⟩)]) (.int 7))), (.cmp .NotEq (.call 51 [(.var 6), .non, .non]) (.bin .Mult (.lst [(.str ⟨#[108, 101, 97, 103, 117, 101]⟩)]) (.int 8)))]) [(.sRet (.bl false))] [])]), (.sAsg (.gTup [(.gVar 7), (.gVar 8)]) (.tup [(.tup [(.tup [(.int 2), (.int 2)]), (.tup [(.int 1)])]), (.tup [(.tup [(.int 0), (.int 1)]), (.tup [(.int 2), (.int 3)])])])), (.sAsg (.gVar 5) (.lst [.non, (.tup []), (.tup [(.tup [(.int 0), (.int 1)])]), (.tup [(.tup [(.int 0), (.int 1)]), (.tup [(.int 2), (.int 3)]), (.tup [])]), (.lst [(.tup [(.int 0), (.int 1)]), (.tup [(.int 2), (.int 3)])]), (.tup [(.tup [(.int 0), (.int 1)]), (.lst [(.int 2), (.int 3)])]), (.tup [(.tup [(.int 1), (.int 0)]), (.tup [(.int 2), (.int 3)])]), (.tup [(.tup [(.int 0), (.int 0)]), (.tup [(.int 2), (.int 3)])]), (.tup [(.tup [(.int 0), (.int 1)]), (.tup [(.int 1), (.int 2)])]), (.tup [(.tup [(.int 0), (.int 1)]), (.tup [(.int 2), (.int 4)])]), (.tup [(.tup [(.int 0), (.int 1), (.int 2)]), (.tup [(.int 3)])])])), (.sFor (.gVar 6) (.iSeq (.bin .Add (.var 5) (.lst [(.tup [(.tup [(.int 0), (.int 2)]), (.tup [(.int 3), (.bl true)])]), (.tup [(.tup [(.neg (.int 1)), (.int 1)]), (.tup [(.int 2), (.int 3)])]), (.tup [(.tup [(.int 0), (.int 1)]), (.tup [(.int 2), .non])]), (.tup [(.tup [(.int 0), (.int 1)]), (.tup [(.int 2)])]), (.str ⟨#[48, 44, 49, 124, 50, 44, 51, 59]⟩), (.int 5)]))) [(.sIf (.bool .Or [(.cmp .NotEq (.call 50 [(.var 7), (.var 6), .non, .non]) (.bin .Mult (.lst [(.str ⟨#[115, 101, 97, 115, 111, 110]⟩)]) (.int 7))), (.cmp .NotEq (.word 49 (.call 40 [(.var 7), (.var 8), (.var 6)])) (.str ⟨#[115, 101, 97, 115, 111, 110]⟩))]) [(.sRet (.bl false))] [])]), (.sFor (.gVar 6) (.iSeq (.tup [.non, (.tup []), (.bin .Mult (.tup [.non]) (.int 3)), (.bin .Mult (.tup [.non]) (.int 5)), (.bin .Mult (.lst [.non]) (.int 4)), (.tup [(.int 0), (.int 1), (.int 1), (.int 2)]), (.tup [(.int 0), (.int 1), (.neg (.int 1)), .non]), (.tup [(.bl true), .non, .non, .non]), (.tup [.non, .non, .non, (.str ⟨#[48]⟩)]), (.int 5)])) [(.sIf (.bool .Or [(.cmp .NotEq (.call 51 [(.var 7), (.var 6), (.int 0)]) (.bin .Add (.bin .Mult (.lst [(.str ⟨#[]⟩)]) (.int 5)) (.bin .Mult (.lst [(.str ⟨#[115, 101, 97, 115, 111, 110]⟩)]) (.int 3)))), (.cmp .NotEq (.word 49 (.call 39 [(.var 7), (.var 6), .non])) (.str ⟨#[115, 101, 97, 115, 111, 110]⟩))]) [(.sRet (.bl false))] [])]), (.sAsg (.gVar 9) (.bin .Mult (.tup [.non]) (.int 4))), (.sFor (.gVar 6) (.iSeq (.tup [.non, (.neg (.int 1)), (.bl true), (.str ⟨#[49]⟩)])) [(.sIf (.bool .Or [(.cmp .NotEq (.call 51 [(.var 7), (.var 9), (.var 6)]) (.bin .Add (.bin .Add (.bin .Add (.bin .Mult (.lst [(.str ⟨#[]⟩)]) (.int 3)) (.bin .Mult (.lst [(.str ⟨#[110, 117, 109, 98, 101, 114]⟩)]) (.int 2))) (.bin .Mult (.lst [(.str ⟨#[]⟩)]) (.int 2))) (.lst [(.str ⟨#[110, 117, 109, 98, 101, 114]⟩)]))), (.cmp .NotEq (.idx (.call 50 [(.var 7), (.var 8), (.var 8), (.var 6)]) (.int 6)) (.str ⟨#[110, 117, 109, 98, 101, 114]⟩))]) [(.sRet (.bl false))] [])]), (.sAsgC 10 false (.comp [("own", 12)] (.gVar 12) (.iSeq (.tup [(.int 0), (.int 1), (.int 2), (.int 4), (.int 5), (.int 6)])) [] (.slc (.call 51 [(.var 7), (.tup [(.int 0), .non, .non, (.int 1)]), (.var 12)]) (.int 3) .nix))), (.sIf (.cmp .NotEq (.var 10) (.bin .Add (.bin .Add (.bin .Add (.bin .Mult (.lst [(.bin .Mult (.lst [(.str ⟨#[]⟩)]) (.int 5))]) (.int 2)) (.bin .Mult (.lst [(.bin .Add (.bin .Mult (.lst [(.str ⟨#[]⟩)]) (.int 4)) (.lst [(.str ⟨#[110, 117, 109, 98, 101, 114]⟩)]))]) (.int 2))) (.lst [(.bin .Add (.bin .Add (.lst [(.str ⟨#[]⟩), (.str ⟨#[110, 117, 109, 98, 101, 114]⟩)]) (.bin .Mult (.lst [(.str ⟨#[]⟩)]) (.int 2))) (.lst [(.str ⟨#[110, 117, 109, 98, 101, 114]⟩)]))])) (.lst [(.bin .Add (.bin .Add (.bin .Mult (.lst [(.str ⟨#[110, 117, 109, 98, 101, 114]⟩)]) (.int 2)) (.bin .Mult (.lst [(.str ⟨#[]⟩)]) (.int 2))) (.lst [(.str ⟨#[110, 117, 109, 98, 101, 114]⟩)]))]))) [(.sRet (.bl false))] []), (.sIf (.bool .Or [(.cmp .NotEq (.call 51 [(.var 7), (.tup [(.int 0), (.int 0), (.int 0), .non]), (.int 0)]) (.bin .Add (.bin .Mult (.lst [(.str ⟨#[]⟩)]) (.int 7)) (.lst [(.str ⟨#[110, 117, 109, 98, 101, 114]⟩)]))), (.cmp .NotEq (.comp [("own", 12)] (.gVar 12) (.iSeq (.tup [(.int 0), (.int 1), (.int 4), (.int 5)])) [] (.idx (.call 50 [(.var 7), (.var 8), (.var 8), (.var 12)]) (.int 6))) (.bin .Add (.bin .Mult (.lst [(.str ⟨#[]⟩)]) (.int 3)) (.lst [(.str ⟨#[110, 117, 109, 98, 101, 114]⟩)])))]) [(.sRet (.bl false))] []), (.sAsg (.gVar 11) (.tup [(.tup [(.int 4), (.int 4), (.int 4), (.int 4), (.int 4), (.int 4)]), (.tup [(.int 2), (.int 2), (.int 2), (.int 2), (.int 2)])])), (.sAsgC 10 false (.comp [("own", 12)] (.gVar 12) (.iSeq (.tup [(.bin .Sub (.int 3246670537110000) (.int 1)), (.int 3246670537110000)])) [] (.word 49 (.call 33 [(.var 11), (.var 12)])))), (.sRet (.bool .And [(.cmp .Eq (.var 10) (.lst [(.str ⟨#[]⟩), (.str ⟨#[110, 117, 109, 98, 101, 114]⟩)])), (.cmp .Eq (.comp [("own", 12)] (.gVar 12) (.iSeq (.tup [(.int 24), (.int 25)])) [] (.word 49 (.call 41 [(.var 11), (.var 12)]))) (.lst [(.str ⟨#[]⟩), (.str ⟨#[110, 117, 109, 98, 101, 114]⟩)]))]))], true⟩
def ms : List Gm := [.ex 0 "LeagueError" none, .ex 1 "InvalidLeague" (some 0), .ex 2 "InvalidSeason" (some 0), .ex 3 "InvalidNumber" (some 0), .nu "DIVISIONS" 6, .nu "TEAMS" 24, .df "is_whole" d_is_whole, .df "is_tuple_of" d_is_tuple_of, .df "is_rising" d_is_rising, .df "fits_league" d_fits_league, .df "need_league" d_need_league, .df "teams_in" d_teams_in, .df "fits_season" d_fits_season, .df "need_season" d_need_season, .df "place_of" d_place_of, .df "season_by" d_season_by, .df "product_to" d_product_to, .df "shared_ways" d_shared_ways, .df "divisions_in" d_divisions_in, .df "need_pattern" d_need_pattern, .df "need_below" d_need_below, .df "need_both" d_need_both, .df "rank_in" d_rank_in, .df "row_ranked" d_row_ranked, .df "row_beside" d_row_beside, .df "left_by" d_left_by, .df "ways_left" d_ways_left, .df "filled" d_filled, .df "chosen_from" d_chosen_from, .df "ways_apart" d_ways_apart, .df "first_row_apart" d_first_row_apart, .df "farthest_in" d_farthest_in, .df "season_rank" d_season_rank, .df "season_ranked" d_season_ranked, .df "following_season" d_following_season, .df "season_ahead" d_season_ahead, .df "last_season" d_last_season, .df "count_like" d_count_like, .df "first_like" d_first_like, .df "like_ranked" d_like_ranked, .df "apart_by" d_apart_by, .df "count_apart" d_count_apart, .df "counts_apart" d_counts_apart, .df "first_apart" d_first_apart, .df "farthest" d_farthest, .df "far_season" d_far_season, .df "is_far_season" d_is_far_season, .df "_law_cup" d__law_cup, .df "_law_roll" d__law_roll, .wd "_law_word" d__law_word, .df "_law_season_words" d__law_season_words, .df "_law_league_words" d__law_league_words, .df "law" d_law]
theorem lk_is_whole : allS (looks d_is_whole.body) ⟨d_is_whole.names, defScope (topS 8), fun _ => true, gsM ms, true, false, false, d_is_whole.lam⟩ (defBody (topS 8)) = true := by kernel_rfl
theorem sc_is_whole : FnScope d_is_whole.names (d_is_whole.names.take d_is_whole.arity) (defScope (topS 8)) := sc_by (by kernel_rfl)
theorem bd_is_whole (kV doc pm : Value) (an : Option Addr) (cdv ct : Value) (us : List Value) (hl : us.length = (d_is_whole.names.take d_is_whole.arity).length) : bindArgs (PySem.W.fnOf "is_whole" "is_whole" (defArgs (topS 8)) (defBody (topS 8)) (defScope (topS 8)) .none kV doc pm an cdv ct) ⟨us, []⟩ = pure ((d_is_whole.names.take d_is_whole.arity).zip us) := match us, hl with | [_, _, _], _ => rfl
theorem lk_is_tuple_of : allS (looks d_is_tuple_of.body) ⟨d_is_tuple_of.names, defScope (topS 9), fun _ => true, gsM ms, true, false, false, d_is_tuple_of.lam⟩ (defBody (topS 9)) = true := by kernel_rfl
theorem sc_is_tuple_of : FnScope d_is_tuple_of.names (d_is_tuple_of.names.take d_is_tuple_of.arity) (defScope (topS 9)) := sc_by (by kernel_rfl)
theorem bd_is_tuple_of (kV doc pm : Value) (an : Option Addr) (cdv ct : Value) (us : List Value) (hl : us.length = (d_is_tuple_of.names.take d_is_tuple_of.arity).length) : bindArgs (PySem.W.fnOf "is_tuple_of" "is_tuple_of" (defArgs (topS 9)) (defBody (topS 9)) (defScope (topS 9)) .none kV doc pm an cdv ct) ⟨us, []⟩ = pure ((d_is_tuple_of.names.take d_is_tuple_of.arity).zip us) := match us, hl with | [_, _, _], _ => rfl
theorem lk_is_rising : allS (looks d_is_rising.body) ⟨d_is_rising.names, defScope (topS 10), fun _ => true, gsM ms, true, false, false, d_is_rising.lam⟩ (defBody (topS 10)) = true := by kernel_rfl
theorem sc_is_rising : FnScope d_is_rising.names (d_is_rising.names.take d_is_rising.arity) (defScope (topS 10)) := sc_by (by kernel_rfl)
theorem bd_is_rising (kV doc pm : Value) (an : Option Addr) (cdv ct : Value) (us : List Value) (hl : us.length = (d_is_rising.names.take d_is_rising.arity).length) : bindArgs (PySem.W.fnOf "is_rising" "is_rising" (defArgs (topS 10)) (defBody (topS 10)) (defScope (topS 10)) .none kV doc pm an cdv ct) ⟨us, []⟩ = pure ((d_is_rising.names.take d_is_rising.arity).zip us) := match us, hl with | [_], _ => rfl
theorem lk_fits_league : allS (looks d_fits_league.body) ⟨d_fits_league.names, defScope (topS 11), fun _ => true, gsM ms, true, false, false, d_fits_league.lam⟩ (defBody (topS 11)) = true := by kernel_rfl
theorem sc_fits_league : FnScope d_fits_league.names (d_fits_league.names.take d_fits_league.arity) (defScope (topS 11)) := sc_by (by kernel_rfl)
theorem bd_fits_league (kV doc pm : Value) (an : Option Addr) (cdv ct : Value) (us : List Value) (hl : us.length = (d_fits_league.names.take d_fits_league.arity).length) : bindArgs (PySem.W.fnOf "fits_league" "fits_league" (defArgs (topS 11)) (defBody (topS 11)) (defScope (topS 11)) .none kV doc pm an cdv ct) ⟨us, []⟩ = pure ((d_fits_league.names.take d_fits_league.arity).zip us) := match us, hl with | [_], _ => rfl
theorem lk_need_league : allS (looks d_need_league.body) ⟨d_need_league.names, defScope (topS 12), fun _ => true, gsM ms, true, false, false, d_need_league.lam⟩ (defBody (topS 12)) = true := by kernel_rfl
theorem sc_need_league : FnScope d_need_league.names (d_need_league.names.take d_need_league.arity) (defScope (topS 12)) := sc_by (by kernel_rfl)
theorem bd_need_league (kV doc pm : Value) (an : Option Addr) (cdv ct : Value) (us : List Value) (hl : us.length = (d_need_league.names.take d_need_league.arity).length) : bindArgs (PySem.W.fnOf "need_league" "need_league" (defArgs (topS 12)) (defBody (topS 12)) (defScope (topS 12)) .none kV doc pm an cdv ct) ⟨us, []⟩ = pure ((d_need_league.names.take d_need_league.arity).zip us) := match us, hl with | [_], _ => rfl
theorem lk_teams_in : allS (looks d_teams_in.body) ⟨d_teams_in.names, defScope (topS 13), fun _ => true, gsM ms, true, false, false, d_teams_in.lam⟩ (defBody (topS 13)) = true := by kernel_rfl
theorem sc_teams_in : FnScope d_teams_in.names (d_teams_in.names.take d_teams_in.arity) (defScope (topS 13)) := sc_by (by kernel_rfl)
theorem bd_teams_in (kV doc pm : Value) (an : Option Addr) (cdv ct : Value) (us : List Value) (hl : us.length = (d_teams_in.names.take d_teams_in.arity).length) : bindArgs (PySem.W.fnOf "teams_in" "teams_in" (defArgs (topS 13)) (defBody (topS 13)) (defScope (topS 13)) .none kV doc pm an cdv ct) ⟨us, []⟩ = pure ((d_teams_in.names.take d_teams_in.arity).zip us) := match us, hl with | [_], _ => rfl
theorem lk_fits_season : allS (looks d_fits_season.body) ⟨d_fits_season.names, defScope (topS 14), fun _ => true, gsM ms, true, false, false, d_fits_season.lam⟩ (defBody (topS 14)) = true := by kernel_rfl
theorem sc_fits_season : FnScope d_fits_season.names (d_fits_season.names.take d_fits_season.arity) (defScope (topS 14)) := sc_by (by kernel_rfl)
theorem bd_fits_season (kV doc pm : Value) (an : Option Addr) (cdv ct : Value) (us : List Value) (hl : us.length = (d_fits_season.names.take d_fits_season.arity).length) : bindArgs (PySem.W.fnOf "fits_season" "fits_season" (defArgs (topS 14)) (defBody (topS 14)) (defScope (topS 14)) .none kV doc pm an cdv ct) ⟨us, []⟩ = pure ((d_fits_season.names.take d_fits_season.arity).zip us) := match us, hl with | [_, _], _ => rfl
theorem lk_need_season : allS (looks d_need_season.body) ⟨d_need_season.names, defScope (topS 15), fun _ => true, gsM ms, true, false, false, d_need_season.lam⟩ (defBody (topS 15)) = true := by kernel_rfl
theorem sc_need_season : FnScope d_need_season.names (d_need_season.names.take d_need_season.arity) (defScope (topS 15)) := sc_by (by kernel_rfl)
theorem bd_need_season (kV doc pm : Value) (an : Option Addr) (cdv ct : Value) (us : List Value) (hl : us.length = (d_need_season.names.take d_need_season.arity).length) : bindArgs (PySem.W.fnOf "need_season" "need_season" (defArgs (topS 15)) (defBody (topS 15)) (defScope (topS 15)) .none kV doc pm an cdv ct) ⟨us, []⟩ = pure ((d_need_season.names.take d_need_season.arity).zip us) := match us, hl with | [_, _], _ => rfl
theorem lk_place_of : allS (looks d_place_of.body) ⟨d_place_of.names, defScope (topS 16), fun _ => true, gsM ms, true, false, false, d_place_of.lam⟩ (defBody (topS 16)) = true := by kernel_rfl
theorem sc_place_of : FnScope d_place_of.names (d_place_of.names.take d_place_of.arity) (defScope (topS 16)) := sc_by (by kernel_rfl)
theorem bd_place_of (kV doc pm : Value) (an : Option Addr) (cdv ct : Value) (us : List Value) (hl : us.length = (d_place_of.names.take d_place_of.arity).length) : bindArgs (PySem.W.fnOf "place_of" "place_of" (defArgs (topS 16)) (defBody (topS 16)) (defScope (topS 16)) .none kV doc pm an cdv ct) ⟨us, []⟩ = pure ((d_place_of.names.take d_place_of.arity).zip us) := match us, hl with | [_, _], _ => rfl
theorem lk_season_by : allS (looks d_season_by.body) ⟨d_season_by.names, defScope (topS 17), fun _ => true, gsM ms, true, false, false, d_season_by.lam⟩ (defBody (topS 17)) = true := by kernel_rfl
theorem sc_season_by : FnScope d_season_by.names (d_season_by.names.take d_season_by.arity) (defScope (topS 17)) := sc_by (by kernel_rfl)
theorem bd_season_by (kV doc pm : Value) (an : Option Addr) (cdv ct : Value) (us : List Value) (hl : us.length = (d_season_by.names.take d_season_by.arity).length) : bindArgs (PySem.W.fnOf "season_by" "season_by" (defArgs (topS 17)) (defBody (topS 17)) (defScope (topS 17)) .none kV doc pm an cdv ct) ⟨us, []⟩ = pure ((d_season_by.names.take d_season_by.arity).zip us) := match us, hl with | [_, _], _ => rfl
theorem lk_product_to : allS (looks d_product_to.body) ⟨d_product_to.names, defScope (topS 19), fun _ => true, gsM ms, true, false, false, d_product_to.lam⟩ (defBody (topS 19)) = true := by kernel_rfl
theorem sc_product_to : FnScope d_product_to.names (d_product_to.names.take d_product_to.arity) (defScope (topS 19)) := sc_by (by kernel_rfl)
theorem bd_product_to (kV doc pm : Value) (an : Option Addr) (cdv ct : Value) (us : List Value) (hl : us.length = (d_product_to.names.take d_product_to.arity).length) : bindArgs (PySem.W.fnOf "product_to" "product_to" (defArgs (topS 19)) (defBody (topS 19)) (defScope (topS 19)) .none kV doc pm an cdv ct) ⟨us, []⟩ = pure ((d_product_to.names.take d_product_to.arity).zip us) := match us, hl with | [_], _ => rfl
theorem lk_shared_ways : allS (looks d_shared_ways.body) ⟨d_shared_ways.names, defScope (topS 20), fun _ => true, gsM ms, true, false, false, d_shared_ways.lam⟩ (defBody (topS 20)) = true := by kernel_rfl
theorem sc_shared_ways : FnScope d_shared_ways.names (d_shared_ways.names.take d_shared_ways.arity) (defScope (topS 20)) := sc_by (by kernel_rfl)
theorem bd_shared_ways (kV doc pm : Value) (an : Option Addr) (cdv ct : Value) (us : List Value) (hl : us.length = (d_shared_ways.names.take d_shared_ways.arity).length) : bindArgs (PySem.W.fnOf "shared_ways" "shared_ways" (defArgs (topS 20)) (defBody (topS 20)) (defScope (topS 20)) .none kV doc pm an cdv ct) ⟨us, []⟩ = pure ((d_shared_ways.names.take d_shared_ways.arity).zip us) := match us, hl with | [_], _ => rfl
theorem lk_divisions_in : allS (looks d_divisions_in.body) ⟨d_divisions_in.names, defScope (topS 22), fun _ => true, gsM ms, true, false, false, d_divisions_in.lam⟩ (defBody (topS 22)) = true := by kernel_rfl
theorem sc_divisions_in : FnScope d_divisions_in.names (d_divisions_in.names.take d_divisions_in.arity) (defScope (topS 22)) := sc_by (by kernel_rfl)
theorem bd_divisions_in (kV doc pm : Value) (an : Option Addr) (cdv ct : Value) (us : List Value) (hl : us.length = (d_divisions_in.names.take d_divisions_in.arity).length) : bindArgs (PySem.W.fnOf "divisions_in" "divisions_in" (defArgs (topS 22)) (defBody (topS 22)) (defScope (topS 22)) .none kV doc pm an cdv ct) ⟨us, []⟩ = pure ((d_divisions_in.names.take d_divisions_in.arity).zip us) := match us, hl with | [_, _], _ => rfl
theorem lk_need_pattern : allS (looks d_need_pattern.body) ⟨d_need_pattern.names, defScope (topS 23), fun _ => true, gsM ms, true, false, false, d_need_pattern.lam⟩ (defBody (topS 23)) = true := by kernel_rfl
theorem sc_need_pattern : FnScope d_need_pattern.names (d_need_pattern.names.take d_need_pattern.arity) (defScope (topS 23)) := sc_by (by kernel_rfl)
theorem bd_need_pattern (kV doc pm : Value) (an : Option Addr) (cdv ct : Value) (us : List Value) (hl : us.length = (d_need_pattern.names.take d_need_pattern.arity).length) : bindArgs (PySem.W.fnOf "need_pattern" "need_pattern" (defArgs (topS 23)) (defBody (topS 23)) (defScope (topS 23)) .none kV doc pm an cdv ct) ⟨us, []⟩ = pure ((d_need_pattern.names.take d_need_pattern.arity).zip us) := match us, hl with | [_, _], _ => rfl
theorem lk_need_below : allS (looks d_need_below.body) ⟨d_need_below.names, defScope (topS 24), fun _ => true, gsM ms, true, false, false, d_need_below.lam⟩ (defBody (topS 24)) = true := by kernel_rfl
theorem sc_need_below : FnScope d_need_below.names (d_need_below.names.take d_need_below.arity) (defScope (topS 24)) := sc_by (by kernel_rfl)
theorem bd_need_below (kV doc pm : Value) (an : Option Addr) (cdv ct : Value) (us : List Value) (hl : us.length = (d_need_below.names.take d_need_below.arity).length) : bindArgs (PySem.W.fnOf "need_below" "need_below" (defArgs (topS 24)) (defBody (topS 24)) (defScope (topS 24)) .none kV doc pm an cdv ct) ⟨us, []⟩ = pure ((d_need_below.names.take d_need_below.arity).zip us) := match us, hl with | [_, _], _ => rfl
theorem lk_need_both : allS (looks d_need_both.body) ⟨d_need_both.names, defScope (topS 25), fun _ => true, gsM ms, true, false, false, d_need_both.lam⟩ (defBody (topS 25)) = true := by kernel_rfl
theorem sc_need_both : FnScope d_need_both.names (d_need_both.names.take d_need_both.arity) (defScope (topS 25)) := sc_by (by kernel_rfl)
theorem bd_need_both (kV doc pm : Value) (an : Option Addr) (cdv ct : Value) (us : List Value) (hl : us.length = (d_need_both.names.take d_need_both.arity).length) : bindArgs (PySem.W.fnOf "need_both" "need_both" (defArgs (topS 25)) (defBody (topS 25)) (defScope (topS 25)) .none kV doc pm an cdv ct) ⟨us, []⟩ = pure ((d_need_both.names.take d_need_both.arity).zip us) := match us, hl with | [_, _, _], _ => rfl
theorem lk_rank_in : allS (looks d_rank_in.body) ⟨d_rank_in.names, defScope (topS 26), fun _ => true, gsM ms, true, false, false, d_rank_in.lam⟩ (defBody (topS 26)) = true := by kernel_rfl
theorem sc_rank_in : FnScope d_rank_in.names (d_rank_in.names.take d_rank_in.arity) (defScope (topS 26)) := sc_by (by kernel_rfl)
theorem bd_rank_in (kV doc pm : Value) (an : Option Addr) (cdv ct : Value) (us : List Value) (hl : us.length = (d_rank_in.names.take d_rank_in.arity).length) : bindArgs (PySem.W.fnOf "rank_in" "rank_in" (defArgs (topS 26)) (defBody (topS 26)) (defScope (topS 26)) .none kV doc pm an cdv ct) ⟨us, []⟩ = pure ((d_rank_in.names.take d_rank_in.arity).zip us) := match us, hl with | [_, _], _ => rfl
theorem lk_row_ranked : allS (looks d_row_ranked.body) ⟨d_row_ranked.names, defScope (topS 27), fun _ => true, gsM ms, true, false, false, d_row_ranked.lam⟩ (defBody (topS 27)) = true := by kernel_rfl
theorem sc_row_ranked : FnScope d_row_ranked.names (d_row_ranked.names.take d_row_ranked.arity) (defScope (topS 27)) := sc_by (by kernel_rfl)
theorem bd_row_ranked (kV doc pm : Value) (an : Option Addr) (cdv ct : Value) (us : List Value) (hl : us.length = (d_row_ranked.names.take d_row_ranked.arity).length) : bindArgs (PySem.W.fnOf "row_ranked" "row_ranked" (defArgs (topS 27)) (defBody (topS 27)) (defScope (topS 27)) .none kV doc pm an cdv ct) ⟨us, []⟩ = pure ((d_row_ranked.names.take d_row_ranked.arity).zip us) := match us, hl with | [_, _], _ => rfl
theorem lk_row_beside : allS (looks d_row_beside.body) ⟨d_row_beside.names, defScope (topS 28), fun _ => true, gsM ms, true, false, false, d_row_beside.lam⟩ (defBody (topS 28)) = true := by kernel_rfl
theorem sc_row_beside : FnScope d_row_beside.names (d_row_beside.names.take d_row_beside.arity) (defScope (topS 28)) := sc_by (by kernel_rfl)
theorem bd_row_beside (kV doc pm : Value) (an : Option Addr) (cdv ct : Value) (us : List Value) (hl : us.length = (d_row_beside.names.take d_row_beside.arity).length) : bindArgs (PySem.W.fnOf "row_beside" "row_beside" (defArgs (topS 28)) (defBody (topS 28)) (defScope (topS 28)) .none kV doc pm an cdv ct) ⟨us, []⟩ = pure ((d_row_beside.names.take d_row_beside.arity).zip us) := match us, hl with | [_, _], _ => rfl
theorem lk_left_by : allS (looks d_left_by.body) ⟨d_left_by.names, defScope (topS 29), fun _ => true, gsM ms, true, false, false, d_left_by.lam⟩ (defBody (topS 29)) = true := by kernel_rfl
theorem sc_left_by : FnScope d_left_by.names (d_left_by.names.take d_left_by.arity) (defScope (topS 29)) := sc_by (by kernel_rfl)
theorem bd_left_by (kV doc pm : Value) (an : Option Addr) (cdv ct : Value) (us : List Value) (hl : us.length = (d_left_by.names.take d_left_by.arity).length) : bindArgs (PySem.W.fnOf "left_by" "left_by" (defArgs (topS 29)) (defBody (topS 29)) (defScope (topS 29)) .none kV doc pm an cdv ct) ⟨us, []⟩ = pure ((d_left_by.names.take d_left_by.arity).zip us) := match us, hl with | [_, _], _ => rfl
theorem lk_ways_left : allS (looks d_ways_left.body) ⟨d_ways_left.names, defScope (topS 30), fun _ => true, gsM ms, true, false, false, d_ways_left.lam⟩ (defBody (topS 30)) = true := by kernel_rfl
theorem sc_ways_left : FnScope d_ways_left.names (d_ways_left.names.take d_ways_left.arity) (defScope (topS 30)) := sc_by (by kernel_rfl)
theorem bd_ways_left (kV doc pm : Value) (an : Option Addr) (cdv ct : Value) (us : List Value) (hl : us.length = (d_ways_left.names.take d_ways_left.arity).length) : bindArgs (PySem.W.fnOf "ways_left" "ways_left" (defArgs (topS 30)) (defBody (topS 30)) (defScope (topS 30)) .none kV doc pm an cdv ct) ⟨us, []⟩ = pure ((d_ways_left.names.take d_ways_left.arity).zip us) := match us, hl with | [_], _ => rfl
theorem lk_filled : allS (looks d_filled.body) ⟨d_filled.names, defScope (topS 31), fun _ => true, gsM ms, true, false, false, d_filled.lam⟩ (defBody (topS 31)) = true := by kernel_rfl
theorem sc_filled : FnScope d_filled.names (d_filled.names.take d_filled.arity) (defScope (topS 31)) := sc_by (by kernel_rfl)
theorem bd_filled (kV doc pm : Value) (an : Option Addr) (cdv ct : Value) (us : List Value) (hl : us.length = (d_filled.names.take d_filled.arity).length) : bindArgs (PySem.W.fnOf "filled" "filled" (defArgs (topS 31)) (defBody (topS 31)) (defScope (topS 31)) .none kV doc pm an cdv ct) ⟨us, []⟩ = pure ((d_filled.names.take d_filled.arity).zip us) := match us, hl with | [_, _, _], _ => rfl
theorem lk_chosen_from : allS (looks d_chosen_from.body) ⟨d_chosen_from.names, defScope (topS 32), fun _ => true, gsM ms, true, false, false, d_chosen_from.lam⟩ (defBody (topS 32)) = true := by kernel_rfl
theorem sc_chosen_from : FnScope d_chosen_from.names (d_chosen_from.names.take d_chosen_from.arity) (defScope (topS 32)) := sc_by (by kernel_rfl)
theorem bd_chosen_from (kV doc pm : Value) (an : Option Addr) (cdv ct : Value) (us : List Value) (hl : us.length = (d_chosen_from.names.take d_chosen_from.arity).length) : bindArgs (PySem.W.fnOf "chosen_from" "chosen_from" (defArgs (topS 32)) (defBody (topS 32)) (defScope (topS 32)) .none kV doc pm an cdv ct) ⟨us, []⟩ = pure ((d_chosen_from.names.take d_chosen_from.arity).zip us) := match us, hl with | [_, _], _ => rfl
theorem lk_ways_apart : allS (looks d_ways_apart.body) ⟨d_ways_apart.names, defScope (topS 33), fun _ => true, gsM ms, true, false, false, d_ways_apart.lam⟩ (defBody (topS 33)) = true := by kernel_rfl
theorem sc_ways_apart : FnScope d_ways_apart.names (d_ways_apart.names.take d_ways_apart.arity) (defScope (topS 33)) := sc_by (by kernel_rfl)
theorem bd_ways_apart (kV doc pm : Value) (an : Option Addr) (cdv ct : Value) (us : List Value) (hl : us.length = (d_ways_apart.names.take d_ways_apart.arity).length) : bindArgs (PySem.W.fnOf "ways_apart" "ways_apart" (defArgs (topS 33)) (defBody (topS 33)) (defScope (topS 33)) .none kV doc pm an cdv ct) ⟨us, []⟩ = pure ((d_ways_apart.names.take d_ways_apart.arity).zip us) := match us, hl with | [_, _, _], _ => rfl
theorem lk_first_row_apart : allS (looks d_first_row_apart.body) ⟨d_first_row_apart.names, defScope (topS 34), fun _ => true, gsM ms, true, false, false, d_first_row_apart.lam⟩ (defBody (topS 34)) = true := by kernel_rfl
theorem sc_first_row_apart : FnScope d_first_row_apart.names (d_first_row_apart.names.take d_first_row_apart.arity) (defScope (topS 34)) := sc_by (by kernel_rfl)
theorem bd_first_row_apart (kV doc pm : Value) (an : Option Addr) (cdv ct : Value) (us : List Value) (hl : us.length = (d_first_row_apart.names.take d_first_row_apart.arity).length) : bindArgs (PySem.W.fnOf "first_row_apart" "first_row_apart" (defArgs (topS 34)) (defBody (topS 34)) (defScope (topS 34)) .none kV doc pm an cdv ct) ⟨us, []⟩ = pure ((d_first_row_apart.names.take d_first_row_apart.arity).zip us) := match us, hl with | [_, _, _], _ => rfl
theorem lk_farthest_in : allS (looks d_farthest_in.body) ⟨d_farthest_in.names, defScope (topS 35), fun _ => true, gsM ms, true, false, false, d_farthest_in.lam⟩ (defBody (topS 35)) = true := by kernel_rfl
theorem sc_farthest_in : FnScope d_farthest_in.names (d_farthest_in.names.take d_farthest_in.arity) (defScope (topS 35)) := sc_by (by kernel_rfl)
theorem bd_farthest_in (kV doc pm : Value) (an : Option Addr) (cdv ct : Value) (us : List Value) (hl : us.length = (d_farthest_in.names.take d_farthest_in.arity).length) : bindArgs (PySem.W.fnOf "farthest_in" "farthest_in" (defArgs (topS 35)) (defBody (topS 35)) (defScope (topS 35)) .none kV doc pm an cdv ct) ⟨us, []⟩ = pure ((d_farthest_in.names.take d_farthest_in.arity).zip us) := match us, hl with | [_], _ => rfl
theorem lk_season_rank : allS (looks d_season_rank.body) ⟨d_season_rank.names, defScope (topS 36), fun _ => true, gsM ms, true, false, false, d_season_rank.lam⟩ (defBody (topS 36)) = true := by kernel_rfl
theorem sc_season_rank : FnScope d_season_rank.names (d_season_rank.names.take d_season_rank.arity) (defScope (topS 36)) := sc_by (by kernel_rfl)
theorem bd_season_rank (kV doc pm : Value) (an : Option Addr) (cdv ct : Value) (us : List Value) (hl : us.length = (d_season_rank.names.take d_season_rank.arity).length) : bindArgs (PySem.W.fnOf "season_rank" "season_rank" (defArgs (topS 36)) (defBody (topS 36)) (defScope (topS 36)) .none kV doc pm an cdv ct) ⟨us, []⟩ = pure ((d_season_rank.names.take d_season_rank.arity).zip us) := match us, hl with | [_, _], _ => rfl
theorem lk_season_ranked : allS (looks d_season_ranked.body) ⟨d_season_ranked.names, defScope (topS 37), fun _ => true, gsM ms, true, false, false, d_season_ranked.lam⟩ (defBody (topS 37)) = true := by kernel_rfl
theorem sc_season_ranked : FnScope d_season_ranked.names (d_season_ranked.names.take d_season_ranked.arity) (defScope (topS 37)) := sc_by (by kernel_rfl)
theorem bd_season_ranked (kV doc pm : Value) (an : Option Addr) (cdv ct : Value) (us : List Value) (hl : us.length = (d_season_ranked.names.take d_season_ranked.arity).length) : bindArgs (PySem.W.fnOf "season_ranked" "season_ranked" (defArgs (topS 37)) (defBody (topS 37)) (defScope (topS 37)) .none kV doc pm an cdv ct) ⟨us, []⟩ = pure ((d_season_ranked.names.take d_season_ranked.arity).zip us) := match us, hl with | [_, _], _ => rfl
theorem lk_following_season : allS (looks d_following_season.body) ⟨d_following_season.names, defScope (topS 38), fun _ => true, gsM ms, true, false, false, d_following_season.lam⟩ (defBody (topS 38)) = true := by kernel_rfl
theorem sc_following_season : FnScope d_following_season.names (d_following_season.names.take d_following_season.arity) (defScope (topS 38)) := sc_by (by kernel_rfl)
theorem bd_following_season (kV doc pm : Value) (an : Option Addr) (cdv ct : Value) (us : List Value) (hl : us.length = (d_following_season.names.take d_following_season.arity).length) : bindArgs (PySem.W.fnOf "following_season" "following_season" (defArgs (topS 38)) (defBody (topS 38)) (defScope (topS 38)) .none kV doc pm an cdv ct) ⟨us, []⟩ = pure ((d_following_season.names.take d_following_season.arity).zip us) := match us, hl with | [_, _], _ => rfl
theorem lk_season_ahead : allS (looks d_season_ahead.body) ⟨d_season_ahead.names, defScope (topS 39), fun _ => true, gsM ms, true, false, false, d_season_ahead.lam⟩ (defBody (topS 39)) = true := by kernel_rfl
theorem sc_season_ahead : FnScope d_season_ahead.names (d_season_ahead.names.take d_season_ahead.arity) (defScope (topS 39)) := sc_by (by kernel_rfl)
theorem bd_season_ahead (kV doc pm : Value) (an : Option Addr) (cdv ct : Value) (us : List Value) (hl : us.length = (d_season_ahead.names.take d_season_ahead.arity).length) : bindArgs (PySem.W.fnOf "season_ahead" "season_ahead" (defArgs (topS 39)) (defBody (topS 39)) (defScope (topS 39)) .none kV doc pm an cdv ct) ⟨us, []⟩ = pure ((d_season_ahead.names.take d_season_ahead.arity).zip us) := match us, hl with | [_, _], _ => rfl
theorem lk_last_season : allS (looks d_last_season.body) ⟨d_last_season.names, defScope (topS 40), fun _ => true, gsM ms, true, false, false, d_last_season.lam⟩ (defBody (topS 40)) = true := by kernel_rfl
theorem sc_last_season : FnScope d_last_season.names (d_last_season.names.take d_last_season.arity) (defScope (topS 40)) := sc_by (by kernel_rfl)
theorem bd_last_season (kV doc pm : Value) (an : Option Addr) (cdv ct : Value) (us : List Value) (hl : us.length = (d_last_season.names.take d_last_season.arity).length) : bindArgs (PySem.W.fnOf "last_season" "last_season" (defArgs (topS 40)) (defBody (topS 40)) (defScope (topS 40)) .none kV doc pm an cdv ct) ⟨us, []⟩ = pure ((d_last_season.names.take d_last_season.arity).zip us) := match us, hl with | [_], _ => rfl
theorem lk_count_like : allS (looks d_count_like.body) ⟨d_count_like.names, defScope (topS 41), fun _ => true, gsM ms, true, false, false, d_count_like.lam⟩ (defBody (topS 41)) = true := by kernel_rfl
theorem sc_count_like : FnScope d_count_like.names (d_count_like.names.take d_count_like.arity) (defScope (topS 41)) := sc_by (by kernel_rfl)
theorem bd_count_like (kV doc pm : Value) (an : Option Addr) (cdv ct : Value) (us : List Value) (hl : us.length = (d_count_like.names.take d_count_like.arity).length) : bindArgs (PySem.W.fnOf "count_like" "count_like" (defArgs (topS 41)) (defBody (topS 41)) (defScope (topS 41)) .none kV doc pm an cdv ct) ⟨us, []⟩ = pure ((d_count_like.names.take d_count_like.arity).zip us) := match us, hl with | [_, _], _ => rfl
theorem lk_first_like : allS (looks d_first_like.body) ⟨d_first_like.names, defScope (topS 42), fun _ => true, gsM ms, true, false, false, d_first_like.lam⟩ (defBody (topS 42)) = true := by kernel_rfl
theorem sc_first_like : FnScope d_first_like.names (d_first_like.names.take d_first_like.arity) (defScope (topS 42)) := sc_by (by kernel_rfl)
theorem bd_first_like (kV doc pm : Value) (an : Option Addr) (cdv ct : Value) (us : List Value) (hl : us.length = (d_first_like.names.take d_first_like.arity).length) : bindArgs (PySem.W.fnOf "first_like" "first_like" (defArgs (topS 42)) (defBody (topS 42)) (defScope (topS 42)) .none kV doc pm an cdv ct) ⟨us, []⟩ = pure ((d_first_like.names.take d_first_like.arity).zip us) := match us, hl with | [_, _], _ => rfl
theorem lk_like_ranked : allS (looks d_like_ranked.body) ⟨d_like_ranked.names, defScope (topS 43), fun _ => true, gsM ms, true, false, false, d_like_ranked.lam⟩ (defBody (topS 43)) = true := by kernel_rfl
theorem sc_like_ranked : FnScope d_like_ranked.names (d_like_ranked.names.take d_like_ranked.arity) (defScope (topS 43)) := sc_by (by kernel_rfl)
theorem bd_like_ranked (kV doc pm : Value) (an : Option Addr) (cdv ct : Value) (us : List Value) (hl : us.length = (d_like_ranked.names.take d_like_ranked.arity).length) : bindArgs (PySem.W.fnOf "like_ranked" "like_ranked" (defArgs (topS 43)) (defBody (topS 43)) (defScope (topS 43)) .none kV doc pm an cdv ct) ⟨us, []⟩ = pure ((d_like_ranked.names.take d_like_ranked.arity).zip us) := match us, hl with | [_, _, _], _ => rfl
theorem lk_apart_by : allS (looks d_apart_by.body) ⟨d_apart_by.names, defScope (topS 44), fun _ => true, gsM ms, true, false, false, d_apart_by.lam⟩ (defBody (topS 44)) = true := by kernel_rfl
theorem sc_apart_by : FnScope d_apart_by.names (d_apart_by.names.take d_apart_by.arity) (defScope (topS 44)) := sc_by (by kernel_rfl)
theorem bd_apart_by (kV doc pm : Value) (an : Option Addr) (cdv ct : Value) (us : List Value) (hl : us.length = (d_apart_by.names.take d_apart_by.arity).length) : bindArgs (PySem.W.fnOf "apart_by" "apart_by" (defArgs (topS 44)) (defBody (topS 44)) (defScope (topS 44)) .none kV doc pm an cdv ct) ⟨us, []⟩ = pure ((d_apart_by.names.take d_apart_by.arity).zip us) := match us, hl with | [_, _, _], _ => rfl
theorem lk_count_apart : allS (looks d_count_apart.body) ⟨d_count_apart.names, defScope (topS 45), fun _ => true, gsM ms, true, false, false, d_count_apart.lam⟩ (defBody (topS 45)) = true := by kernel_rfl
theorem sc_count_apart : FnScope d_count_apart.names (d_count_apart.names.take d_count_apart.arity) (defScope (topS 45)) := sc_by (by kernel_rfl)
theorem bd_count_apart (kV doc pm : Value) (an : Option Addr) (cdv ct : Value) (us : List Value) (hl : us.length = (d_count_apart.names.take d_count_apart.arity).length) : bindArgs (PySem.W.fnOf "count_apart" "count_apart" (defArgs (topS 45)) (defBody (topS 45)) (defScope (topS 45)) .none kV doc pm an cdv ct) ⟨us, []⟩ = pure ((d_count_apart.names.take d_count_apart.arity).zip us) := match us, hl with | [_, _], _ => rfl
theorem lk_counts_apart : allS (looks d_counts_apart.body) ⟨d_counts_apart.names, defScope (topS 46), fun _ => true, gsM ms, true, false, false, d_counts_apart.lam⟩ (defBody (topS 46)) = true := by kernel_rfl
theorem sc_counts_apart : FnScope d_counts_apart.names (d_counts_apart.names.take d_counts_apart.arity) (defScope (topS 46)) := sc_by (by kernel_rfl)
theorem bd_counts_apart (kV doc pm : Value) (an : Option Addr) (cdv ct : Value) (us : List Value) (hl : us.length = (d_counts_apart.names.take d_counts_apart.arity).length) : bindArgs (PySem.W.fnOf "counts_apart" "counts_apart" (defArgs (topS 46)) (defBody (topS 46)) (defScope (topS 46)) .none kV doc pm an cdv ct) ⟨us, []⟩ = pure ((d_counts_apart.names.take d_counts_apart.arity).zip us) := match us, hl with | [_], _ => rfl
theorem lk_first_apart : allS (looks d_first_apart.body) ⟨d_first_apart.names, defScope (topS 47), fun _ => true, gsM ms, true, false, false, d_first_apart.lam⟩ (defBody (topS 47)) = true := by kernel_rfl
theorem sc_first_apart : FnScope d_first_apart.names (d_first_apart.names.take d_first_apart.arity) (defScope (topS 47)) := sc_by (by kernel_rfl)
theorem bd_first_apart (kV doc pm : Value) (an : Option Addr) (cdv ct : Value) (us : List Value) (hl : us.length = (d_first_apart.names.take d_first_apart.arity).length) : bindArgs (PySem.W.fnOf "first_apart" "first_apart" (defArgs (topS 47)) (defBody (topS 47)) (defScope (topS 47)) .none kV doc pm an cdv ct) ⟨us, []⟩ = pure ((d_first_apart.names.take d_first_apart.arity).zip us) := match us, hl with | [_, _, _], _ => rfl
theorem lk_farthest : allS (looks d_farthest.body) ⟨d_farthest.names, defScope (topS 48), fun _ => true, gsM ms, true, false, false, d_farthest.lam⟩ (defBody (topS 48)) = true := by kernel_rfl
theorem sc_farthest : FnScope d_farthest.names (d_farthest.names.take d_farthest.arity) (defScope (topS 48)) := sc_by (by kernel_rfl)
theorem bd_farthest (kV doc pm : Value) (an : Option Addr) (cdv ct : Value) (us : List Value) (hl : us.length = (d_farthest.names.take d_farthest.arity).length) : bindArgs (PySem.W.fnOf "farthest" "farthest" (defArgs (topS 48)) (defBody (topS 48)) (defScope (topS 48)) .none kV doc pm an cdv ct) ⟨us, []⟩ = pure ((d_farthest.names.take d_farthest.arity).zip us) := match us, hl with | [_], _ => rfl
theorem lk_far_season : allS (looks d_far_season.body) ⟨d_far_season.names, defScope (topS 49), fun _ => true, gsM ms, true, false, false, d_far_season.lam⟩ (defBody (topS 49)) = true := by kernel_rfl
theorem sc_far_season : FnScope d_far_season.names (d_far_season.names.take d_far_season.arity) (defScope (topS 49)) := sc_by (by kernel_rfl)
theorem bd_far_season (kV doc pm : Value) (an : Option Addr) (cdv ct : Value) (us : List Value) (hl : us.length = (d_far_season.names.take d_far_season.arity).length) : bindArgs (PySem.W.fnOf "far_season" "far_season" (defArgs (topS 49)) (defBody (topS 49)) (defScope (topS 49)) .none kV doc pm an cdv ct) ⟨us, []⟩ = pure ((d_far_season.names.take d_far_season.arity).zip us) := match us, hl with | [_, _], _ => rfl
theorem lk_is_far_season : allS (looks d_is_far_season.body) ⟨d_is_far_season.names, defScope (topS 50), fun _ => true, gsM ms, true, false, false, d_is_far_season.lam⟩ (defBody (topS 50)) = true := by kernel_rfl
theorem sc_is_far_season : FnScope d_is_far_season.names (d_is_far_season.names.take d_is_far_season.arity) (defScope (topS 50)) := sc_by (by kernel_rfl)
theorem bd_is_far_season (kV doc pm : Value) (an : Option Addr) (cdv ct : Value) (us : List Value) (hl : us.length = (d_is_far_season.names.take d_is_far_season.arity).length) : bindArgs (PySem.W.fnOf "is_far_season" "is_far_season" (defArgs (topS 50)) (defBody (topS 50)) (defScope (topS 50)) .none kV doc pm an cdv ct) ⟨us, []⟩ = pure ((d_is_far_season.names.take d_is_far_season.arity).zip us) := match us, hl with | [_, _, _], _ => rfl
theorem lk__law_cup : allS (looks d__law_cup.body) ⟨d__law_cup.names, defScope (topS 52), fun _ => true, gsM ms, true, false, false, d__law_cup.lam⟩ (defBody (topS 52)) = true := by kernel_rfl
theorem sc__law_cup : FnScope d__law_cup.names (d__law_cup.names.take d__law_cup.arity) (defScope (topS 52)) := sc_by (by kernel_rfl)
theorem bd__law_cup (kV doc pm : Value) (an : Option Addr) (cdv ct : Value) (us : List Value) (hl : us.length = (d__law_cup.names.take d__law_cup.arity).length) : bindArgs (PySem.W.fnOf "_law_cup" "_law_cup" (defArgs (topS 52)) (defBody (topS 52)) (defScope (topS 52)) .none kV doc pm an cdv ct) ⟨us, []⟩ = pure ((d__law_cup.names.take d__law_cup.arity).zip us) := match us, hl with | [_], _ => rfl
theorem lk__law_roll : allS (looks d__law_roll.body) ⟨d__law_roll.names, defScope (topS 53), fun _ => true, gsM ms, true, false, false, d__law_roll.lam⟩ (defBody (topS 53)) = true := by kernel_rfl
theorem sc__law_roll : FnScope d__law_roll.names (d__law_roll.names.take d__law_roll.arity) (defScope (topS 53)) := sc_by (by kernel_rfl)
theorem bd__law_roll (kV doc pm : Value) (an : Option Addr) (cdv ct : Value) (us : List Value) (hl : us.length = (d__law_roll.names.take d__law_roll.arity).length) : bindArgs (PySem.W.fnOf "_law_roll" "_law_roll" (defArgs (topS 53)) (defBody (topS 53)) (defScope (topS 53)) .none kV doc pm an cdv ct) ⟨us, []⟩ = pure ((d__law_roll.names.take d__law_roll.arity).zip us) := match us, hl with | [_, _], _ => rfl
theorem lk__law_word : lookW d__law_word (gsM ms) (defScope (topS 54)) (defBody (topS 54)) = true := by kernel_rfl
theorem sc__law_word : FnScope d__law_word.names (["call"] : List Str) (defScope (topS 54)) := sc_by (by kernel_rfl)
theorem bd__law_word (kV doc pm : Value) (an : Option Addr) (cdv ct : Value) (us : List Value) (hl : us.length = (["call"] : List Str).length) : bindArgs (PySem.W.fnOf "_law_word" "_law_word" (defArgs (topS 54)) (defBody (topS 54)) (defScope (topS 54)) .none kV doc pm an cdv ct) ⟨us, []⟩ = pure ((["call"] : List Str).zip us) := match us, hl with | [_], _ => rfl
theorem lk__law_season_words : allS (looks d__law_season_words.body) ⟨d__law_season_words.names, defScope (topS 55), fun _ => true, gsM ms, true, false, false, d__law_season_words.lam⟩ (defBody (topS 55)) = true := by kernel_rfl
theorem sc__law_season_words : FnScope d__law_season_words.names (d__law_season_words.names.take d__law_season_words.arity) (defScope (topS 55)) := sc_by (by kernel_rfl)
theorem bd__law_season_words (kV doc pm : Value) (an : Option Addr) (cdv ct : Value) (us : List Value) (hl : us.length = (d__law_season_words.names.take d__law_season_words.arity).length) : bindArgs (PySem.W.fnOf "_law_season_words" "_law_season_words" (defArgs (topS 55)) (defBody (topS 55)) (defScope (topS 55)) .none kV doc pm an cdv ct) ⟨us, []⟩ = pure ((d__law_season_words.names.take d__law_season_words.arity).zip us) := match us, hl with | [_, _, _, _], _ => rfl
theorem lk__law_league_words : allS (looks d__law_league_words.body) ⟨d__law_league_words.names, defScope (topS 56), fun _ => true, gsM ms, true, false, false, d__law_league_words.lam⟩ (defBody (topS 56)) = true := by kernel_rfl
theorem sc__law_league_words : FnScope d__law_league_words.names (d__law_league_words.names.take d__law_league_words.arity) (defScope (topS 56)) := sc_by (by kernel_rfl)
theorem bd__law_league_words (kV doc pm : Value) (an : Option Addr) (cdv ct : Value) (us : List Value) (hl : us.length = (d__law_league_words.names.take d__law_league_words.arity).length) : bindArgs (PySem.W.fnOf "_law_league_words" "_law_league_words" (defArgs (topS 56)) (defBody (topS 56)) (defScope (topS 56)) .none kV doc pm an cdv ct) ⟨us, []⟩ = pure ((d__law_league_words.names.take d__law_league_words.arity).zip us) := match us, hl with | [_, _, _], _ => rfl
theorem lk_law : allS (looks d_law.body) ⟨d_law.names, defScope (topS 57), fun _ => true, gsM ms, true, false, false, d_law.lam⟩ (defBody (topS 57)) = true := by kernel_rfl
theorem sc_law : FnScope d_law.names (d_law.names.take d_law.arity) (defScope (topS 57)) := sc_by (by kernel_rfl)
theorem bd_law (kV doc pm : Value) (an : Option Addr) (cdv ct : Value) (us : List Value) (hl : us.length = (d_law.names.take d_law.arity).length) : bindArgs (PySem.W.fnOf "law" "law" (defArgs (topS 57)) (defBody (topS 57)) (defScope (topS 57)) .none kV doc pm an cdv ct) ⟨us, []⟩ = pure ((d_law.names.take d_law.arity).zip us) := match us, hl with | [_], _ => rfl
def isT : F → Bool
  | .ret (.bl true) _ => true
  | _ => false
theorem isT_ret {r : F} (h : isT r = true) : ∃ S, r = .ret (.bl true) S := by
  unfold isT at h
  split at h
  · exact ⟨_, rfl⟩
  · cases h
def turn (g : GF) (b : SF) (x : PV) : SF := fun ρ S => (g x ρ S).sg b
theorem forGo_cons {g : GF} {b : SF} {x : PV} {xs : List PV} {ρ ρ2 : Env} {S S2 : Sto} {r : F} (h : turn g b x ρ S = .nx ρ2 S2) (k : forGo g b xs ρ2 S2 = r) : forGo g b (x :: xs) ρ S = r := by
  unfold turn at h
  unfold forGo
  cases e : g x ρ S with
  | ok ρ1 S1 =>
    rw [e] at h
    have h' : b ρ1 S1 = .nx ρ2 S2 := h
    show (b ρ1 S1).seq (forGo g b xs) = r
    rw [h']
    exact k
  | exc y S1 => rw [e] at h; cases h
  | no => rw [e] at h; cases h
theorem sFor_list {f : EF} {g : GF} {b : SF} {ρ : Env} {S S1 : Sto} {v : PV} {xs : List PV} {r : F} (h : f ρ S = .ok v S1) (hv : fixed v = some xs) (k : forGo g b xs ρ S1 = r) : Fx.sFor (Fx.iSeq f) g b ρ S = r := by
  unfold sFor iSeq
  rw [h]
  cases v <;> first | cases hv; exact k | cases hv
def v_0 : PV := (.lst [.non, (.tup []), (.tup [(.tup [(.int 2)])]), (.tup [(.tup [(.int 2)]), (.tup []), (.tup [])]), (.lst [(.tup [(.int 2)]), (.tup [])]), (.tup [(.lst [(.int 2)]), (.tup [])]), (.tup [(.tup [(.int 2)]), (.lst [])]), (.tup [(.tup []), (.tup [])]), (.tup [(.tup [(.int 0)]), (.tup [])]), (.tup [(.tup [(.bl true)]), (.tup [])]), (.tup [(.tup [(.int 25)]), (.tup [])]), (.tup [(.tup [(.int 12), (.int 13)]), (.tup [(.int 1)])]), (.tup [(.tup [.non]), (.tup [])])])
def v_1 : PV := (.lst [.non, (.tup []), (.tup [(.tup [(.int 2)])]), (.tup [(.tup [(.int 2)]), (.tup []), (.tup [])]), (.lst [(.tup [(.int 2)]), (.tup [])]), (.tup [(.lst [(.int 2)]), (.tup [])]), (.tup [(.tup [(.int 2)]), (.lst [])]), (.tup [(.tup []), (.tup [])]), (.tup [(.tup [(.int 0)]), (.tup [])]), (.tup [(.tup [(.bl true)]), (.tup [])]), (.tup [(.tup [(.int 25)]), (.tup [])]), (.tup [(.tup [(.int 12), (.int 13)]), (.tup [(.int 1)])]), (.tup [(.tup [.non]), (.tup [])]), (.tup [(.tup [(.int 1), (.int 2), (.int 2), (.int 2), (.int 2), (.int 2), (.int 1)]), (.tup [(.int 1), (.int 1), (.int 1), (.int 1), (.int 1), (.int 1)])]), (.tup [(.tup [(.int 2), (.int 2)]), (.tup [])]), (.tup [(.tup [(.int 2), (.int 2)]), (.tup [(.int 1), (.int 1)])]), (.tup [(.tup [(.int 2), (.int 2)]), (.tup [(.int 0)])]), (.tup [(.tup [(.int 2), (.int 2)]), (.tup [(.int 3)])]), (.tup [(.tup [(.int 2), (.int 2)]), (.tup [(.bl true)])]), (.tup [(.tup [(.int 3), (.int 2)]), (.tup [(.int (-1))])])])
def v_2 : PV := (.lst [.non, (.tup []), (.tup [(.tup [(.int 0), (.int 1)])]), (.tup [(.tup [(.int 0), (.int 1)]), (.tup [(.int 2), (.int 3)]), (.tup [])]), (.lst [(.tup [(.int 0), (.int 1)]), (.tup [(.int 2), (.int 3)])]), (.tup [(.tup [(.int 0), (.int 1)]), (.lst [(.int 2), (.int 3)])]), (.tup [(.tup [(.int 1), (.int 0)]), (.tup [(.int 2), (.int 3)])]), (.tup [(.tup [(.int 0), (.int 0)]), (.tup [(.int 2), (.int 3)])]), (.tup [(.tup [(.int 0), (.int 1)]), (.tup [(.int 1), (.int 2)])]), (.tup [(.tup [(.int 0), (.int 1)]), (.tup [(.int 2), (.int 4)])]), (.tup [(.tup [(.int 0), (.int 1), (.int 2)]), (.tup [(.int 3)])])])
def v_3 : PV := (.lst [(.lst [(.str ⟨#[]⟩), (.str ⟨#[]⟩), (.str ⟨#[]⟩), (.str ⟨#[]⟩), (.str ⟨#[]⟩)]), (.lst [(.str ⟨#[]⟩), (.str ⟨#[]⟩), (.str ⟨#[]⟩), (.str ⟨#[]⟩), (.str ⟨#[]⟩)]), (.lst [(.str ⟨#[]⟩), (.str ⟨#[]⟩), (.str ⟨#[]⟩), (.str ⟨#[]⟩), (.str ⟨#[110, 117, 109, 98, 101, 114]⟩)]), (.lst [(.str ⟨#[]⟩), (.str ⟨#[]⟩), (.str ⟨#[]⟩), (.str ⟨#[]⟩), (.str ⟨#[110, 117, 109, 98, 101, 114]⟩)]), (.lst [(.str ⟨#[]⟩), (.str ⟨#[110, 117, 109, 98, 101, 114]⟩), (.str ⟨#[]⟩), (.str ⟨#[]⟩), (.str ⟨#[110, 117, 109, 98, 101, 114]⟩)]), (.lst [(.str ⟨#[110, 117, 109, 98, 101, 114]⟩), (.str ⟨#[110, 117, 109, 98, 101, 114]⟩), (.str ⟨#[]⟩), (.str ⟨#[]⟩), (.str ⟨#[110, 117, 109, 98, 101, 114]⟩)])])
def v_4 : PV := (.tup [.non, (.tup []), (.tup [.non, .non, .non]), (.tup [.non, .non, .non, .non, .non]), (.lst [.non, .non, .non, .non]), (.tup [(.int 0), (.int 1), (.int 1), (.int 2)]), (.tup [(.int 0), (.int 1), (.int (-1)), .non]), (.tup [(.bl true), .non, .non, .non]), (.tup [.non, .non, .non, (.str ⟨#[48]⟩)]), (.int 5)])
def v_5 : PV := (.lst [.non, (.tup []), (.tup [(.tup [(.int 0), (.int 1)])]), (.tup [(.tup [(.int 0), (.int 1)]), (.tup [(.int 2), (.int 3)]), (.tup [])]), (.lst [(.tup [(.int 0), (.int 1)]), (.tup [(.int 2), (.int 3)])]), (.tup [(.tup [(.int 0), (.int 1)]), (.lst [(.int 2), (.int 3)])]), (.tup [(.tup [(.int 1), (.int 0)]), (.tup [(.int 2), (.int 3)])]), (.tup [(.tup [(.int 0), (.int 0)]), (.tup [(.int 2), (.int 3)])]), (.tup [(.tup [(.int 0), (.int 1)]), (.tup [(.int 1), (.int 2)])]), (.tup [(.tup [(.int 0), (.int 1)]), (.tup [(.int 2), (.int 4)])]), (.tup [(.tup [(.int 0), (.int 1), (.int 2)]), (.tup [(.int 3)])]), (.tup [(.tup [(.int 0), (.int 2)]), (.tup [(.int 3), (.bl true)])]), (.tup [(.tup [(.int (-1)), (.int 1)]), (.tup [(.int 2), (.int 3)])]), (.tup [(.tup [(.int 0), (.int 1)]), (.tup [(.int 2), .non])]), (.tup [(.tup [(.int 0), (.int 1)]), (.tup [(.int 2)])]), (.str ⟨#[48, 44, 49, 124, 50, 44, 51, 59]⟩), (.int 5)])
def v_6 : PV := (.lst [.non, (.tup []), (.tup [(.tup [(.int 2)])]), (.tup [(.tup [(.int 2)]), (.tup []), (.tup [])]), (.lst [(.tup [(.int 2)]), (.tup [])]), (.tup [(.lst [(.int 2)]), (.tup [])]), (.tup [(.tup [(.int 2)]), (.lst [])]), (.tup [(.tup []), (.tup [])]), (.tup [(.tup [(.int 0)]), (.tup [])]), (.tup [(.tup [(.bl true)]), (.tup [])]), (.tup [(.tup [(.int 25)]), (.tup [])]), (.tup [(.tup [(.int 12), (.int 13)]), (.tup [(.int 1)])]), (.tup [(.tup [.non]), (.tup [])]), (.tup [(.tup [(.int 1), (.int 2), (.int 2), (.int 2), (.int 2), (.int 2), (.int 1)]), (.tup [(.int 1), (.int 1), (.int 1), (.int 1), (.int 1), (.int 1)])]), (.tup [(.tup [(.int 2), (.int 2)]), (.tup [])]), (.tup [(.tup [(.int 2), (.int 2)]), (.tup [(.int 1), (.int 1)])]), (.tup [(.tup [(.int 2), (.int 2)]), (.tup [(.int 0)])]), (.tup [(.tup [(.int 2), (.int 2)]), (.tup [(.int 3)])]), (.tup [(.tup [(.int 2), (.int 2)]), (.tup [(.bl true)])]), (.tup [(.tup [(.int 3), (.int 2)]), (.tup [(.int (-1))])]), (.tup [(.tup [(.int 2), (.int 2), (.int 2)]), (.tup [(.int 1), (.int 2)])]), (.tup [(.tup [(.int 1), (.int 1), (.int 1)]), (.tup [(.int 1), (.int 1)])]), (.tup [(.tup [(.int 2), (.int 2)]), (.tup [.non])]), (.tup [(.tup [(.int 2), (.str ⟨#[50]⟩)]), (.tup [(.int 1)])]), (.str ⟨#[50, 50]⟩), (.int 5)])
def b_s3 : SF := (Fx.sIf (Fx.tOr (tVal (cBin oNe (cCall ((Sem ms 19).F 50) (aCons (cVar 3) (aCons (cVar 4) (aCons (cVar 4) (aCons (cLit (.int 2)) aNil))))) (cBin oMul (cLst (aCons (cLit (.str ⟨#[]⟩)) aNil)) (cLit (.int 7))))) (tVal (cBin oNe (cCall ((Sem ms 19).F 51) (aCons (cVar 3) (aCons (cBin oMul (cTup (aCons (cLit .non) aNil)) (cBin oAdd (cVar 2) (cLit (.int 2)))) (aCons (cLit (.int 0)) aNil)))) (cBin oMul (cLst (aCons (cLit (.str ⟨#[]⟩)) aNil)) (cLit (.int 8)))))) (sSeq (Fx.sRet (cLit (.bl false))) sNil) sNil)
def b_s4 : SF := (Fx.sAsg (Fx.gVar 5) (cLst (aCons (cLit .non) (aCons (cTup aNil) (aCons (cTup (aCons (cTup (aCons (cLit (.int 2)) aNil)) aNil)) (aCons (cTup (aCons (cTup (aCons (cLit (.int 2)) aNil)) (aCons (cTup aNil) (aCons (cTup aNil) aNil)))) (aCons (cLst (aCons (cTup (aCons (cLit (.int 2)) aNil)) (aCons (cTup aNil) aNil))) (aCons (cTup (aCons (cLst (aCons (cLit (.int 2)) aNil)) (aCons (cTup aNil) aNil))) (aCons (cTup (aCons (cTup (aCons (cLit (.int 2)) aNil)) (aCons (cLst aNil) aNil))) (aCons (cTup (aCons (cTup aNil) (aCons (cTup aNil) aNil))) (aCons (cTup (aCons (cTup (aCons (cLit (.int 0)) aNil)) (aCons (cTup aNil) aNil))) (aCons (cTup (aCons (cTup (aCons (cLit (.bl true)) aNil)) (aCons (cTup aNil) aNil))) (aCons (cTup (aCons (cTup (aCons (cLit (.int 25)) aNil)) (aCons (cTup aNil) aNil))) (aCons (cTup (aCons (cTup (aCons (cLit (.int 12)) (aCons (cLit (.int 13)) aNil))) (aCons (cTup (aCons (cLit (.int 1)) aNil)) aNil))) (aCons (cTup (aCons (cTup (aCons (cLit .non) aNil)) (aCons (cTup aNil) aNil))) aNil)))))))))))))))
def b_s5 : SF := (Fx.sAsg (Fx.gVar 5) (cBin oAdd (cVar 5) (cLst (aCons (cTup (aCons (cTup (aCons (cLit (.int 1)) (aCons (cLit (.int 2)) (aCons (cLit (.int 2)) (aCons (cLit (.int 2)) (aCons (cLit (.int 2)) (aCons (cLit (.int 2)) (aCons (cLit (.int 1)) aNil)))))))) (aCons (cBin oMul (cTup (aCons (cLit (.int 1)) aNil)) (cLit (.int 6))) aNil))) (aCons (cTup (aCons (cTup (aCons (cLit (.int 2)) (aCons (cLit (.int 2)) aNil))) (aCons (cTup aNil) aNil))) (aCons (cTup (aCons (cTup (aCons (cLit (.int 2)) (aCons (cLit (.int 2)) aNil))) (aCons (cTup (aCons (cLit (.int 1)) (aCons (cLit (.int 1)) aNil))) aNil))) (aCons (cTup (aCons (cTup (aCons (cLit (.int 2)) (aCons (cLit (.int 2)) aNil))) (aCons (cTup (aCons (cLit (.int 0)) aNil)) aNil))) (aCons (cTup (aCons (cTup (aCons (cLit (.int 2)) (aCons (cLit (.int 2)) aNil))) (aCons (cTup (aCons (cLit (.int 3)) aNil)) aNil))) (aCons (cTup (aCons (cTup (aCons (cLit (.int 2)) (aCons (cLit (.int 2)) aNil))) (aCons (cTup (aCons (cLit (.bl true)) aNil)) aNil))) (aCons (cTup (aCons (cTup (aCons (cLit (.int 3)) (aCons (cLit (.int 2)) aNil))) (aCons (cTup (aCons (cUn oNeg (cLit (.int 1))) aNil)) aNil))) aNil))))))))))
def b_e6 : EF := (cBin oAdd (cVar 5) (cLst (aCons (cTup (aCons (cTup (aCons (cLit (.int 2)) (aCons (cLit (.int 2)) (aCons (cLit (.int 2)) aNil)))) (aCons (cTup (aCons (cLit (.int 1)) (aCons (cLit (.int 2)) aNil))) aNil))) (aCons (cTup (aCons (cTup (aCons (cLit (.int 1)) (aCons (cLit (.int 1)) (aCons (cLit (.int 1)) aNil)))) (aCons (cTup (aCons (cLit (.int 1)) (aCons (cLit (.int 1)) aNil))) aNil))) (aCons (cTup (aCons (cTup (aCons (cLit (.int 2)) (aCons (cLit (.int 2)) aNil))) (aCons (cTup (aCons (cLit .non) aNil)) aNil))) (aCons (cTup (aCons (cTup (aCons (cLit (.int 2)) (aCons (cLit (.str ⟨#[50]⟩)) aNil))) (aCons (cTup (aCons (cLit (.int 1)) aNil)) aNil))) (aCons (cLit (.str ⟨#[50, 50]⟩)) (aCons (cLit (.int 5)) aNil))))))))
def b_b6 : SF := (sSeq (Fx.sIf (Fx.tOr (tVal (cBin oNe (cCall ((Sem ms 19).F 50) (aCons (cVar 6) (aCons (cLit .non) (aCons (cLit .non) (aCons (cLit .non) aNil))))) (cBin oMul (cLst (aCons (cLit (.str ⟨#[108, 101, 97, 103, 117, 101]⟩)) aNil)) (cLit (.int 7))))) (tVal (cBin oNe (cCall ((Sem ms 19).F 51) (aCons (cVar 6) (aCons (cLit .non) (aCons (cLit .non) aNil)))) (cBin oMul (cLst (aCons (cLit (.str ⟨#[108, 101, 97, 103, 117, 101]⟩)) aNil)) (cLit (.int 8)))))) (sSeq (Fx.sRet (cLit (.bl false))) sNil) sNil) sNil)
def b_s6 : SF := Fx.sFor (Fx.iSeq b_e6) (Fx.gVar 6) b_b6
def b_s7 : SF := (Fx.sAsg (Fx.gTup [(Fx.gVar 7), (Fx.gVar 8)]) (cTup (aCons (cTup (aCons (cTup (aCons (cLit (.int 2)) (aCons (cLit (.int 2)) aNil))) (aCons (cTup (aCons (cLit (.int 1)) aNil)) aNil))) (aCons (cTup (aCons (cTup (aCons (cLit (.int 0)) (aCons (cLit (.int 1)) aNil))) (aCons (cTup (aCons (cLit (.int 2)) (aCons (cLit (.int 3)) aNil))) aNil))) aNil))))
def b_s8 : SF := (Fx.sAsg (Fx.gVar 5) (cLst (aCons (cLit .non) (aCons (cTup aNil) (aCons (cTup (aCons (cTup (aCons (cLit (.int 0)) (aCons (cLit (.int 1)) aNil))) aNil)) (aCons (cTup (aCons (cTup (aCons (cLit (.int 0)) (aCons (cLit (.int 1)) aNil))) (aCons (cTup (aCons (cLit (.int 2)) (aCons (cLit (.int 3)) aNil))) (aCons (cTup aNil) aNil)))) (aCons (cLst (aCons (cTup (aCons (cLit (.int 0)) (aCons (cLit (.int 1)) aNil))) (aCons (cTup (aCons (cLit (.int 2)) (aCons (cLit (.int 3)) aNil))) aNil))) (aCons (cTup (aCons (cTup (aCons (cLit (.int 0)) (aCons (cLit (.int 1)) aNil))) (aCons (cLst (aCons (cLit (.int 2)) (aCons (cLit (.int 3)) aNil))) aNil))) (aCons (cTup (aCons (cTup (aCons (cLit (.int 1)) (aCons (cLit (.int 0)) aNil))) (aCons (cTup (aCons (cLit (.int 2)) (aCons (cLit (.int 3)) aNil))) aNil))) (aCons (cTup (aCons (cTup (aCons (cLit (.int 0)) (aCons (cLit (.int 0)) aNil))) (aCons (cTup (aCons (cLit (.int 2)) (aCons (cLit (.int 3)) aNil))) aNil))) (aCons (cTup (aCons (cTup (aCons (cLit (.int 0)) (aCons (cLit (.int 1)) aNil))) (aCons (cTup (aCons (cLit (.int 1)) (aCons (cLit (.int 2)) aNil))) aNil))) (aCons (cTup (aCons (cTup (aCons (cLit (.int 0)) (aCons (cLit (.int 1)) aNil))) (aCons (cTup (aCons (cLit (.int 2)) (aCons (cLit (.int 4)) aNil))) aNil))) (aCons (cTup (aCons (cTup (aCons (cLit (.int 0)) (aCons (cLit (.int 1)) (aCons (cLit (.int 2)) aNil)))) (aCons (cTup (aCons (cLit (.int 3)) aNil)) aNil))) aNil)))))))))))))
def b_e9 : EF := (cBin oAdd (cVar 5) (cLst (aCons (cTup (aCons (cTup (aCons (cLit (.int 0)) (aCons (cLit (.int 2)) aNil))) (aCons (cTup (aCons (cLit (.int 3)) (aCons (cLit (.bl true)) aNil))) aNil))) (aCons (cTup (aCons (cTup (aCons (cUn oNeg (cLit (.int 1))) (aCons (cLit (.int 1)) aNil))) (aCons (cTup (aCons (cLit (.int 2)) (aCons (cLit (.int 3)) aNil))) aNil))) (aCons (cTup (aCons (cTup (aCons (cLit (.int 0)) (aCons (cLit (.int 1)) aNil))) (aCons (cTup (aCons (cLit (.int 2)) (aCons (cLit .non) aNil))) aNil))) (aCons (cTup (aCons (cTup (aCons (cLit (.int 0)) (aCons (cLit (.int 1)) aNil))) (aCons (cTup (aCons (cLit (.int 2)) aNil)) aNil))) (aCons (cLit (.str ⟨#[48, 44, 49, 124, 50, 44, 51, 59]⟩)) (aCons (cLit (.int 5)) aNil))))))))
def b_b9 : SF := (sSeq (Fx.sIf (Fx.tOr (tVal (cBin oNe (cCall ((Sem ms 19).F 50) (aCons (cVar 7) (aCons (cVar 6) (aCons (cLit .non) (aCons (cLit .non) aNil))))) (cBin oMul (cLst (aCons (cLit (.str ⟨#[115, 101, 97, 115, 111, 110]⟩)) aNil)) (cLit (.int 7))))) (tVal (cBin oNe (cWord ((Sem ms 19).Wd 49) (cCall ((Sem ms 19).F 40) (aCons (cVar 7) (aCons (cVar 8) (aCons (cVar 6) aNil))))) (cLit (.str ⟨#[115, 101, 97, 115, 111, 110]⟩))))) (sSeq (Fx.sRet (cLit (.bl false))) sNil) sNil) sNil)
def b_s9 : SF := Fx.sFor (Fx.iSeq b_e9) (Fx.gVar 6) b_b9
def b_e10 : EF := (cTup (aCons (cLit .non) (aCons (cTup aNil) (aCons (cBin oMul (cTup (aCons (cLit .non) aNil)) (cLit (.int 3))) (aCons (cBin oMul (cTup (aCons (cLit .non) aNil)) (cLit (.int 5))) (aCons (cBin oMul (cLst (aCons (cLit .non) aNil)) (cLit (.int 4))) (aCons (cTup (aCons (cLit (.int 0)) (aCons (cLit (.int 1)) (aCons (cLit (.int 1)) (aCons (cLit (.int 2)) aNil))))) (aCons (cTup (aCons (cLit (.int 0)) (aCons (cLit (.int 1)) (aCons (cUn oNeg (cLit (.int 1))) (aCons (cLit .non) aNil))))) (aCons (cTup (aCons (cLit (.bl true)) (aCons (cLit .non) (aCons (cLit .non) (aCons (cLit .non) aNil))))) (aCons (cTup (aCons (cLit .non) (aCons (cLit .non) (aCons (cLit .non) (aCons (cLit (.str ⟨#[48]⟩)) aNil))))) (aCons (cLit (.int 5)) aNil)))))))))))
def b_b10 : SF := (sSeq (Fx.sIf (Fx.tOr (tVal (cBin oNe (cCall ((Sem ms 19).F 51) (aCons (cVar 7) (aCons (cVar 6) (aCons (cLit (.int 0)) aNil)))) (cBin oAdd (cBin oMul (cLst (aCons (cLit (.str ⟨#[]⟩)) aNil)) (cLit (.int 5))) (cBin oMul (cLst (aCons (cLit (.str ⟨#[115, 101, 97, 115, 111, 110]⟩)) aNil)) (cLit (.int 3)))))) (tVal (cBin oNe (cWord ((Sem ms 19).Wd 49) (cCall ((Sem ms 19).F 39) (aCons (cVar 7) (aCons (cVar 6) (aCons (cLit .non) aNil))))) (cLit (.str ⟨#[115, 101, 97, 115, 111, 110]⟩))))) (sSeq (Fx.sRet (cLit (.bl false))) sNil) sNil) sNil)
def b_s10 : SF := Fx.sFor (Fx.iSeq b_e10) (Fx.gVar 6) b_b10
def b_s11 : SF := (Fx.sAsg (Fx.gVar 9) (cBin oMul (cTup (aCons (cLit .non) aNil)) (cLit (.int 4))))
def b_e12 : EF := (cTup (aCons (cLit .non) (aCons (cUn oNeg (cLit (.int 1))) (aCons (cLit (.bl true)) (aCons (cLit (.str ⟨#[49]⟩)) aNil)))))
def b_b12 : SF := (sSeq (Fx.sIf (Fx.tOr (tVal (cBin oNe (cCall ((Sem ms 19).F 51) (aCons (cVar 7) (aCons (cVar 9) (aCons (cVar 6) aNil)))) (cBin oAdd (cBin oAdd (cBin oAdd (cBin oMul (cLst (aCons (cLit (.str ⟨#[]⟩)) aNil)) (cLit (.int 3))) (cBin oMul (cLst (aCons (cLit (.str ⟨#[110, 117, 109, 98, 101, 114]⟩)) aNil)) (cLit (.int 2)))) (cBin oMul (cLst (aCons (cLit (.str ⟨#[]⟩)) aNil)) (cLit (.int 2)))) (cLst (aCons (cLit (.str ⟨#[110, 117, 109, 98, 101, 114]⟩)) aNil))))) (tVal (cBin oNe (cBin oIdx (cCall ((Sem ms 19).F 50) (aCons (cVar 7) (aCons (cVar 8) (aCons (cVar 8) (aCons (cVar 6) aNil))))) (cLit (.int 6))) (cLit (.str ⟨#[110, 117, 109, 98, 101, 114]⟩))))) (sSeq (Fx.sRet (cLit (.bl false))) sNil) sNil) sNil)
def b_s12 : SF := Fx.sFor (Fx.iSeq b_e12) (Fx.gVar 6) b_b12
def b_s13 : SF := (Fx.sAsg (Fx.gVar 10) (cComp [12] (Fx.iSeq (cTup (aCons (cLit (.int 0)) (aCons (cLit (.int 1)) (aCons (cLit (.int 2)) (aCons (cLit (.int 4)) (aCons (cLit (.int 5)) (aCons (cLit (.int 6)) aNil)))))))) (Fx.gVar 12) tYes (cSlc (cCall ((Sem ms 19).F 51) (aCons (cVar 7) (aCons (cTup (aCons (cLit (.int 0)) (aCons (cLit .non) (aCons (cLit .non) (aCons (cLit (.int 1)) aNil))))) (aCons (cVar 12) aNil)))) (pSo (cLit (.int 3))) pNo)))
def b_s14 : SF := (Fx.sIf (tVal (cBin oNe (cVar 10) (cBin oAdd (cBin oAdd (cBin oAdd (cBin oMul (cLst (aCons (cBin oMul (cLst (aCons (cLit (.str ⟨#[]⟩)) aNil)) (cLit (.int 5))) aNil)) (cLit (.int 2))) (cBin oMul (cLst (aCons (cBin oAdd (cBin oMul (cLst (aCons (cLit (.str ⟨#[]⟩)) aNil)) (cLit (.int 4))) (cLst (aCons (cLit (.str ⟨#[110, 117, 109, 98, 101, 114]⟩)) aNil))) aNil)) (cLit (.int 2)))) (cLst (aCons (cBin oAdd (cBin oAdd (cLst (aCons (cLit (.str ⟨#[]⟩)) (aCons (cLit (.str ⟨#[110, 117, 109, 98, 101, 114]⟩)) aNil))) (cBin oMul (cLst (aCons (cLit (.str ⟨#[]⟩)) aNil)) (cLit (.int 2)))) (cLst (aCons (cLit (.str ⟨#[110, 117, 109, 98, 101, 114]⟩)) aNil))) aNil))) (cLst (aCons (cBin oAdd (cBin oAdd (cBin oMul (cLst (aCons (cLit (.str ⟨#[110, 117, 109, 98, 101, 114]⟩)) aNil)) (cLit (.int 2))) (cBin oMul (cLst (aCons (cLit (.str ⟨#[]⟩)) aNil)) (cLit (.int 2)))) (cLst (aCons (cLit (.str ⟨#[110, 117, 109, 98, 101, 114]⟩)) aNil))) aNil))))) (sSeq (Fx.sRet (cLit (.bl false))) sNil) sNil)
def b_s15 : SF := (Fx.sIf (Fx.tOr (tVal (cBin oNe (cCall ((Sem ms 19).F 51) (aCons (cVar 7) (aCons (cTup (aCons (cLit (.int 0)) (aCons (cLit (.int 0)) (aCons (cLit (.int 0)) (aCons (cLit .non) aNil))))) (aCons (cLit (.int 0)) aNil)))) (cBin oAdd (cBin oMul (cLst (aCons (cLit (.str ⟨#[]⟩)) aNil)) (cLit (.int 7))) (cLst (aCons (cLit (.str ⟨#[110, 117, 109, 98, 101, 114]⟩)) aNil))))) (tVal (cBin oNe (cComp [12] (Fx.iSeq (cTup (aCons (cLit (.int 0)) (aCons (cLit (.int 1)) (aCons (cLit (.int 4)) (aCons (cLit (.int 5)) aNil)))))) (Fx.gVar 12) tYes (cBin oIdx (cCall ((Sem ms 19).F 50) (aCons (cVar 7) (aCons (cVar 8) (aCons (cVar 8) (aCons (cVar 12) aNil))))) (cLit (.int 6)))) (cBin oAdd (cBin oMul (cLst (aCons (cLit (.str ⟨#[]⟩)) aNil)) (cLit (.int 3))) (cLst (aCons (cLit (.str ⟨#[110, 117, 109, 98, 101, 114]⟩)) aNil)))))) (sSeq (Fx.sRet (cLit (.bl false))) sNil) sNil)
def b_s16 : SF := (Fx.sAsg (Fx.gVar 11) (cTup (aCons (cTup (aCons (cLit (.int 4)) (aCons (cLit (.int 4)) (aCons (cLit (.int 4)) (aCons (cLit (.int 4)) (aCons (cLit (.int 4)) (aCons (cLit (.int 4)) aNil))))))) (aCons (cTup (aCons (cLit (.int 2)) (aCons (cLit (.int 2)) (aCons (cLit (.int 2)) (aCons (cLit (.int 2)) (aCons (cLit (.int 2)) aNil)))))) aNil))))
def b_s17 : SF := (Fx.sAsg (Fx.gVar 10) (cComp [12] (Fx.iSeq (cTup (aCons (cBin oSub (cLit (.int 3246670537110000)) (cLit (.int 1))) (aCons (cLit (.int 3246670537110000)) aNil)))) (Fx.gVar 12) tYes (cWord ((Sem ms 19).Wd 49) (cCall ((Sem ms 19).F 33) (aCons (cVar 11) (aCons (cVar 12) aNil))))))
def b_s18 : SF := (Fx.sRet (cAnd (cBin oEq (cVar 10) (cLst (aCons (cLit (.str ⟨#[]⟩)) (aCons (cLit (.str ⟨#[110, 117, 109, 98, 101, 114]⟩)) aNil)))) (cBin oEq (cComp [12] (Fx.iSeq (cTup (aCons (cLit (.int 24)) (aCons (cLit (.int 25)) aNil)))) (Fx.gVar 12) tYes (cWord ((Sem ms 19).Wd 49) (cCall ((Sem ms 19).F 41) (aCons (cVar 11) (aCons (cVar 12) aNil))))) (cLst (aCons (cLit (.str ⟨#[]⟩)) (aCons (cLit (.str ⟨#[110, 117, 109, 98, 101, 114]⟩)) aNil))))))
def b_t18 : SF := sSeq b_s18 sNil
def b_t17 : SF := sSeq b_s17 b_t18
def b_t16 : SF := sSeq b_s16 b_t17
def b_t15 : SF := sSeq b_s15 b_t16
def b_t14 : SF := sSeq b_s14 b_t15
def b_t13 : SF := sSeq b_s13 b_t14
def b_t12 : SF := sSeq b_s12 b_t13
def b_t11 : SF := sSeq b_s11 b_t12
def b_t10 : SF := sSeq b_s10 b_t11
def b_t9 : SF := sSeq b_s9 b_t10
def b_t8 : SF := sSeq b_s8 b_t9
def b_t7 : SF := sSeq b_s7 b_t8
def b_t6 : SF := sSeq b_s6 b_t7
def b_t5 : SF := sSeq b_s5 b_t6
def b_t4 : SF := sSeq b_s4 b_t5
def b_t3 : SF := sSeq b_s3 b_t4
def b_law : SF := (sSeq (Fx.sAsg (Fx.gVar 1) (cCall ((Sem ms 19).F 47) (aCons (cVar 0) aNil))) (sSeq (Fx.sAsg (Fx.gVar 2) (cBin oAdd (cLit (.int 2)) (cCall ((Sem ms 19).F 48) (aCons (cVar 1) (aCons (cLit (.int 6)) aNil))))) (sSeq (Fx.sPar [3, 4] (aCons (cTup (aCons (cTup (aCons (cVar 2) (aCons (cLit (.int 2)) aNil))) (aCons (cTup (aCons (cBin oAdd (cLit (.int 1)) (cCall ((Sem ms 19).F 48) (aCons (cVar 1) (aCons (cLit (.int 2)) aNil)))) aNil)) aNil))) (aCons (cTup (aCons (cBi (bTupRange false) (aCons (cVar 2) aNil)) (aCons (cTup (aCons (cVar 2) (aCons (cBin oAdd (cVar 2) (cLit (.int 1))) aNil))) aNil))) aNil))) b_t3)))
theorem b_law_eq : ssL (dens (Sem ms 19) d_law.body) = b_law := by kernel_rfl
theorem st_18_0 (ns : List Int) (x y : Int) (z2 : PV) (z3 : PV) (z4 : PV) (z5 : PV) (z6 : PV) (z7 : PV) (z8 : PV) (z9 : PV) : isT (b_s18 [some (.scr ns), some (.ref 0), some z2, some z3, some z4, some z5, some z6, some z7, some z8, some z9, some (.lst [(.str ⟨#[]⟩), (.str ⟨#[110, 117, 109, 98, 101, 114]⟩)]), some (.tup [(.tup [(.int 4), (.int 4), (.int 4), (.int 4), (.int 4), (.int 4)]), (.tup [(.int 2), (.int 2), (.int 2), (.int 2), (.int 2)])]), none] [(.lst [(.int x), (.int y)])]) = true := by kernel_rfl
theorem sf_18_0 (ns : List Int) (x y : Int) (z2 : PV) (z3 : PV) (z4 : PV) (z5 : PV) (z6 : PV) (z7 : PV) (z8 : PV) (z9 : PV) : ∃ S', b_t18 [some (.scr ns), some (.ref 0), some z2, some z3, some z4, some z5, some z6, some z7, some z8, some z9, some (.lst [(.str ⟨#[]⟩), (.str ⟨#[110, 117, 109, 98, 101, 114]⟩)]), some (.tup [(.tup [(.int 4), (.int 4), (.int 4), (.int 4), (.int 4), (.int 4)]), (.tup [(.int 2), (.int 2), (.int 2), (.int 2), (.int 2)])]), none] [(.lst [(.int x), (.int y)])] = .ret (.bl true) S' := let ⟨S', h⟩ := isT_ret (st_18_0 ns x y z2 z3 z4 z5 z6 z7 z8 z9); ⟨S', sSeq_ret h⟩
theorem st_17_1 (ns : List Int) (x y : Int) (z2 : PV) (z3 : PV) (z4 : PV) (z5 : PV) (z6 : PV) (z7 : PV) (z8 : PV) (z9 : PV) : b_s17 [some (.scr ns), some (.ref 0), some z2, some z3, some z4, some z5, some z6, some z7, some z8, some z9, some v_3, some (.tup [(.tup [(.int 4), (.int 4), (.int 4), (.int 4), (.int 4), (.int 4)]), (.tup [(.int 2), (.int 2), (.int 2), (.int 2), (.int 2)])]), none] [(.lst [(.int x), (.int y)])] = .nx [some (.scr ns), some (.ref 0), some z2, some z3, some z4, some z5, some z6, some z7, some z8, some z9, some (.lst [(.str ⟨#[]⟩), (.str ⟨#[110, 117, 109, 98, 101, 114]⟩)]), some (.tup [(.tup [(.int 4), (.int 4), (.int 4), (.int 4), (.int 4), (.int 4)]), (.tup [(.int 2), (.int 2), (.int 2), (.int 2), (.int 2)])]), none] [(.lst [(.int x), (.int y)])] := by kernel_rfl
theorem sf_17_1 (ns : List Int) (x y : Int) (z2 : PV) (z3 : PV) (z4 : PV) (z5 : PV) (z6 : PV) (z7 : PV) (z8 : PV) (z9 : PV) : ∃ S', b_t17 [some (.scr ns), some (.ref 0), some z2, some z3, some z4, some z5, some z6, some z7, some z8, some z9, some v_3, some (.tup [(.tup [(.int 4), (.int 4), (.int 4), (.int 4), (.int 4), (.int 4)]), (.tup [(.int 2), (.int 2), (.int 2), (.int 2), (.int 2)])]), none] [(.lst [(.int x), (.int y)])] = .ret (.bl true) S' := let ⟨S', h⟩ := sf_18_0 ns x y z2 z3 z4 z5 z6 z7 z8 z9; ⟨S', sSeq_nx (st_17_1 ns x y z2 z3 z4 z5 z6 z7 z8 z9) h⟩
theorem st_16_2 (ns : List Int) (x y : Int) (z2 : PV) (z3 : PV) (z4 : PV) (z5 : PV) (z6 : PV) (z7 : PV) (z8 : PV) (z9 : PV) : b_s16 [some (.scr ns), some (.ref 0), some z2, some z3, some z4, some z5, some z6, some z7, some z8, some z9, some v_3, none, none] [(.lst [(.int x), (.int y)])] = .nx [some (.scr ns), some (.ref 0), some z2, some z3, some z4, some z5, some z6, some z7, some z8, some z9, some v_3, some (.tup [(.tup [(.int 4), (.int 4), (.int 4), (.int 4), (.int 4), (.int 4)]), (.tup [(.int 2), (.int 2), (.int 2), (.int 2), (.int 2)])]), none] [(.lst [(.int x), (.int y)])] := by kernel_rfl
theorem sf_16_2 (ns : List Int) (x y : Int) (z2 : PV) (z3 : PV) (z4 : PV) (z5 : PV) (z6 : PV) (z7 : PV) (z8 : PV) (z9 : PV) : ∃ S', b_t16 [some (.scr ns), some (.ref 0), some z2, some z3, some z4, some z5, some z6, some z7, some z8, some z9, some v_3, none, none] [(.lst [(.int x), (.int y)])] = .ret (.bl true) S' := let ⟨S', h⟩ := sf_17_1 ns x y z2 z3 z4 z5 z6 z7 z8 z9; ⟨S', sSeq_nx (st_16_2 ns x y z2 z3 z4 z5 z6 z7 z8 z9) h⟩
theorem st_15_3 (ns : List Int) (x y : Int) (z2 : PV) (z3 : PV) (z4 : PV) (z5 : PV) (z6 : PV) (z9 : PV) : b_s15 [some (.scr ns), some (.ref 0), some z2, some z3, some z4, some z5, some z6, some (.tup [(.tup [(.int 2), (.int 2)]), (.tup [(.int 1)])]), some (.tup [(.tup [(.int 0), (.int 1)]), (.tup [(.int 2), (.int 3)])]), some z9, some v_3, none, none] [(.lst [(.int x), (.int y)])] = .nx [some (.scr ns), some (.ref 0), some z2, some z3, some z4, some z5, some z6, some (.tup [(.tup [(.int 2), (.int 2)]), (.tup [(.int 1)])]), some (.tup [(.tup [(.int 0), (.int 1)]), (.tup [(.int 2), (.int 3)])]), some z9, some v_3, none, none] [(.lst [(.int x), (.int y)])] := by kernel_rfl
theorem sf_15_3 (ns : List Int) (x y : Int) (z2 : PV) (z3 : PV) (z4 : PV) (z5 : PV) (z6 : PV) (z9 : PV) : ∃ S', b_t15 [some (.scr ns), some (.ref 0), some z2, some z3, some z4, some z5, some z6, some (.tup [(.tup [(.int 2), (.int 2)]), (.tup [(.int 1)])]), some (.tup [(.tup [(.int 0), (.int 1)]), (.tup [(.int 2), (.int 3)])]), some z9, some v_3, none, none] [(.lst [(.int x), (.int y)])] = .ret (.bl true) S' := let ⟨S', h⟩ := sf_16_2 ns x y z2 z3 z4 z5 z6 (.tup [(.tup [(.int 2), (.int 2)]), (.tup [(.int 1)])]) (.tup [(.tup [(.int 0), (.int 1)]), (.tup [(.int 2), (.int 3)])]) z9; ⟨S', sSeq_nx (st_15_3 ns x y z2 z3 z4 z5 z6 z9) h⟩
theorem st_14_4 (ns : List Int) (x y : Int) (z2 : PV) (z3 : PV) (z4 : PV) (z5 : PV) (z6 : PV) (z9 : PV) : b_s14 [some (.scr ns), some (.ref 0), some z2, some z3, some z4, some z5, some z6, some (.tup [(.tup [(.int 2), (.int 2)]), (.tup [(.int 1)])]), some (.tup [(.tup [(.int 0), (.int 1)]), (.tup [(.int 2), (.int 3)])]), some z9, some v_3, none, none] [(.lst [(.int x), (.int y)])] = .nx [some (.scr ns), some (.ref 0), some z2, some z3, some z4, some z5, some z6, some (.tup [(.tup [(.int 2), (.int 2)]), (.tup [(.int 1)])]), some (.tup [(.tup [(.int 0), (.int 1)]), (.tup [(.int 2), (.int 3)])]), some z9, some v_3, none, none] [(.lst [(.int x), (.int y)])] := by kernel_rfl
theorem sf_14_4 (ns : List Int) (x y : Int) (z2 : PV) (z3 : PV) (z4 : PV) (z5 : PV) (z6 : PV) (z9 : PV) : ∃ S', b_t14 [some (.scr ns), some (.ref 0), some z2, some z3, some z4, some z5, some z6, some (.tup [(.tup [(.int 2), (.int 2)]), (.tup [(.int 1)])]), some (.tup [(.tup [(.int 0), (.int 1)]), (.tup [(.int 2), (.int 3)])]), some z9, some v_3, none, none] [(.lst [(.int x), (.int y)])] = .ret (.bl true) S' := let ⟨S', h⟩ := sf_15_3 ns x y z2 z3 z4 z5 z6 z9; ⟨S', sSeq_nx (st_14_4 ns x y z2 z3 z4 z5 z6 z9) h⟩
theorem st_13_5 (ns : List Int) (x y : Int) (z2 : PV) (z3 : PV) (z4 : PV) (z5 : PV) (z6 : PV) (z9 : PV) : b_s13 [some (.scr ns), some (.ref 0), some z2, some z3, some z4, some z5, some z6, some (.tup [(.tup [(.int 2), (.int 2)]), (.tup [(.int 1)])]), some (.tup [(.tup [(.int 0), (.int 1)]), (.tup [(.int 2), (.int 3)])]), some z9, none, none, none] [(.lst [(.int x), (.int y)])] = .nx [some (.scr ns), some (.ref 0), some z2, some z3, some z4, some z5, some z6, some (.tup [(.tup [(.int 2), (.int 2)]), (.tup [(.int 1)])]), some (.tup [(.tup [(.int 0), (.int 1)]), (.tup [(.int 2), (.int 3)])]), some z9, some v_3, none, none] [(.lst [(.int x), (.int y)])] := by kernel_rfl
theorem sf_13_5 (ns : List Int) (x y : Int) (z2 : PV) (z3 : PV) (z4 : PV) (z5 : PV) (z6 : PV) (z9 : PV) : ∃ S', b_t13 [some (.scr ns), some (.ref 0), some z2, some z3, some z4, some z5, some z6, some (.tup [(.tup [(.int 2), (.int 2)]), (.tup [(.int 1)])]), some (.tup [(.tup [(.int 0), (.int 1)]), (.tup [(.int 2), (.int 3)])]), some z9, none, none, none] [(.lst [(.int x), (.int y)])] = .ret (.bl true) S' := let ⟨S', h⟩ := sf_14_4 ns x y z2 z3 z4 z5 z6 z9; ⟨S', sSeq_nx (st_13_5 ns x y z2 z3 z4 z5 z6 z9) h⟩
theorem ev_12_6 (ns : List Int) (x y : Int) (z2 : PV) (z3 : PV) (z4 : PV) (z5 : PV) : b_e12 [some (.scr ns), some (.ref 0), some z2, some z3, some z4, some z5, some (.int 5), some (.tup [(.tup [(.int 2), (.int 2)]), (.tup [(.int 1)])]), some (.tup [(.tup [(.int 0), (.int 1)]), (.tup [(.int 2), (.int 3)])]), some (.tup [.non, .non, .non, .non]), none, none, none] [(.lst [(.int x), (.int y)])] = .ok (.tup [.non, (.int (-1)), (.bl true), (.str ⟨#[49]⟩)]) [(.lst [(.int x), (.int y)])] := by kernel_rfl
theorem tu_12_6_0 (ns : List Int) (x y : Int) (z2 : PV) (z3 : PV) (z4 : PV) (z5 : PV) : turn (Fx.gVar 6) b_b12 .non [some (.scr ns), some (.ref 0), some z2, some z3, some z4, some z5, some (.int 5), some (.tup [(.tup [(.int 2), (.int 2)]), (.tup [(.int 1)])]), some (.tup [(.tup [(.int 0), (.int 1)]), (.tup [(.int 2), (.int 3)])]), some (.tup [.non, .non, .non, .non]), none, none, none] [(.lst [(.int x), (.int y)])] = .nx [some (.scr ns), some (.ref 0), some z2, some z3, some z4, some z5, some .non, some (.tup [(.tup [(.int 2), (.int 2)]), (.tup [(.int 1)])]), some (.tup [(.tup [(.int 0), (.int 1)]), (.tup [(.int 2), (.int 3)])]), some (.tup [.non, .non, .non, .non]), none, none, none] [(.lst [(.int x), (.int y)])] := by kernel_rfl
theorem tu_12_6_1 (ns : List Int) (x y : Int) (z2 : PV) (z3 : PV) (z4 : PV) (z5 : PV) : turn (Fx.gVar 6) b_b12 (.int (-1)) [some (.scr ns), some (.ref 0), some z2, some z3, some z4, some z5, some .non, some (.tup [(.tup [(.int 2), (.int 2)]), (.tup [(.int 1)])]), some (.tup [(.tup [(.int 0), (.int 1)]), (.tup [(.int 2), (.int 3)])]), some (.tup [.non, .non, .non, .non]), none, none, none] [(.lst [(.int x), (.int y)])] = .nx [some (.scr ns), some (.ref 0), some z2, some z3, some z4, some z5, some (.int (-1)), some (.tup [(.tup [(.int 2), (.int 2)]), (.tup [(.int 1)])]), some (.tup [(.tup [(.int 0), (.int 1)]), (.tup [(.int 2), (.int 3)])]), some (.tup [.non, .non, .non, .non]), none, none, none] [(.lst [(.int x), (.int y)])] := by kernel_rfl
theorem tu_12_6_2 (ns : List Int) (x y : Int) (z2 : PV) (z3 : PV) (z4 : PV) (z5 : PV) : turn (Fx.gVar 6) b_b12 (.bl true) [some (.scr ns), some (.ref 0), some z2, some z3, some z4, some z5, some (.int (-1)), some (.tup [(.tup [(.int 2), (.int 2)]), (.tup [(.int 1)])]), some (.tup [(.tup [(.int 0), (.int 1)]), (.tup [(.int 2), (.int 3)])]), some (.tup [.non, .non, .non, .non]), none, none, none] [(.lst [(.int x), (.int y)])] = .nx [some (.scr ns), some (.ref 0), some z2, some z3, some z4, some z5, some (.bl true), some (.tup [(.tup [(.int 2), (.int 2)]), (.tup [(.int 1)])]), some (.tup [(.tup [(.int 0), (.int 1)]), (.tup [(.int 2), (.int 3)])]), some (.tup [.non, .non, .non, .non]), none, none, none] [(.lst [(.int x), (.int y)])] := by kernel_rfl
theorem tu_12_6_3 (ns : List Int) (x y : Int) (z2 : PV) (z3 : PV) (z4 : PV) (z5 : PV) : turn (Fx.gVar 6) b_b12 (.str ⟨#[49]⟩) [some (.scr ns), some (.ref 0), some z2, some z3, some z4, some z5, some (.bl true), some (.tup [(.tup [(.int 2), (.int 2)]), (.tup [(.int 1)])]), some (.tup [(.tup [(.int 0), (.int 1)]), (.tup [(.int 2), (.int 3)])]), some (.tup [.non, .non, .non, .non]), none, none, none] [(.lst [(.int x), (.int y)])] = .nx [some (.scr ns), some (.ref 0), some z2, some z3, some z4, some z5, some (.str ⟨#[49]⟩), some (.tup [(.tup [(.int 2), (.int 2)]), (.tup [(.int 1)])]), some (.tup [(.tup [(.int 0), (.int 1)]), (.tup [(.int 2), (.int 3)])]), some (.tup [.non, .non, .non, .non]), none, none, none] [(.lst [(.int x), (.int y)])] := by kernel_rfl
theorem st_12_6 (ns : List Int) (x y : Int) (z2 : PV) (z3 : PV) (z4 : PV) (z5 : PV) : b_s12 [some (.scr ns), some (.ref 0), some z2, some z3, some z4, some z5, some (.int 5), some (.tup [(.tup [(.int 2), (.int 2)]), (.tup [(.int 1)])]), some (.tup [(.tup [(.int 0), (.int 1)]), (.tup [(.int 2), (.int 3)])]), some (.tup [.non, .non, .non, .non]), none, none, none] [(.lst [(.int x), (.int y)])] = .nx [some (.scr ns), some (.ref 0), some z2, some z3, some z4, some z5, some (.str ⟨#[49]⟩), some (.tup [(.tup [(.int 2), (.int 2)]), (.tup [(.int 1)])]), some (.tup [(.tup [(.int 0), (.int 1)]), (.tup [(.int 2), (.int 3)])]), some (.tup [.non, .non, .non, .non]), none, none, none] [(.lst [(.int x), (.int y)])] := sFor_list (ev_12_6 ns x y z2 z3 z4 z5) rfl (forGo_cons (tu_12_6_0 ns x y z2 z3 z4 z5) (forGo_cons (tu_12_6_1 ns x y z2 z3 z4 z5) (forGo_cons (tu_12_6_2 ns x y z2 z3 z4 z5) (forGo_cons (tu_12_6_3 ns x y z2 z3 z4 z5) (rfl)))))
theorem sf_12_6 (ns : List Int) (x y : Int) (z2 : PV) (z3 : PV) (z4 : PV) (z5 : PV) : ∃ S', b_t12 [some (.scr ns), some (.ref 0), some z2, some z3, some z4, some z5, some (.int 5), some (.tup [(.tup [(.int 2), (.int 2)]), (.tup [(.int 1)])]), some (.tup [(.tup [(.int 0), (.int 1)]), (.tup [(.int 2), (.int 3)])]), some (.tup [.non, .non, .non, .non]), none, none, none] [(.lst [(.int x), (.int y)])] = .ret (.bl true) S' := let ⟨S', h⟩ := sf_13_5 ns x y z2 z3 z4 z5 (.str ⟨#[49]⟩) (.tup [.non, .non, .non, .non]); ⟨S', sSeq_nx (st_12_6 ns x y z2 z3 z4 z5) h⟩
theorem st_11_7 (ns : List Int) (x y : Int) (z2 : PV) (z3 : PV) (z4 : PV) (z5 : PV) : b_s11 [some (.scr ns), some (.ref 0), some z2, some z3, some z4, some z5, some (.int 5), some (.tup [(.tup [(.int 2), (.int 2)]), (.tup [(.int 1)])]), some (.tup [(.tup [(.int 0), (.int 1)]), (.tup [(.int 2), (.int 3)])]), none, none, none, none] [(.lst [(.int x), (.int y)])] = .nx [some (.scr ns), some (.ref 0), some z2, some z3, some z4, some z5, some (.int 5), some (.tup [(.tup [(.int 2), (.int 2)]), (.tup [(.int 1)])]), some (.tup [(.tup [(.int 0), (.int 1)]), (.tup [(.int 2), (.int 3)])]), some (.tup [.non, .non, .non, .non]), none, none, none] [(.lst [(.int x), (.int y)])] := by kernel_rfl
theorem sf_11_7 (ns : List Int) (x y : Int) (z2 : PV) (z3 : PV) (z4 : PV) (z5 : PV) : ∃ S', b_t11 [some (.scr ns), some (.ref 0), some z2, some z3, some z4, some z5, some (.int 5), some (.tup [(.tup [(.int 2), (.int 2)]), (.tup [(.int 1)])]), some (.tup [(.tup [(.int 0), (.int 1)]), (.tup [(.int 2), (.int 3)])]), none, none, none, none] [(.lst [(.int x), (.int y)])] = .ret (.bl true) S' := let ⟨S', h⟩ := sf_12_6 ns x y z2 z3 z4 z5; ⟨S', sSeq_nx (st_11_7 ns x y z2 z3 z4 z5) h⟩
theorem ev_10_8 (ns : List Int) (x y : Int) (z2 : PV) (z3 : PV) (z4 : PV) (z5 : PV) : b_e10 [some (.scr ns), some (.ref 0), some z2, some z3, some z4, some z5, some (.int 5), some (.tup [(.tup [(.int 2), (.int 2)]), (.tup [(.int 1)])]), some (.tup [(.tup [(.int 0), (.int 1)]), (.tup [(.int 2), (.int 3)])]), none, none, none, none] [(.lst [(.int x), (.int y)])] = .ok v_4 [(.lst [(.int x), (.int y)])] := by kernel_rfl
theorem tu_10_8_0 (ns : List Int) (x y : Int) (z2 : PV) (z3 : PV) (z4 : PV) (z5 : PV) : turn (Fx.gVar 6) b_b10 .non [some (.scr ns), some (.ref 0), some z2, some z3, some z4, some z5, some (.int 5), some (.tup [(.tup [(.int 2), (.int 2)]), (.tup [(.int 1)])]), some (.tup [(.tup [(.int 0), (.int 1)]), (.tup [(.int 2), (.int 3)])]), none, none, none, none] [(.lst [(.int x), (.int y)])] = .nx [some (.scr ns), some (.ref 0), some z2, some z3, some z4, some z5, some .non, some (.tup [(.tup [(.int 2), (.int 2)]), (.tup [(.int 1)])]), some (.tup [(.tup [(.int 0), (.int 1)]), (.tup [(.int 2), (.int 3)])]), none, none, none, none] [(.lst [(.int x), (.int y)])] := by kernel_rfl
theorem tu_10_8_1 (ns : List Int) (x y : Int) (z2 : PV) (z3 : PV) (z4 : PV) (z5 : PV) : turn (Fx.gVar 6) b_b10 (.tup []) [some (.scr ns), some (.ref 0), some z2, some z3, some z4, some z5, some .non, some (.tup [(.tup [(.int 2), (.int 2)]), (.tup [(.int 1)])]), some (.tup [(.tup [(.int 0), (.int 1)]), (.tup [(.int 2), (.int 3)])]), none, none, none, none] [(.lst [(.int x), (.int y)])] = .nx [some (.scr ns), some (.ref 0), some z2, some z3, some z4, some z5, some (.tup []), some (.tup [(.tup [(.int 2), (.int 2)]), (.tup [(.int 1)])]), some (.tup [(.tup [(.int 0), (.int 1)]), (.tup [(.int 2), (.int 3)])]), none, none, none, none] [(.lst [(.int x), (.int y)])] := by kernel_rfl
theorem tu_10_8_2 (ns : List Int) (x y : Int) (z2 : PV) (z3 : PV) (z4 : PV) (z5 : PV) : turn (Fx.gVar 6) b_b10 (.tup [.non, .non, .non]) [some (.scr ns), some (.ref 0), some z2, some z3, some z4, some z5, some (.tup []), some (.tup [(.tup [(.int 2), (.int 2)]), (.tup [(.int 1)])]), some (.tup [(.tup [(.int 0), (.int 1)]), (.tup [(.int 2), (.int 3)])]), none, none, none, none] [(.lst [(.int x), (.int y)])] = .nx [some (.scr ns), some (.ref 0), some z2, some z3, some z4, some z5, some (.tup [.non, .non, .non]), some (.tup [(.tup [(.int 2), (.int 2)]), (.tup [(.int 1)])]), some (.tup [(.tup [(.int 0), (.int 1)]), (.tup [(.int 2), (.int 3)])]), none, none, none, none] [(.lst [(.int x), (.int y)])] := by kernel_rfl
theorem tu_10_8_3 (ns : List Int) (x y : Int) (z2 : PV) (z3 : PV) (z4 : PV) (z5 : PV) : turn (Fx.gVar 6) b_b10 (.tup [.non, .non, .non, .non, .non]) [some (.scr ns), some (.ref 0), some z2, some z3, some z4, some z5, some (.tup [.non, .non, .non]), some (.tup [(.tup [(.int 2), (.int 2)]), (.tup [(.int 1)])]), some (.tup [(.tup [(.int 0), (.int 1)]), (.tup [(.int 2), (.int 3)])]), none, none, none, none] [(.lst [(.int x), (.int y)])] = .nx [some (.scr ns), some (.ref 0), some z2, some z3, some z4, some z5, some (.tup [.non, .non, .non, .non, .non]), some (.tup [(.tup [(.int 2), (.int 2)]), (.tup [(.int 1)])]), some (.tup [(.tup [(.int 0), (.int 1)]), (.tup [(.int 2), (.int 3)])]), none, none, none, none] [(.lst [(.int x), (.int y)])] := by kernel_rfl
theorem tu_10_8_4 (ns : List Int) (x y : Int) (z2 : PV) (z3 : PV) (z4 : PV) (z5 : PV) : turn (Fx.gVar 6) b_b10 (.lst [.non, .non, .non, .non]) [some (.scr ns), some (.ref 0), some z2, some z3, some z4, some z5, some (.tup [.non, .non, .non, .non, .non]), some (.tup [(.tup [(.int 2), (.int 2)]), (.tup [(.int 1)])]), some (.tup [(.tup [(.int 0), (.int 1)]), (.tup [(.int 2), (.int 3)])]), none, none, none, none] [(.lst [(.int x), (.int y)])] = .nx [some (.scr ns), some (.ref 0), some z2, some z3, some z4, some z5, some (.lst [.non, .non, .non, .non]), some (.tup [(.tup [(.int 2), (.int 2)]), (.tup [(.int 1)])]), some (.tup [(.tup [(.int 0), (.int 1)]), (.tup [(.int 2), (.int 3)])]), none, none, none, none] [(.lst [(.int x), (.int y)])] := by kernel_rfl
theorem tu_10_8_5 (ns : List Int) (x y : Int) (z2 : PV) (z3 : PV) (z4 : PV) (z5 : PV) : turn (Fx.gVar 6) b_b10 (.tup [(.int 0), (.int 1), (.int 1), (.int 2)]) [some (.scr ns), some (.ref 0), some z2, some z3, some z4, some z5, some (.lst [.non, .non, .non, .non]), some (.tup [(.tup [(.int 2), (.int 2)]), (.tup [(.int 1)])]), some (.tup [(.tup [(.int 0), (.int 1)]), (.tup [(.int 2), (.int 3)])]), none, none, none, none] [(.lst [(.int x), (.int y)])] = .nx [some (.scr ns), some (.ref 0), some z2, some z3, some z4, some z5, some (.tup [(.int 0), (.int 1), (.int 1), (.int 2)]), some (.tup [(.tup [(.int 2), (.int 2)]), (.tup [(.int 1)])]), some (.tup [(.tup [(.int 0), (.int 1)]), (.tup [(.int 2), (.int 3)])]), none, none, none, none] [(.lst [(.int x), (.int y)])] := by kernel_rfl
theorem tu_10_8_6 (ns : List Int) (x y : Int) (z2 : PV) (z3 : PV) (z4 : PV) (z5 : PV) : turn (Fx.gVar 6) b_b10 (.tup [(.int 0), (.int 1), (.int (-1)), .non]) [some (.scr ns), some (.ref 0), some z2, some z3, some z4, some z5, some (.tup [(.int 0), (.int 1), (.int 1), (.int 2)]), some (.tup [(.tup [(.int 2), (.int 2)]), (.tup [(.int 1)])]), some (.tup [(.tup [(.int 0), (.int 1)]), (.tup [(.int 2), (.int 3)])]), none, none, none, none] [(.lst [(.int x), (.int y)])] = .nx [some (.scr ns), some (.ref 0), some z2, some z3, some z4, some z5, some (.tup [(.int 0), (.int 1), (.int (-1)), .non]), some (.tup [(.tup [(.int 2), (.int 2)]), (.tup [(.int 1)])]), some (.tup [(.tup [(.int 0), (.int 1)]), (.tup [(.int 2), (.int 3)])]), none, none, none, none] [(.lst [(.int x), (.int y)])] := by kernel_rfl
theorem tu_10_8_7 (ns : List Int) (x y : Int) (z2 : PV) (z3 : PV) (z4 : PV) (z5 : PV) : turn (Fx.gVar 6) b_b10 (.tup [(.bl true), .non, .non, .non]) [some (.scr ns), some (.ref 0), some z2, some z3, some z4, some z5, some (.tup [(.int 0), (.int 1), (.int (-1)), .non]), some (.tup [(.tup [(.int 2), (.int 2)]), (.tup [(.int 1)])]), some (.tup [(.tup [(.int 0), (.int 1)]), (.tup [(.int 2), (.int 3)])]), none, none, none, none] [(.lst [(.int x), (.int y)])] = .nx [some (.scr ns), some (.ref 0), some z2, some z3, some z4, some z5, some (.tup [(.bl true), .non, .non, .non]), some (.tup [(.tup [(.int 2), (.int 2)]), (.tup [(.int 1)])]), some (.tup [(.tup [(.int 0), (.int 1)]), (.tup [(.int 2), (.int 3)])]), none, none, none, none] [(.lst [(.int x), (.int y)])] := by kernel_rfl
theorem tu_10_8_8 (ns : List Int) (x y : Int) (z2 : PV) (z3 : PV) (z4 : PV) (z5 : PV) : turn (Fx.gVar 6) b_b10 (.tup [.non, .non, .non, (.str ⟨#[48]⟩)]) [some (.scr ns), some (.ref 0), some z2, some z3, some z4, some z5, some (.tup [(.bl true), .non, .non, .non]), some (.tup [(.tup [(.int 2), (.int 2)]), (.tup [(.int 1)])]), some (.tup [(.tup [(.int 0), (.int 1)]), (.tup [(.int 2), (.int 3)])]), none, none, none, none] [(.lst [(.int x), (.int y)])] = .nx [some (.scr ns), some (.ref 0), some z2, some z3, some z4, some z5, some (.tup [.non, .non, .non, (.str ⟨#[48]⟩)]), some (.tup [(.tup [(.int 2), (.int 2)]), (.tup [(.int 1)])]), some (.tup [(.tup [(.int 0), (.int 1)]), (.tup [(.int 2), (.int 3)])]), none, none, none, none] [(.lst [(.int x), (.int y)])] := by kernel_rfl
theorem tu_10_8_9 (ns : List Int) (x y : Int) (z2 : PV) (z3 : PV) (z4 : PV) (z5 : PV) : turn (Fx.gVar 6) b_b10 (.int 5) [some (.scr ns), some (.ref 0), some z2, some z3, some z4, some z5, some (.tup [.non, .non, .non, (.str ⟨#[48]⟩)]), some (.tup [(.tup [(.int 2), (.int 2)]), (.tup [(.int 1)])]), some (.tup [(.tup [(.int 0), (.int 1)]), (.tup [(.int 2), (.int 3)])]), none, none, none, none] [(.lst [(.int x), (.int y)])] = .nx [some (.scr ns), some (.ref 0), some z2, some z3, some z4, some z5, some (.int 5), some (.tup [(.tup [(.int 2), (.int 2)]), (.tup [(.int 1)])]), some (.tup [(.tup [(.int 0), (.int 1)]), (.tup [(.int 2), (.int 3)])]), none, none, none, none] [(.lst [(.int x), (.int y)])] := by kernel_rfl
theorem st_10_8 (ns : List Int) (x y : Int) (z2 : PV) (z3 : PV) (z4 : PV) (z5 : PV) : b_s10 [some (.scr ns), some (.ref 0), some z2, some z3, some z4, some z5, some (.int 5), some (.tup [(.tup [(.int 2), (.int 2)]), (.tup [(.int 1)])]), some (.tup [(.tup [(.int 0), (.int 1)]), (.tup [(.int 2), (.int 3)])]), none, none, none, none] [(.lst [(.int x), (.int y)])] = .nx [some (.scr ns), some (.ref 0), some z2, some z3, some z4, some z5, some (.int 5), some (.tup [(.tup [(.int 2), (.int 2)]), (.tup [(.int 1)])]), some (.tup [(.tup [(.int 0), (.int 1)]), (.tup [(.int 2), (.int 3)])]), none, none, none, none] [(.lst [(.int x), (.int y)])] := sFor_list (ev_10_8 ns x y z2 z3 z4 z5) rfl (forGo_cons (tu_10_8_0 ns x y z2 z3 z4 z5) (forGo_cons (tu_10_8_1 ns x y z2 z3 z4 z5) (forGo_cons (tu_10_8_2 ns x y z2 z3 z4 z5) (forGo_cons (tu_10_8_3 ns x y z2 z3 z4 z5) (forGo_cons (tu_10_8_4 ns x y z2 z3 z4 z5) (forGo_cons (tu_10_8_5 ns x y z2 z3 z4 z5) (forGo_cons (tu_10_8_6 ns x y z2 z3 z4 z5) (forGo_cons (tu_10_8_7 ns x y z2 z3 z4 z5) (forGo_cons (tu_10_8_8 ns x y z2 z3 z4 z5) (forGo_cons (tu_10_8_9 ns x y z2 z3 z4 z5) (rfl)))))))))))
theorem sf_10_8 (ns : List Int) (x y : Int) (z2 : PV) (z3 : PV) (z4 : PV) (z5 : PV) : ∃ S', b_t10 [some (.scr ns), some (.ref 0), some z2, some z3, some z4, some z5, some (.int 5), some (.tup [(.tup [(.int 2), (.int 2)]), (.tup [(.int 1)])]), some (.tup [(.tup [(.int 0), (.int 1)]), (.tup [(.int 2), (.int 3)])]), none, none, none, none] [(.lst [(.int x), (.int y)])] = .ret (.bl true) S' := let ⟨S', h⟩ := sf_11_7 ns x y z2 z3 z4 z5; ⟨S', sSeq_nx (st_10_8 ns x y z2 z3 z4 z5) h⟩
theorem ev_9_9 (ns : List Int) (x y : Int) (z2 : PV) (z3 : PV) (z4 : PV) : b_e9 [some (.scr ns), some (.ref 0), some z2, some z3, some z4, some v_2, some (.int 5), some (.tup [(.tup [(.int 2), (.int 2)]), (.tup [(.int 1)])]), some (.tup [(.tup [(.int 0), (.int 1)]), (.tup [(.int 2), (.int 3)])]), none, none, none, none] [(.lst [(.int x), (.int y)])] = .ok v_5 [(.lst [(.int x), (.int y)])] := by kernel_rfl
theorem tu_9_9_0 (ns : List Int) (x y : Int) (z2 : PV) (z3 : PV) (z4 : PV) : turn (Fx.gVar 6) b_b9 .non [some (.scr ns), some (.ref 0), some z2, some z3, some z4, some v_2, some (.int 5), some (.tup [(.tup [(.int 2), (.int 2)]), (.tup [(.int 1)])]), some (.tup [(.tup [(.int 0), (.int 1)]), (.tup [(.int 2), (.int 3)])]), none, none, none, none] [(.lst [(.int x), (.int y)])] = .nx [some (.scr ns), some (.ref 0), some z2, some z3, some z4, some v_2, some .non, some (.tup [(.tup [(.int 2), (.int 2)]), (.tup [(.int 1)])]), some (.tup [(.tup [(.int 0), (.int 1)]), (.tup [(.int 2), (.int 3)])]), none, none, none, none] [(.lst [(.int x), (.int y)])] := by kernel_rfl
theorem tu_9_9_1 (ns : List Int) (x y : Int) (z2 : PV) (z3 : PV) (z4 : PV) : turn (Fx.gVar 6) b_b9 (.tup []) [some (.scr ns), some (.ref 0), some z2, some z3, some z4, some v_2, some .non, some (.tup [(.tup [(.int 2), (.int 2)]), (.tup [(.int 1)])]), some (.tup [(.tup [(.int 0), (.int 1)]), (.tup [(.int 2), (.int 3)])]), none, none, none, none] [(.lst [(.int x), (.int y)])] = .nx [some (.scr ns), some (.ref 0), some z2, some z3, some z4, some v_2, some (.tup []), some (.tup [(.tup [(.int 2), (.int 2)]), (.tup [(.int 1)])]), some (.tup [(.tup [(.int 0), (.int 1)]), (.tup [(.int 2), (.int 3)])]), none, none, none, none] [(.lst [(.int x), (.int y)])] := by kernel_rfl
theorem tu_9_9_2 (ns : List Int) (x y : Int) (z2 : PV) (z3 : PV) (z4 : PV) : turn (Fx.gVar 6) b_b9 (.tup [(.tup [(.int 0), (.int 1)])]) [some (.scr ns), some (.ref 0), some z2, some z3, some z4, some v_2, some (.tup []), some (.tup [(.tup [(.int 2), (.int 2)]), (.tup [(.int 1)])]), some (.tup [(.tup [(.int 0), (.int 1)]), (.tup [(.int 2), (.int 3)])]), none, none, none, none] [(.lst [(.int x), (.int y)])] = .nx [some (.scr ns), some (.ref 0), some z2, some z3, some z4, some v_2, some (.tup [(.tup [(.int 0), (.int 1)])]), some (.tup [(.tup [(.int 2), (.int 2)]), (.tup [(.int 1)])]), some (.tup [(.tup [(.int 0), (.int 1)]), (.tup [(.int 2), (.int 3)])]), none, none, none, none] [(.lst [(.int x), (.int y)])] := by kernel_rfl
theorem tu_9_9_3 (ns : List Int) (x y : Int) (z2 : PV) (z3 : PV) (z4 : PV) : turn (Fx.gVar 6) b_b9 (.tup [(.tup [(.int 0), (.int 1)]), (.tup [(.int 2), (.int 3)]), (.tup [])]) [some (.scr ns), some (.ref 0), some z2, some z3, some z4, some v_2, some (.tup [(.tup [(.int 0), (.int 1)])]), some (.tup [(.tup [(.int 2), (.int 2)]), (.tup [(.int 1)])]), some (.tup [(.tup [(.int 0), (.int 1)]), (.tup [(.int 2), (.int 3)])]), none, none, none, none] [(.lst [(.int x), (.int y)])] = .nx [some (.scr ns), some (.ref 0), some z2, some z3, some z4, some v_2, some (.tup [(.tup [(.int 0), (.int 1)]), (.tup [(.int 2), (.int 3)]), (.tup [])]), some (.tup [(.tup [(.int 2), (.int 2)]), (.tup [(.int 1)])]), some (.tup [(.tup [(.int 0), (.int 1)]), (.tup [(.int 2), (.int 3)])]), none, none, none, none] [(.lst [(.int x), (.int y)])] := by kernel_rfl
theorem tu_9_9_4 (ns : List Int) (x y : Int) (z2 : PV) (z3 : PV) (z4 : PV) : turn (Fx.gVar 6) b_b9 (.lst [(.tup [(.int 0), (.int 1)]), (.tup [(.int 2), (.int 3)])]) [some (.scr ns), some (.ref 0), some z2, some z3, some z4, some v_2, some (.tup [(.tup [(.int 0), (.int 1)]), (.tup [(.int 2), (.int 3)]), (.tup [])]), some (.tup [(.tup [(.int 2), (.int 2)]), (.tup [(.int 1)])]), some (.tup [(.tup [(.int 0), (.int 1)]), (.tup [(.int 2), (.int 3)])]), none, none, none, none] [(.lst [(.int x), (.int y)])] = .nx [some (.scr ns), some (.ref 0), some z2, some z3, some z4, some v_2, some (.lst [(.tup [(.int 0), (.int 1)]), (.tup [(.int 2), (.int 3)])]), some (.tup [(.tup [(.int 2), (.int 2)]), (.tup [(.int 1)])]), some (.tup [(.tup [(.int 0), (.int 1)]), (.tup [(.int 2), (.int 3)])]), none, none, none, none] [(.lst [(.int x), (.int y)])] := by kernel_rfl
theorem tu_9_9_5 (ns : List Int) (x y : Int) (z2 : PV) (z3 : PV) (z4 : PV) : turn (Fx.gVar 6) b_b9 (.tup [(.tup [(.int 0), (.int 1)]), (.lst [(.int 2), (.int 3)])]) [some (.scr ns), some (.ref 0), some z2, some z3, some z4, some v_2, some (.lst [(.tup [(.int 0), (.int 1)]), (.tup [(.int 2), (.int 3)])]), some (.tup [(.tup [(.int 2), (.int 2)]), (.tup [(.int 1)])]), some (.tup [(.tup [(.int 0), (.int 1)]), (.tup [(.int 2), (.int 3)])]), none, none, none, none] [(.lst [(.int x), (.int y)])] = .nx [some (.scr ns), some (.ref 0), some z2, some z3, some z4, some v_2, some (.tup [(.tup [(.int 0), (.int 1)]), (.lst [(.int 2), (.int 3)])]), some (.tup [(.tup [(.int 2), (.int 2)]), (.tup [(.int 1)])]), some (.tup [(.tup [(.int 0), (.int 1)]), (.tup [(.int 2), (.int 3)])]), none, none, none, none] [(.lst [(.int x), (.int y)])] := by kernel_rfl
theorem tu_9_9_6 (ns : List Int) (x y : Int) (z2 : PV) (z3 : PV) (z4 : PV) : turn (Fx.gVar 6) b_b9 (.tup [(.tup [(.int 1), (.int 0)]), (.tup [(.int 2), (.int 3)])]) [some (.scr ns), some (.ref 0), some z2, some z3, some z4, some v_2, some (.tup [(.tup [(.int 0), (.int 1)]), (.lst [(.int 2), (.int 3)])]), some (.tup [(.tup [(.int 2), (.int 2)]), (.tup [(.int 1)])]), some (.tup [(.tup [(.int 0), (.int 1)]), (.tup [(.int 2), (.int 3)])]), none, none, none, none] [(.lst [(.int x), (.int y)])] = .nx [some (.scr ns), some (.ref 0), some z2, some z3, some z4, some v_2, some (.tup [(.tup [(.int 1), (.int 0)]), (.tup [(.int 2), (.int 3)])]), some (.tup [(.tup [(.int 2), (.int 2)]), (.tup [(.int 1)])]), some (.tup [(.tup [(.int 0), (.int 1)]), (.tup [(.int 2), (.int 3)])]), none, none, none, none] [(.lst [(.int x), (.int y)])] := by kernel_rfl
theorem tu_9_9_7 (ns : List Int) (x y : Int) (z2 : PV) (z3 : PV) (z4 : PV) : turn (Fx.gVar 6) b_b9 (.tup [(.tup [(.int 0), (.int 0)]), (.tup [(.int 2), (.int 3)])]) [some (.scr ns), some (.ref 0), some z2, some z3, some z4, some v_2, some (.tup [(.tup [(.int 1), (.int 0)]), (.tup [(.int 2), (.int 3)])]), some (.tup [(.tup [(.int 2), (.int 2)]), (.tup [(.int 1)])]), some (.tup [(.tup [(.int 0), (.int 1)]), (.tup [(.int 2), (.int 3)])]), none, none, none, none] [(.lst [(.int x), (.int y)])] = .nx [some (.scr ns), some (.ref 0), some z2, some z3, some z4, some v_2, some (.tup [(.tup [(.int 0), (.int 0)]), (.tup [(.int 2), (.int 3)])]), some (.tup [(.tup [(.int 2), (.int 2)]), (.tup [(.int 1)])]), some (.tup [(.tup [(.int 0), (.int 1)]), (.tup [(.int 2), (.int 3)])]), none, none, none, none] [(.lst [(.int x), (.int y)])] := by kernel_rfl
theorem tu_9_9_8 (ns : List Int) (x y : Int) (z2 : PV) (z3 : PV) (z4 : PV) : turn (Fx.gVar 6) b_b9 (.tup [(.tup [(.int 0), (.int 1)]), (.tup [(.int 1), (.int 2)])]) [some (.scr ns), some (.ref 0), some z2, some z3, some z4, some v_2, some (.tup [(.tup [(.int 0), (.int 0)]), (.tup [(.int 2), (.int 3)])]), some (.tup [(.tup [(.int 2), (.int 2)]), (.tup [(.int 1)])]), some (.tup [(.tup [(.int 0), (.int 1)]), (.tup [(.int 2), (.int 3)])]), none, none, none, none] [(.lst [(.int x), (.int y)])] = .nx [some (.scr ns), some (.ref 0), some z2, some z3, some z4, some v_2, some (.tup [(.tup [(.int 0), (.int 1)]), (.tup [(.int 1), (.int 2)])]), some (.tup [(.tup [(.int 2), (.int 2)]), (.tup [(.int 1)])]), some (.tup [(.tup [(.int 0), (.int 1)]), (.tup [(.int 2), (.int 3)])]), none, none, none, none] [(.lst [(.int x), (.int y)])] := by kernel_rfl
theorem tu_9_9_9 (ns : List Int) (x y : Int) (z2 : PV) (z3 : PV) (z4 : PV) : turn (Fx.gVar 6) b_b9 (.tup [(.tup [(.int 0), (.int 1)]), (.tup [(.int 2), (.int 4)])]) [some (.scr ns), some (.ref 0), some z2, some z3, some z4, some v_2, some (.tup [(.tup [(.int 0), (.int 1)]), (.tup [(.int 1), (.int 2)])]), some (.tup [(.tup [(.int 2), (.int 2)]), (.tup [(.int 1)])]), some (.tup [(.tup [(.int 0), (.int 1)]), (.tup [(.int 2), (.int 3)])]), none, none, none, none] [(.lst [(.int x), (.int y)])] = .nx [some (.scr ns), some (.ref 0), some z2, some z3, some z4, some v_2, some (.tup [(.tup [(.int 0), (.int 1)]), (.tup [(.int 2), (.int 4)])]), some (.tup [(.tup [(.int 2), (.int 2)]), (.tup [(.int 1)])]), some (.tup [(.tup [(.int 0), (.int 1)]), (.tup [(.int 2), (.int 3)])]), none, none, none, none] [(.lst [(.int x), (.int y)])] := by kernel_rfl
theorem tu_9_9_10 (ns : List Int) (x y : Int) (z2 : PV) (z3 : PV) (z4 : PV) : turn (Fx.gVar 6) b_b9 (.tup [(.tup [(.int 0), (.int 1), (.int 2)]), (.tup [(.int 3)])]) [some (.scr ns), some (.ref 0), some z2, some z3, some z4, some v_2, some (.tup [(.tup [(.int 0), (.int 1)]), (.tup [(.int 2), (.int 4)])]), some (.tup [(.tup [(.int 2), (.int 2)]), (.tup [(.int 1)])]), some (.tup [(.tup [(.int 0), (.int 1)]), (.tup [(.int 2), (.int 3)])]), none, none, none, none] [(.lst [(.int x), (.int y)])] = .nx [some (.scr ns), some (.ref 0), some z2, some z3, some z4, some v_2, some (.tup [(.tup [(.int 0), (.int 1), (.int 2)]), (.tup [(.int 3)])]), some (.tup [(.tup [(.int 2), (.int 2)]), (.tup [(.int 1)])]), some (.tup [(.tup [(.int 0), (.int 1)]), (.tup [(.int 2), (.int 3)])]), none, none, none, none] [(.lst [(.int x), (.int y)])] := by kernel_rfl
theorem tu_9_9_11 (ns : List Int) (x y : Int) (z2 : PV) (z3 : PV) (z4 : PV) : turn (Fx.gVar 6) b_b9 (.tup [(.tup [(.int 0), (.int 2)]), (.tup [(.int 3), (.bl true)])]) [some (.scr ns), some (.ref 0), some z2, some z3, some z4, some v_2, some (.tup [(.tup [(.int 0), (.int 1), (.int 2)]), (.tup [(.int 3)])]), some (.tup [(.tup [(.int 2), (.int 2)]), (.tup [(.int 1)])]), some (.tup [(.tup [(.int 0), (.int 1)]), (.tup [(.int 2), (.int 3)])]), none, none, none, none] [(.lst [(.int x), (.int y)])] = .nx [some (.scr ns), some (.ref 0), some z2, some z3, some z4, some v_2, some (.tup [(.tup [(.int 0), (.int 2)]), (.tup [(.int 3), (.bl true)])]), some (.tup [(.tup [(.int 2), (.int 2)]), (.tup [(.int 1)])]), some (.tup [(.tup [(.int 0), (.int 1)]), (.tup [(.int 2), (.int 3)])]), none, none, none, none] [(.lst [(.int x), (.int y)])] := by kernel_rfl
theorem tu_9_9_12 (ns : List Int) (x y : Int) (z2 : PV) (z3 : PV) (z4 : PV) : turn (Fx.gVar 6) b_b9 (.tup [(.tup [(.int (-1)), (.int 1)]), (.tup [(.int 2), (.int 3)])]) [some (.scr ns), some (.ref 0), some z2, some z3, some z4, some v_2, some (.tup [(.tup [(.int 0), (.int 2)]), (.tup [(.int 3), (.bl true)])]), some (.tup [(.tup [(.int 2), (.int 2)]), (.tup [(.int 1)])]), some (.tup [(.tup [(.int 0), (.int 1)]), (.tup [(.int 2), (.int 3)])]), none, none, none, none] [(.lst [(.int x), (.int y)])] = .nx [some (.scr ns), some (.ref 0), some z2, some z3, some z4, some v_2, some (.tup [(.tup [(.int (-1)), (.int 1)]), (.tup [(.int 2), (.int 3)])]), some (.tup [(.tup [(.int 2), (.int 2)]), (.tup [(.int 1)])]), some (.tup [(.tup [(.int 0), (.int 1)]), (.tup [(.int 2), (.int 3)])]), none, none, none, none] [(.lst [(.int x), (.int y)])] := by kernel_rfl
theorem tu_9_9_13 (ns : List Int) (x y : Int) (z2 : PV) (z3 : PV) (z4 : PV) : turn (Fx.gVar 6) b_b9 (.tup [(.tup [(.int 0), (.int 1)]), (.tup [(.int 2), .non])]) [some (.scr ns), some (.ref 0), some z2, some z3, some z4, some v_2, some (.tup [(.tup [(.int (-1)), (.int 1)]), (.tup [(.int 2), (.int 3)])]), some (.tup [(.tup [(.int 2), (.int 2)]), (.tup [(.int 1)])]), some (.tup [(.tup [(.int 0), (.int 1)]), (.tup [(.int 2), (.int 3)])]), none, none, none, none] [(.lst [(.int x), (.int y)])] = .nx [some (.scr ns), some (.ref 0), some z2, some z3, some z4, some v_2, some (.tup [(.tup [(.int 0), (.int 1)]), (.tup [(.int 2), .non])]), some (.tup [(.tup [(.int 2), (.int 2)]), (.tup [(.int 1)])]), some (.tup [(.tup [(.int 0), (.int 1)]), (.tup [(.int 2), (.int 3)])]), none, none, none, none] [(.lst [(.int x), (.int y)])] := by kernel_rfl
theorem tu_9_9_14 (ns : List Int) (x y : Int) (z2 : PV) (z3 : PV) (z4 : PV) : turn (Fx.gVar 6) b_b9 (.tup [(.tup [(.int 0), (.int 1)]), (.tup [(.int 2)])]) [some (.scr ns), some (.ref 0), some z2, some z3, some z4, some v_2, some (.tup [(.tup [(.int 0), (.int 1)]), (.tup [(.int 2), .non])]), some (.tup [(.tup [(.int 2), (.int 2)]), (.tup [(.int 1)])]), some (.tup [(.tup [(.int 0), (.int 1)]), (.tup [(.int 2), (.int 3)])]), none, none, none, none] [(.lst [(.int x), (.int y)])] = .nx [some (.scr ns), some (.ref 0), some z2, some z3, some z4, some v_2, some (.tup [(.tup [(.int 0), (.int 1)]), (.tup [(.int 2)])]), some (.tup [(.tup [(.int 2), (.int 2)]), (.tup [(.int 1)])]), some (.tup [(.tup [(.int 0), (.int 1)]), (.tup [(.int 2), (.int 3)])]), none, none, none, none] [(.lst [(.int x), (.int y)])] := by kernel_rfl
theorem tu_9_9_15 (ns : List Int) (x y : Int) (z2 : PV) (z3 : PV) (z4 : PV) : turn (Fx.gVar 6) b_b9 (.str ⟨#[48, 44, 49, 124, 50, 44, 51, 59]⟩) [some (.scr ns), some (.ref 0), some z2, some z3, some z4, some v_2, some (.tup [(.tup [(.int 0), (.int 1)]), (.tup [(.int 2)])]), some (.tup [(.tup [(.int 2), (.int 2)]), (.tup [(.int 1)])]), some (.tup [(.tup [(.int 0), (.int 1)]), (.tup [(.int 2), (.int 3)])]), none, none, none, none] [(.lst [(.int x), (.int y)])] = .nx [some (.scr ns), some (.ref 0), some z2, some z3, some z4, some v_2, some (.str ⟨#[48, 44, 49, 124, 50, 44, 51, 59]⟩), some (.tup [(.tup [(.int 2), (.int 2)]), (.tup [(.int 1)])]), some (.tup [(.tup [(.int 0), (.int 1)]), (.tup [(.int 2), (.int 3)])]), none, none, none, none] [(.lst [(.int x), (.int y)])] := by kernel_rfl
theorem tu_9_9_16 (ns : List Int) (x y : Int) (z2 : PV) (z3 : PV) (z4 : PV) : turn (Fx.gVar 6) b_b9 (.int 5) [some (.scr ns), some (.ref 0), some z2, some z3, some z4, some v_2, some (.str ⟨#[48, 44, 49, 124, 50, 44, 51, 59]⟩), some (.tup [(.tup [(.int 2), (.int 2)]), (.tup [(.int 1)])]), some (.tup [(.tup [(.int 0), (.int 1)]), (.tup [(.int 2), (.int 3)])]), none, none, none, none] [(.lst [(.int x), (.int y)])] = .nx [some (.scr ns), some (.ref 0), some z2, some z3, some z4, some v_2, some (.int 5), some (.tup [(.tup [(.int 2), (.int 2)]), (.tup [(.int 1)])]), some (.tup [(.tup [(.int 0), (.int 1)]), (.tup [(.int 2), (.int 3)])]), none, none, none, none] [(.lst [(.int x), (.int y)])] := by kernel_rfl
theorem st_9_9 (ns : List Int) (x y : Int) (z2 : PV) (z3 : PV) (z4 : PV) : b_s9 [some (.scr ns), some (.ref 0), some z2, some z3, some z4, some v_2, some (.int 5), some (.tup [(.tup [(.int 2), (.int 2)]), (.tup [(.int 1)])]), some (.tup [(.tup [(.int 0), (.int 1)]), (.tup [(.int 2), (.int 3)])]), none, none, none, none] [(.lst [(.int x), (.int y)])] = .nx [some (.scr ns), some (.ref 0), some z2, some z3, some z4, some v_2, some (.int 5), some (.tup [(.tup [(.int 2), (.int 2)]), (.tup [(.int 1)])]), some (.tup [(.tup [(.int 0), (.int 1)]), (.tup [(.int 2), (.int 3)])]), none, none, none, none] [(.lst [(.int x), (.int y)])] := sFor_list (ev_9_9 ns x y z2 z3 z4) rfl (forGo_cons (tu_9_9_0 ns x y z2 z3 z4) (forGo_cons (tu_9_9_1 ns x y z2 z3 z4) (forGo_cons (tu_9_9_2 ns x y z2 z3 z4) (forGo_cons (tu_9_9_3 ns x y z2 z3 z4) (forGo_cons (tu_9_9_4 ns x y z2 z3 z4) (forGo_cons (tu_9_9_5 ns x y z2 z3 z4) (forGo_cons (tu_9_9_6 ns x y z2 z3 z4) (forGo_cons (tu_9_9_7 ns x y z2 z3 z4) (forGo_cons (tu_9_9_8 ns x y z2 z3 z4) (forGo_cons (tu_9_9_9 ns x y z2 z3 z4) (forGo_cons (tu_9_9_10 ns x y z2 z3 z4) (forGo_cons (tu_9_9_11 ns x y z2 z3 z4) (forGo_cons (tu_9_9_12 ns x y z2 z3 z4) (forGo_cons (tu_9_9_13 ns x y z2 z3 z4) (forGo_cons (tu_9_9_14 ns x y z2 z3 z4) (forGo_cons (tu_9_9_15 ns x y z2 z3 z4) (forGo_cons (tu_9_9_16 ns x y z2 z3 z4) (rfl))))))))))))))))))
theorem sf_9_9 (ns : List Int) (x y : Int) (z2 : PV) (z3 : PV) (z4 : PV) : ∃ S', b_t9 [some (.scr ns), some (.ref 0), some z2, some z3, some z4, some v_2, some (.int 5), some (.tup [(.tup [(.int 2), (.int 2)]), (.tup [(.int 1)])]), some (.tup [(.tup [(.int 0), (.int 1)]), (.tup [(.int 2), (.int 3)])]), none, none, none, none] [(.lst [(.int x), (.int y)])] = .ret (.bl true) S' := let ⟨S', h⟩ := sf_10_8 ns x y z2 z3 z4 v_2; ⟨S', sSeq_nx (st_9_9 ns x y z2 z3 z4) h⟩
theorem st_8_10 (ns : List Int) (x y : Int) (z2 : PV) (z3 : PV) (z4 : PV) : b_s8 [some (.scr ns), some (.ref 0), some z2, some z3, some z4, some v_1, some (.int 5), some (.tup [(.tup [(.int 2), (.int 2)]), (.tup [(.int 1)])]), some (.tup [(.tup [(.int 0), (.int 1)]), (.tup [(.int 2), (.int 3)])]), none, none, none, none] [(.lst [(.int x), (.int y)])] = .nx [some (.scr ns), some (.ref 0), some z2, some z3, some z4, some v_2, some (.int 5), some (.tup [(.tup [(.int 2), (.int 2)]), (.tup [(.int 1)])]), some (.tup [(.tup [(.int 0), (.int 1)]), (.tup [(.int 2), (.int 3)])]), none, none, none, none] [(.lst [(.int x), (.int y)])] := by kernel_rfl
theorem sf_8_10 (ns : List Int) (x y : Int) (z2 : PV) (z3 : PV) (z4 : PV) : ∃ S', b_t8 [some (.scr ns), some (.ref 0), some z2, some z3, some z4, some v_1, some (.int 5), some (.tup [(.tup [(.int 2), (.int 2)]), (.tup [(.int 1)])]), some (.tup [(.tup [(.int 0), (.int 1)]), (.tup [(.int 2), (.int 3)])]), none, none, none, none] [(.lst [(.int x), (.int y)])] = .ret (.bl true) S' := let ⟨S', h⟩ := sf_9_9 ns x y z2 z3 z4; ⟨S', sSeq_nx (st_8_10 ns x y z2 z3 z4) h⟩
theorem st_7_11 (ns : List Int) (x y : Int) (z2 : PV) (z3 : PV) (z4 : PV) : b_s7 [some (.scr ns), some (.ref 0), some z2, some z3, some z4, some v_1, some (.int 5), none, none, none, none, none, none] [(.lst [(.int x), (.int y)])] = .nx [some (.scr ns), some (.ref 0), some z2, some z3, some z4, some v_1, some (.int 5), some (.tup [(.tup [(.int 2), (.int 2)]), (.tup [(.int 1)])]), some (.tup [(.tup [(.int 0), (.int 1)]), (.tup [(.int 2), (.int 3)])]), none, none, none, none] [(.lst [(.int x), (.int y)])] := by kernel_rfl
theorem sf_7_11 (ns : List Int) (x y : Int) (z2 : PV) (z3 : PV) (z4 : PV) : ∃ S', b_t7 [some (.scr ns), some (.ref 0), some z2, some z3, some z4, some v_1, some (.int 5), none, none, none, none, none, none] [(.lst [(.int x), (.int y)])] = .ret (.bl true) S' := let ⟨S', h⟩ := sf_8_10 ns x y z2 z3 z4; ⟨S', sSeq_nx (st_7_11 ns x y z2 z3 z4) h⟩
theorem ev_6_12 (ns : List Int) (x y : Int) (z2 : PV) (z3 : PV) (z4 : PV) : b_e6 [some (.scr ns), some (.ref 0), some z2, some z3, some z4, some v_1, none, none, none, none, none, none, none] [(.lst [(.int x), (.int y)])] = .ok v_6 [(.lst [(.int x), (.int y)])] := by kernel_rfl
theorem tu_6_12_0 (ns : List Int) (x y : Int) (z2 : PV) (z3 : PV) (z4 : PV) : turn (Fx.gVar 6) b_b6 .non [some (.scr ns), some (.ref 0), some z2, some z3, some z4, some v_1, none, none, none, none, none, none, none] [(.lst [(.int x), (.int y)])] = .nx [some (.scr ns), some (.ref 0), some z2, some z3, some z4, some v_1, some .non, none, none, none, none, none, none] [(.lst [(.int x), (.int y)])] := by kernel_rfl
theorem tu_6_12_1 (ns : List Int) (x y : Int) (z2 : PV) (z3 : PV) (z4 : PV) : turn (Fx.gVar 6) b_b6 (.tup []) [some (.scr ns), some (.ref 0), some z2, some z3, some z4, some v_1, some .non, none, none, none, none, none, none] [(.lst [(.int x), (.int y)])] = .nx [some (.scr ns), some (.ref 0), some z2, some z3, some z4, some v_1, some (.tup []), none, none, none, none, none, none] [(.lst [(.int x), (.int y)])] := by kernel_rfl
theorem tu_6_12_2 (ns : List Int) (x y : Int) (z2 : PV) (z3 : PV) (z4 : PV) : turn (Fx.gVar 6) b_b6 (.tup [(.tup [(.int 2)])]) [some (.scr ns), some (.ref 0), some z2, some z3, some z4, some v_1, some (.tup []), none, none, none, none, none, none] [(.lst [(.int x), (.int y)])] = .nx [some (.scr ns), some (.ref 0), some z2, some z3, some z4, some v_1, some (.tup [(.tup [(.int 2)])]), none, none, none, none, none, none] [(.lst [(.int x), (.int y)])] := by kernel_rfl
theorem tu_6_12_3 (ns : List Int) (x y : Int) (z2 : PV) (z3 : PV) (z4 : PV) : turn (Fx.gVar 6) b_b6 (.tup [(.tup [(.int 2)]), (.tup []), (.tup [])]) [some (.scr ns), some (.ref 0), some z2, some z3, some z4, some v_1, some (.tup [(.tup [(.int 2)])]), none, none, none, none, none, none] [(.lst [(.int x), (.int y)])] = .nx [some (.scr ns), some (.ref 0), some z2, some z3, some z4, some v_1, some (.tup [(.tup [(.int 2)]), (.tup []), (.tup [])]), none, none, none, none, none, none] [(.lst [(.int x), (.int y)])] := by kernel_rfl
theorem tu_6_12_4 (ns : List Int) (x y : Int) (z2 : PV) (z3 : PV) (z4 : PV) : turn (Fx.gVar 6) b_b6 (.lst [(.tup [(.int 2)]), (.tup [])]) [some (.scr ns), some (.ref 0), some z2, some z3, some z4, some v_1, some (.tup [(.tup [(.int 2)]), (.tup []), (.tup [])]), none, none, none, none, none, none] [(.lst [(.int x), (.int y)])] = .nx [some (.scr ns), some (.ref 0), some z2, some z3, some z4, some v_1, some (.lst [(.tup [(.int 2)]), (.tup [])]), none, none, none, none, none, none] [(.lst [(.int x), (.int y)])] := by kernel_rfl
theorem tu_6_12_5 (ns : List Int) (x y : Int) (z2 : PV) (z3 : PV) (z4 : PV) : turn (Fx.gVar 6) b_b6 (.tup [(.lst [(.int 2)]), (.tup [])]) [some (.scr ns), some (.ref 0), some z2, some z3, some z4, some v_1, some (.lst [(.tup [(.int 2)]), (.tup [])]), none, none, none, none, none, none] [(.lst [(.int x), (.int y)])] = .nx [some (.scr ns), some (.ref 0), some z2, some z3, some z4, some v_1, some (.tup [(.lst [(.int 2)]), (.tup [])]), none, none, none, none, none, none] [(.lst [(.int x), (.int y)])] := by kernel_rfl
theorem tu_6_12_6 (ns : List Int) (x y : Int) (z2 : PV) (z3 : PV) (z4 : PV) : turn (Fx.gVar 6) b_b6 (.tup [(.tup [(.int 2)]), (.lst [])]) [some (.scr ns), some (.ref 0), some z2, some z3, some z4, some v_1, some (.tup [(.lst [(.int 2)]), (.tup [])]), none, none, none, none, none, none] [(.lst [(.int x), (.int y)])] = .nx [some (.scr ns), some (.ref 0), some z2, some z3, some z4, some v_1, some (.tup [(.tup [(.int 2)]), (.lst [])]), none, none, none, none, none, none] [(.lst [(.int x), (.int y)])] := by kernel_rfl
theorem tu_6_12_7 (ns : List Int) (x y : Int) (z2 : PV) (z3 : PV) (z4 : PV) : turn (Fx.gVar 6) b_b6 (.tup [(.tup []), (.tup [])]) [some (.scr ns), some (.ref 0), some z2, some z3, some z4, some v_1, some (.tup [(.tup [(.int 2)]), (.lst [])]), none, none, none, none, none, none] [(.lst [(.int x), (.int y)])] = .nx [some (.scr ns), some (.ref 0), some z2, some z3, some z4, some v_1, some (.tup [(.tup []), (.tup [])]), none, none, none, none, none, none] [(.lst [(.int x), (.int y)])] := by kernel_rfl
theorem tu_6_12_8 (ns : List Int) (x y : Int) (z2 : PV) (z3 : PV) (z4 : PV) : turn (Fx.gVar 6) b_b6 (.tup [(.tup [(.int 0)]), (.tup [])]) [some (.scr ns), some (.ref 0), some z2, some z3, some z4, some v_1, some (.tup [(.tup []), (.tup [])]), none, none, none, none, none, none] [(.lst [(.int x), (.int y)])] = .nx [some (.scr ns), some (.ref 0), some z2, some z3, some z4, some v_1, some (.tup [(.tup [(.int 0)]), (.tup [])]), none, none, none, none, none, none] [(.lst [(.int x), (.int y)])] := by kernel_rfl
theorem tu_6_12_9 (ns : List Int) (x y : Int) (z2 : PV) (z3 : PV) (z4 : PV) : turn (Fx.gVar 6) b_b6 (.tup [(.tup [(.bl true)]), (.tup [])]) [some (.scr ns), some (.ref 0), some z2, some z3, some z4, some v_1, some (.tup [(.tup [(.int 0)]), (.tup [])]), none, none, none, none, none, none] [(.lst [(.int x), (.int y)])] = .nx [some (.scr ns), some (.ref 0), some z2, some z3, some z4, some v_1, some (.tup [(.tup [(.bl true)]), (.tup [])]), none, none, none, none, none, none] [(.lst [(.int x), (.int y)])] := by kernel_rfl
theorem tu_6_12_10 (ns : List Int) (x y : Int) (z2 : PV) (z3 : PV) (z4 : PV) : turn (Fx.gVar 6) b_b6 (.tup [(.tup [(.int 25)]), (.tup [])]) [some (.scr ns), some (.ref 0), some z2, some z3, some z4, some v_1, some (.tup [(.tup [(.bl true)]), (.tup [])]), none, none, none, none, none, none] [(.lst [(.int x), (.int y)])] = .nx [some (.scr ns), some (.ref 0), some z2, some z3, some z4, some v_1, some (.tup [(.tup [(.int 25)]), (.tup [])]), none, none, none, none, none, none] [(.lst [(.int x), (.int y)])] := by kernel_rfl
theorem tu_6_12_11 (ns : List Int) (x y : Int) (z2 : PV) (z3 : PV) (z4 : PV) : turn (Fx.gVar 6) b_b6 (.tup [(.tup [(.int 12), (.int 13)]), (.tup [(.int 1)])]) [some (.scr ns), some (.ref 0), some z2, some z3, some z4, some v_1, some (.tup [(.tup [(.int 25)]), (.tup [])]), none, none, none, none, none, none] [(.lst [(.int x), (.int y)])] = .nx [some (.scr ns), some (.ref 0), some z2, some z3, some z4, some v_1, some (.tup [(.tup [(.int 12), (.int 13)]), (.tup [(.int 1)])]), none, none, none, none, none, none] [(.lst [(.int x), (.int y)])] := by kernel_rfl
theorem tu_6_12_12 (ns : List Int) (x y : Int) (z2 : PV) (z3 : PV) (z4 : PV) : turn (Fx.gVar 6) b_b6 (.tup [(.tup [.non]), (.tup [])]) [some (.scr ns), some (.ref 0), some z2, some z3, some z4, some v_1, some (.tup [(.tup [(.int 12), (.int 13)]), (.tup [(.int 1)])]), none, none, none, none, none, none] [(.lst [(.int x), (.int y)])] = .nx [some (.scr ns), some (.ref 0), some z2, some z3, some z4, some v_1, some (.tup [(.tup [.non]), (.tup [])]), none, none, none, none, none, none] [(.lst [(.int x), (.int y)])] := by kernel_rfl
theorem tu_6_12_13 (ns : List Int) (x y : Int) (z2 : PV) (z3 : PV) (z4 : PV) : turn (Fx.gVar 6) b_b6 (.tup [(.tup [(.int 1), (.int 2), (.int 2), (.int 2), (.int 2), (.int 2), (.int 1)]), (.tup [(.int 1), (.int 1), (.int 1), (.int 1), (.int 1), (.int 1)])]) [some (.scr ns), some (.ref 0), some z2, some z3, some z4, some v_1, some (.tup [(.tup [.non]), (.tup [])]), none, none, none, none, none, none] [(.lst [(.int x), (.int y)])] = .nx [some (.scr ns), some (.ref 0), some z2, some z3, some z4, some v_1, some (.tup [(.tup [(.int 1), (.int 2), (.int 2), (.int 2), (.int 2), (.int 2), (.int 1)]), (.tup [(.int 1), (.int 1), (.int 1), (.int 1), (.int 1), (.int 1)])]), none, none, none, none, none, none] [(.lst [(.int x), (.int y)])] := by kernel_rfl
theorem tu_6_12_14 (ns : List Int) (x y : Int) (z2 : PV) (z3 : PV) (z4 : PV) : turn (Fx.gVar 6) b_b6 (.tup [(.tup [(.int 2), (.int 2)]), (.tup [])]) [some (.scr ns), some (.ref 0), some z2, some z3, some z4, some v_1, some (.tup [(.tup [(.int 1), (.int 2), (.int 2), (.int 2), (.int 2), (.int 2), (.int 1)]), (.tup [(.int 1), (.int 1), (.int 1), (.int 1), (.int 1), (.int 1)])]), none, none, none, none, none, none] [(.lst [(.int x), (.int y)])] = .nx [some (.scr ns), some (.ref 0), some z2, some z3, some z4, some v_1, some (.tup [(.tup [(.int 2), (.int 2)]), (.tup [])]), none, none, none, none, none, none] [(.lst [(.int x), (.int y)])] := by kernel_rfl
theorem tu_6_12_15 (ns : List Int) (x y : Int) (z2 : PV) (z3 : PV) (z4 : PV) : turn (Fx.gVar 6) b_b6 (.tup [(.tup [(.int 2), (.int 2)]), (.tup [(.int 1), (.int 1)])]) [some (.scr ns), some (.ref 0), some z2, some z3, some z4, some v_1, some (.tup [(.tup [(.int 2), (.int 2)]), (.tup [])]), none, none, none, none, none, none] [(.lst [(.int x), (.int y)])] = .nx [some (.scr ns), some (.ref 0), some z2, some z3, some z4, some v_1, some (.tup [(.tup [(.int 2), (.int 2)]), (.tup [(.int 1), (.int 1)])]), none, none, none, none, none, none] [(.lst [(.int x), (.int y)])] := by kernel_rfl
theorem tu_6_12_16 (ns : List Int) (x y : Int) (z2 : PV) (z3 : PV) (z4 : PV) : turn (Fx.gVar 6) b_b6 (.tup [(.tup [(.int 2), (.int 2)]), (.tup [(.int 0)])]) [some (.scr ns), some (.ref 0), some z2, some z3, some z4, some v_1, some (.tup [(.tup [(.int 2), (.int 2)]), (.tup [(.int 1), (.int 1)])]), none, none, none, none, none, none] [(.lst [(.int x), (.int y)])] = .nx [some (.scr ns), some (.ref 0), some z2, some z3, some z4, some v_1, some (.tup [(.tup [(.int 2), (.int 2)]), (.tup [(.int 0)])]), none, none, none, none, none, none] [(.lst [(.int x), (.int y)])] := by kernel_rfl
theorem tu_6_12_17 (ns : List Int) (x y : Int) (z2 : PV) (z3 : PV) (z4 : PV) : turn (Fx.gVar 6) b_b6 (.tup [(.tup [(.int 2), (.int 2)]), (.tup [(.int 3)])]) [some (.scr ns), some (.ref 0), some z2, some z3, some z4, some v_1, some (.tup [(.tup [(.int 2), (.int 2)]), (.tup [(.int 0)])]), none, none, none, none, none, none] [(.lst [(.int x), (.int y)])] = .nx [some (.scr ns), some (.ref 0), some z2, some z3, some z4, some v_1, some (.tup [(.tup [(.int 2), (.int 2)]), (.tup [(.int 3)])]), none, none, none, none, none, none] [(.lst [(.int x), (.int y)])] := by kernel_rfl
theorem tu_6_12_18 (ns : List Int) (x y : Int) (z2 : PV) (z3 : PV) (z4 : PV) : turn (Fx.gVar 6) b_b6 (.tup [(.tup [(.int 2), (.int 2)]), (.tup [(.bl true)])]) [some (.scr ns), some (.ref 0), some z2, some z3, some z4, some v_1, some (.tup [(.tup [(.int 2), (.int 2)]), (.tup [(.int 3)])]), none, none, none, none, none, none] [(.lst [(.int x), (.int y)])] = .nx [some (.scr ns), some (.ref 0), some z2, some z3, some z4, some v_1, some (.tup [(.tup [(.int 2), (.int 2)]), (.tup [(.bl true)])]), none, none, none, none, none, none] [(.lst [(.int x), (.int y)])] := by kernel_rfl
theorem tu_6_12_19 (ns : List Int) (x y : Int) (z2 : PV) (z3 : PV) (z4 : PV) : turn (Fx.gVar 6) b_b6 (.tup [(.tup [(.int 3), (.int 2)]), (.tup [(.int (-1))])]) [some (.scr ns), some (.ref 0), some z2, some z3, some z4, some v_1, some (.tup [(.tup [(.int 2), (.int 2)]), (.tup [(.bl true)])]), none, none, none, none, none, none] [(.lst [(.int x), (.int y)])] = .nx [some (.scr ns), some (.ref 0), some z2, some z3, some z4, some v_1, some (.tup [(.tup [(.int 3), (.int 2)]), (.tup [(.int (-1))])]), none, none, none, none, none, none] [(.lst [(.int x), (.int y)])] := by kernel_rfl
theorem tu_6_12_20 (ns : List Int) (x y : Int) (z2 : PV) (z3 : PV) (z4 : PV) : turn (Fx.gVar 6) b_b6 (.tup [(.tup [(.int 2), (.int 2), (.int 2)]), (.tup [(.int 1), (.int 2)])]) [some (.scr ns), some (.ref 0), some z2, some z3, some z4, some v_1, some (.tup [(.tup [(.int 3), (.int 2)]), (.tup [(.int (-1))])]), none, none, none, none, none, none] [(.lst [(.int x), (.int y)])] = .nx [some (.scr ns), some (.ref 0), some z2, some z3, some z4, some v_1, some (.tup [(.tup [(.int 2), (.int 2), (.int 2)]), (.tup [(.int 1), (.int 2)])]), none, none, none, none, none, none] [(.lst [(.int x), (.int y)])] := by kernel_rfl
theorem tu_6_12_21 (ns : List Int) (x y : Int) (z2 : PV) (z3 : PV) (z4 : PV) : turn (Fx.gVar 6) b_b6 (.tup [(.tup [(.int 1), (.int 1), (.int 1)]), (.tup [(.int 1), (.int 1)])]) [some (.scr ns), some (.ref 0), some z2, some z3, some z4, some v_1, some (.tup [(.tup [(.int 2), (.int 2), (.int 2)]), (.tup [(.int 1), (.int 2)])]), none, none, none, none, none, none] [(.lst [(.int x), (.int y)])] = .nx [some (.scr ns), some (.ref 0), some z2, some z3, some z4, some v_1, some (.tup [(.tup [(.int 1), (.int 1), (.int 1)]), (.tup [(.int 1), (.int 1)])]), none, none, none, none, none, none] [(.lst [(.int x), (.int y)])] := by kernel_rfl
theorem tu_6_12_22 (ns : List Int) (x y : Int) (z2 : PV) (z3 : PV) (z4 : PV) : turn (Fx.gVar 6) b_b6 (.tup [(.tup [(.int 2), (.int 2)]), (.tup [.non])]) [some (.scr ns), some (.ref 0), some z2, some z3, some z4, some v_1, some (.tup [(.tup [(.int 1), (.int 1), (.int 1)]), (.tup [(.int 1), (.int 1)])]), none, none, none, none, none, none] [(.lst [(.int x), (.int y)])] = .nx [some (.scr ns), some (.ref 0), some z2, some z3, some z4, some v_1, some (.tup [(.tup [(.int 2), (.int 2)]), (.tup [.non])]), none, none, none, none, none, none] [(.lst [(.int x), (.int y)])] := by kernel_rfl
theorem tu_6_12_23 (ns : List Int) (x y : Int) (z2 : PV) (z3 : PV) (z4 : PV) : turn (Fx.gVar 6) b_b6 (.tup [(.tup [(.int 2), (.str ⟨#[50]⟩)]), (.tup [(.int 1)])]) [some (.scr ns), some (.ref 0), some z2, some z3, some z4, some v_1, some (.tup [(.tup [(.int 2), (.int 2)]), (.tup [.non])]), none, none, none, none, none, none] [(.lst [(.int x), (.int y)])] = .nx [some (.scr ns), some (.ref 0), some z2, some z3, some z4, some v_1, some (.tup [(.tup [(.int 2), (.str ⟨#[50]⟩)]), (.tup [(.int 1)])]), none, none, none, none, none, none] [(.lst [(.int x), (.int y)])] := by kernel_rfl
theorem tu_6_12_24 (ns : List Int) (x y : Int) (z2 : PV) (z3 : PV) (z4 : PV) : turn (Fx.gVar 6) b_b6 (.str ⟨#[50, 50]⟩) [some (.scr ns), some (.ref 0), some z2, some z3, some z4, some v_1, some (.tup [(.tup [(.int 2), (.str ⟨#[50]⟩)]), (.tup [(.int 1)])]), none, none, none, none, none, none] [(.lst [(.int x), (.int y)])] = .nx [some (.scr ns), some (.ref 0), some z2, some z3, some z4, some v_1, some (.str ⟨#[50, 50]⟩), none, none, none, none, none, none] [(.lst [(.int x), (.int y)])] := by kernel_rfl
theorem tu_6_12_25 (ns : List Int) (x y : Int) (z2 : PV) (z3 : PV) (z4 : PV) : turn (Fx.gVar 6) b_b6 (.int 5) [some (.scr ns), some (.ref 0), some z2, some z3, some z4, some v_1, some (.str ⟨#[50, 50]⟩), none, none, none, none, none, none] [(.lst [(.int x), (.int y)])] = .nx [some (.scr ns), some (.ref 0), some z2, some z3, some z4, some v_1, some (.int 5), none, none, none, none, none, none] [(.lst [(.int x), (.int y)])] := by kernel_rfl
theorem st_6_12 (ns : List Int) (x y : Int) (z2 : PV) (z3 : PV) (z4 : PV) : b_s6 [some (.scr ns), some (.ref 0), some z2, some z3, some z4, some v_1, none, none, none, none, none, none, none] [(.lst [(.int x), (.int y)])] = .nx [some (.scr ns), some (.ref 0), some z2, some z3, some z4, some v_1, some (.int 5), none, none, none, none, none, none] [(.lst [(.int x), (.int y)])] := sFor_list (ev_6_12 ns x y z2 z3 z4) rfl (forGo_cons (tu_6_12_0 ns x y z2 z3 z4) (forGo_cons (tu_6_12_1 ns x y z2 z3 z4) (forGo_cons (tu_6_12_2 ns x y z2 z3 z4) (forGo_cons (tu_6_12_3 ns x y z2 z3 z4) (forGo_cons (tu_6_12_4 ns x y z2 z3 z4) (forGo_cons (tu_6_12_5 ns x y z2 z3 z4) (forGo_cons (tu_6_12_6 ns x y z2 z3 z4) (forGo_cons (tu_6_12_7 ns x y z2 z3 z4) (forGo_cons (tu_6_12_8 ns x y z2 z3 z4) (forGo_cons (tu_6_12_9 ns x y z2 z3 z4) (forGo_cons (tu_6_12_10 ns x y z2 z3 z4) (forGo_cons (tu_6_12_11 ns x y z2 z3 z4) (forGo_cons (tu_6_12_12 ns x y z2 z3 z4) (forGo_cons (tu_6_12_13 ns x y z2 z3 z4) (forGo_cons (tu_6_12_14 ns x y z2 z3 z4) (forGo_cons (tu_6_12_15 ns x y z2 z3 z4) (forGo_cons (tu_6_12_16 ns x y z2 z3 z4) (forGo_cons (tu_6_12_17 ns x y z2 z3 z4) (forGo_cons (tu_6_12_18 ns x y z2 z3 z4) (forGo_cons (tu_6_12_19 ns x y z2 z3 z4) (forGo_cons (tu_6_12_20 ns x y z2 z3 z4) (forGo_cons (tu_6_12_21 ns x y z2 z3 z4) (forGo_cons (tu_6_12_22 ns x y z2 z3 z4) (forGo_cons (tu_6_12_23 ns x y z2 z3 z4) (forGo_cons (tu_6_12_24 ns x y z2 z3 z4) (forGo_cons (tu_6_12_25 ns x y z2 z3 z4) (rfl)))))))))))))))))))))))))))
theorem sf_6_12 (ns : List Int) (x y : Int) (z2 : PV) (z3 : PV) (z4 : PV) : ∃ S', b_t6 [some (.scr ns), some (.ref 0), some z2, some z3, some z4, some v_1, none, none, none, none, none, none, none] [(.lst [(.int x), (.int y)])] = .ret (.bl true) S' := let ⟨S', h⟩ := sf_7_11 ns x y z2 z3 z4; ⟨S', sSeq_nx (st_6_12 ns x y z2 z3 z4) h⟩
theorem st_5_13 (ns : List Int) (x y : Int) (z2 : PV) (z3 : PV) (z4 : PV) : b_s5 [some (.scr ns), some (.ref 0), some z2, some z3, some z4, some v_0, none, none, none, none, none, none, none] [(.lst [(.int x), (.int y)])] = .nx [some (.scr ns), some (.ref 0), some z2, some z3, some z4, some v_1, none, none, none, none, none, none, none] [(.lst [(.int x), (.int y)])] := by kernel_rfl
theorem sf_5_13 (ns : List Int) (x y : Int) (z2 : PV) (z3 : PV) (z4 : PV) : ∃ S', b_t5 [some (.scr ns), some (.ref 0), some z2, some z3, some z4, some v_0, none, none, none, none, none, none, none] [(.lst [(.int x), (.int y)])] = .ret (.bl true) S' := let ⟨S', h⟩ := sf_6_12 ns x y z2 z3 z4; ⟨S', sSeq_nx (st_5_13 ns x y z2 z3 z4) h⟩
theorem st_4_14 (ns : List Int) (x y : Int) (z2 : PV) (z3 : PV) (z4 : PV) : b_s4 [some (.scr ns), some (.ref 0), some z2, some z3, some z4, none, none, none, none, none, none, none, none] [(.lst [(.int x), (.int y)])] = .nx [some (.scr ns), some (.ref 0), some z2, some z3, some z4, some v_0, none, none, none, none, none, none, none] [(.lst [(.int x), (.int y)])] := by kernel_rfl
theorem sf_4_14 (ns : List Int) (x y : Int) (z2 : PV) (z3 : PV) (z4 : PV) : ∃ S', b_t4 [some (.scr ns), some (.ref 0), some z2, some z3, some z4, none, none, none, none, none, none, none, none] [(.lst [(.int x), (.int y)])] = .ret (.bl true) S' := let ⟨S', h⟩ := sf_5_13 ns x y z2 z3 z4; ⟨S', sSeq_nx (st_4_14 ns x y z2 z3 z4) h⟩
theorem st_3_15 (ns : List Int) (x y : Int) : b_s3 [some (.scr ns), some (.ref 0), some (.int 2), some (.tup [(.tup [(.int 2), (.int 2)]), (.tup [(.int 1)])]), some (.tup [(.tup [(.int 0), (.int 1)]), (.tup [(.int 2), (.int 3)])]), none, none, none, none, none, none, none, none] [(.lst [.int x, .int y])] = .nx [some (.scr ns), some (.ref 0), some (.int 2), some (.tup [(.tup [(.int 2), (.int 2)]), (.tup [(.int 1)])]), some (.tup [(.tup [(.int 0), (.int 1)]), (.tup [(.int 2), (.int 3)])]), none, none, none, none, none, none, none, none] [(.lst [(.int x), (.int y)])] := by kernel_rfl
theorem sf_3_15 (ns : List Int) (x y : Int) : ∃ S', b_t3 [some (.scr ns), some (.ref 0), some (.int 2), some (.tup [(.tup [(.int 2), (.int 2)]), (.tup [(.int 1)])]), some (.tup [(.tup [(.int 0), (.int 1)]), (.tup [(.int 2), (.int 3)])]), none, none, none, none, none, none, none, none] [(.lst [.int x, .int y])] = .ret (.bl true) S' := let ⟨S', h⟩ := sf_4_14 ns x y (.int 2) (.tup [(.tup [(.int 2), (.int 2)]), (.tup [(.int 1)])]) (.tup [(.tup [(.int 0), (.int 1)]), (.tup [(.int 2), (.int 3)])]); ⟨S', sSeq_nx (st_3_15 ns x y) h⟩
theorem st_3_16 (ns : List Int) (x y : Int) : b_s3 [some (.scr ns), some (.ref 0), some (.int 2), some (.tup [(.tup [(.int 2), (.int 2)]), (.tup [(.int 2)])]), some (.tup [(.tup [(.int 0), (.int 1)]), (.tup [(.int 2), (.int 3)])]), none, none, none, none, none, none, none, none] [(.lst [.int x, .int y])] = .nx [some (.scr ns), some (.ref 0), some (.int 2), some (.tup [(.tup [(.int 2), (.int 2)]), (.tup [(.int 2)])]), some (.tup [(.tup [(.int 0), (.int 1)]), (.tup [(.int 2), (.int 3)])]), none, none, none, none, none, none, none, none] [(.lst [(.int x), (.int y)])] := by kernel_rfl
theorem sf_3_16 (ns : List Int) (x y : Int) : ∃ S', b_t3 [some (.scr ns), some (.ref 0), some (.int 2), some (.tup [(.tup [(.int 2), (.int 2)]), (.tup [(.int 2)])]), some (.tup [(.tup [(.int 0), (.int 1)]), (.tup [(.int 2), (.int 3)])]), none, none, none, none, none, none, none, none] [(.lst [.int x, .int y])] = .ret (.bl true) S' := let ⟨S', h⟩ := sf_4_14 ns x y (.int 2) (.tup [(.tup [(.int 2), (.int 2)]), (.tup [(.int 2)])]) (.tup [(.tup [(.int 0), (.int 1)]), (.tup [(.int 2), (.int 3)])]); ⟨S', sSeq_nx (st_3_16 ns x y) h⟩
theorem st_3_17 (ns : List Int) (x y : Int) : b_s3 [some (.scr ns), some (.ref 0), some (.int 3), some (.tup [(.tup [(.int 3), (.int 2)]), (.tup [(.int 1)])]), some (.tup [(.tup [(.int 0), (.int 1), (.int 2)]), (.tup [(.int 3), (.int 4)])]), none, none, none, none, none, none, none, none] [(.lst [.int x, .int y])] = .nx [some (.scr ns), some (.ref 0), some (.int 3), some (.tup [(.tup [(.int 3), (.int 2)]), (.tup [(.int 1)])]), some (.tup [(.tup [(.int 0), (.int 1), (.int 2)]), (.tup [(.int 3), (.int 4)])]), none, none, none, none, none, none, none, none] [(.lst [(.int x), (.int y)])] := by kernel_rfl
theorem sf_3_17 (ns : List Int) (x y : Int) : ∃ S', b_t3 [some (.scr ns), some (.ref 0), some (.int 3), some (.tup [(.tup [(.int 3), (.int 2)]), (.tup [(.int 1)])]), some (.tup [(.tup [(.int 0), (.int 1), (.int 2)]), (.tup [(.int 3), (.int 4)])]), none, none, none, none, none, none, none, none] [(.lst [.int x, .int y])] = .ret (.bl true) S' := let ⟨S', h⟩ := sf_4_14 ns x y (.int 3) (.tup [(.tup [(.int 3), (.int 2)]), (.tup [(.int 1)])]) (.tup [(.tup [(.int 0), (.int 1), (.int 2)]), (.tup [(.int 3), (.int 4)])]); ⟨S', sSeq_nx (st_3_17 ns x y) h⟩
theorem st_3_18 (ns : List Int) (x y : Int) : b_s3 [some (.scr ns), some (.ref 0), some (.int 3), some (.tup [(.tup [(.int 3), (.int 2)]), (.tup [(.int 2)])]), some (.tup [(.tup [(.int 0), (.int 1), (.int 2)]), (.tup [(.int 3), (.int 4)])]), none, none, none, none, none, none, none, none] [(.lst [.int x, .int y])] = .nx [some (.scr ns), some (.ref 0), some (.int 3), some (.tup [(.tup [(.int 3), (.int 2)]), (.tup [(.int 2)])]), some (.tup [(.tup [(.int 0), (.int 1), (.int 2)]), (.tup [(.int 3), (.int 4)])]), none, none, none, none, none, none, none, none] [(.lst [(.int x), (.int y)])] := by kernel_rfl
theorem sf_3_18 (ns : List Int) (x y : Int) : ∃ S', b_t3 [some (.scr ns), some (.ref 0), some (.int 3), some (.tup [(.tup [(.int 3), (.int 2)]), (.tup [(.int 2)])]), some (.tup [(.tup [(.int 0), (.int 1), (.int 2)]), (.tup [(.int 3), (.int 4)])]), none, none, none, none, none, none, none, none] [(.lst [.int x, .int y])] = .ret (.bl true) S' := let ⟨S', h⟩ := sf_4_14 ns x y (.int 3) (.tup [(.tup [(.int 3), (.int 2)]), (.tup [(.int 2)])]) (.tup [(.tup [(.int 0), (.int 1), (.int 2)]), (.tup [(.int 3), (.int 4)])]); ⟨S', sSeq_nx (st_3_18 ns x y) h⟩
theorem st_3_19 (ns : List Int) (x y : Int) : b_s3 [some (.scr ns), some (.ref 0), some (.int 4), some (.tup [(.tup [(.int 4), (.int 2)]), (.tup [(.int 1)])]), some (.tup [(.tup [(.int 0), (.int 1), (.int 2), (.int 3)]), (.tup [(.int 4), (.int 5)])]), none, none, none, none, none, none, none, none] [(.lst [.int x, .int y])] = .nx [some (.scr ns), some (.ref 0), some (.int 4), some (.tup [(.tup [(.int 4), (.int 2)]), (.tup [(.int 1)])]), some (.tup [(.tup [(.int 0), (.int 1), (.int 2), (.int 3)]), (.tup [(.int 4), (.int 5)])]), none, none, none, none, none, none, none, none] [(.lst [(.int x), (.int y)])] := by kernel_rfl
theorem sf_3_19 (ns : List Int) (x y : Int) : ∃ S', b_t3 [some (.scr ns), some (.ref 0), some (.int 4), some (.tup [(.tup [(.int 4), (.int 2)]), (.tup [(.int 1)])]), some (.tup [(.tup [(.int 0), (.int 1), (.int 2), (.int 3)]), (.tup [(.int 4), (.int 5)])]), none, none, none, none, none, none, none, none] [(.lst [.int x, .int y])] = .ret (.bl true) S' := let ⟨S', h⟩ := sf_4_14 ns x y (.int 4) (.tup [(.tup [(.int 4), (.int 2)]), (.tup [(.int 1)])]) (.tup [(.tup [(.int 0), (.int 1), (.int 2), (.int 3)]), (.tup [(.int 4), (.int 5)])]); ⟨S', sSeq_nx (st_3_19 ns x y) h⟩
theorem st_3_20 (ns : List Int) (x y : Int) : b_s3 [some (.scr ns), some (.ref 0), some (.int 4), some (.tup [(.tup [(.int 4), (.int 2)]), (.tup [(.int 2)])]), some (.tup [(.tup [(.int 0), (.int 1), (.int 2), (.int 3)]), (.tup [(.int 4), (.int 5)])]), none, none, none, none, none, none, none, none] [(.lst [.int x, .int y])] = .nx [some (.scr ns), some (.ref 0), some (.int 4), some (.tup [(.tup [(.int 4), (.int 2)]), (.tup [(.int 2)])]), some (.tup [(.tup [(.int 0), (.int 1), (.int 2), (.int 3)]), (.tup [(.int 4), (.int 5)])]), none, none, none, none, none, none, none, none] [(.lst [(.int x), (.int y)])] := by kernel_rfl
theorem sf_3_20 (ns : List Int) (x y : Int) : ∃ S', b_t3 [some (.scr ns), some (.ref 0), some (.int 4), some (.tup [(.tup [(.int 4), (.int 2)]), (.tup [(.int 2)])]), some (.tup [(.tup [(.int 0), (.int 1), (.int 2), (.int 3)]), (.tup [(.int 4), (.int 5)])]), none, none, none, none, none, none, none, none] [(.lst [.int x, .int y])] = .ret (.bl true) S' := let ⟨S', h⟩ := sf_4_14 ns x y (.int 4) (.tup [(.tup [(.int 4), (.int 2)]), (.tup [(.int 2)])]) (.tup [(.tup [(.int 0), (.int 1), (.int 2), (.int 3)]), (.tup [(.int 4), (.int 5)])]); ⟨S', sSeq_nx (st_3_20 ns x y) h⟩
theorem st_3_21 (ns : List Int) (x y : Int) : b_s3 [some (.scr ns), some (.ref 0), some (.int 5), some (.tup [(.tup [(.int 5), (.int 2)]), (.tup [(.int 1)])]), some (.tup [(.tup [(.int 0), (.int 1), (.int 2), (.int 3), (.int 4)]), (.tup [(.int 5), (.int 6)])]), none, none, none, none, none, none, none, none] [(.lst [.int x, .int y])] = .nx [some (.scr ns), some (.ref 0), some (.int 5), some (.tup [(.tup [(.int 5), (.int 2)]), (.tup [(.int 1)])]), some (.tup [(.tup [(.int 0), (.int 1), (.int 2), (.int 3), (.int 4)]), (.tup [(.int 5), (.int 6)])]), none, none, none, none, none, none, none, none] [(.lst [(.int x), (.int y)])] := by kernel_rfl
theorem sf_3_21 (ns : List Int) (x y : Int) : ∃ S', b_t3 [some (.scr ns), some (.ref 0), some (.int 5), some (.tup [(.tup [(.int 5), (.int 2)]), (.tup [(.int 1)])]), some (.tup [(.tup [(.int 0), (.int 1), (.int 2), (.int 3), (.int 4)]), (.tup [(.int 5), (.int 6)])]), none, none, none, none, none, none, none, none] [(.lst [.int x, .int y])] = .ret (.bl true) S' := let ⟨S', h⟩ := sf_4_14 ns x y (.int 5) (.tup [(.tup [(.int 5), (.int 2)]), (.tup [(.int 1)])]) (.tup [(.tup [(.int 0), (.int 1), (.int 2), (.int 3), (.int 4)]), (.tup [(.int 5), (.int 6)])]); ⟨S', sSeq_nx (st_3_21 ns x y) h⟩
theorem st_3_22 (ns : List Int) (x y : Int) : b_s3 [some (.scr ns), some (.ref 0), some (.int 5), some (.tup [(.tup [(.int 5), (.int 2)]), (.tup [(.int 2)])]), some (.tup [(.tup [(.int 0), (.int 1), (.int 2), (.int 3), (.int 4)]), (.tup [(.int 5), (.int 6)])]), none, none, none, none, none, none, none, none] [(.lst [.int x, .int y])] = .nx [some (.scr ns), some (.ref 0), some (.int 5), some (.tup [(.tup [(.int 5), (.int 2)]), (.tup [(.int 2)])]), some (.tup [(.tup [(.int 0), (.int 1), (.int 2), (.int 3), (.int 4)]), (.tup [(.int 5), (.int 6)])]), none, none, none, none, none, none, none, none] [(.lst [(.int x), (.int y)])] := by kernel_rfl
theorem sf_3_22 (ns : List Int) (x y : Int) : ∃ S', b_t3 [some (.scr ns), some (.ref 0), some (.int 5), some (.tup [(.tup [(.int 5), (.int 2)]), (.tup [(.int 2)])]), some (.tup [(.tup [(.int 0), (.int 1), (.int 2), (.int 3), (.int 4)]), (.tup [(.int 5), (.int 6)])]), none, none, none, none, none, none, none, none] [(.lst [.int x, .int y])] = .ret (.bl true) S' := let ⟨S', h⟩ := sf_4_14 ns x y (.int 5) (.tup [(.tup [(.int 5), (.int 2)]), (.tup [(.int 2)])]) (.tup [(.tup [(.int 0), (.int 1), (.int 2), (.int 3), (.int 4)]), (.tup [(.int 5), (.int 6)])]); ⟨S', sSeq_nx (st_3_22 ns x y) h⟩
theorem st_3_23 (ns : List Int) (x y : Int) : b_s3 [some (.scr ns), some (.ref 0), some (.int 6), some (.tup [(.tup [(.int 6), (.int 2)]), (.tup [(.int 1)])]), some (.tup [(.tup [(.int 0), (.int 1), (.int 2), (.int 3), (.int 4), (.int 5)]), (.tup [(.int 6), (.int 7)])]), none, none, none, none, none, none, none, none] [(.lst [.int x, .int y])] = .nx [some (.scr ns), some (.ref 0), some (.int 6), some (.tup [(.tup [(.int 6), (.int 2)]), (.tup [(.int 1)])]), some (.tup [(.tup [(.int 0), (.int 1), (.int 2), (.int 3), (.int 4), (.int 5)]), (.tup [(.int 6), (.int 7)])]), none, none, none, none, none, none, none, none] [(.lst [(.int x), (.int y)])] := by kernel_rfl
theorem sf_3_23 (ns : List Int) (x y : Int) : ∃ S', b_t3 [some (.scr ns), some (.ref 0), some (.int 6), some (.tup [(.tup [(.int 6), (.int 2)]), (.tup [(.int 1)])]), some (.tup [(.tup [(.int 0), (.int 1), (.int 2), (.int 3), (.int 4), (.int 5)]), (.tup [(.int 6), (.int 7)])]), none, none, none, none, none, none, none, none] [(.lst [.int x, .int y])] = .ret (.bl true) S' := let ⟨S', h⟩ := sf_4_14 ns x y (.int 6) (.tup [(.tup [(.int 6), (.int 2)]), (.tup [(.int 1)])]) (.tup [(.tup [(.int 0), (.int 1), (.int 2), (.int 3), (.int 4), (.int 5)]), (.tup [(.int 6), (.int 7)])]); ⟨S', sSeq_nx (st_3_23 ns x y) h⟩
theorem st_3_24 (ns : List Int) (x y : Int) : b_s3 [some (.scr ns), some (.ref 0), some (.int 6), some (.tup [(.tup [(.int 6), (.int 2)]), (.tup [(.int 2)])]), some (.tup [(.tup [(.int 0), (.int 1), (.int 2), (.int 3), (.int 4), (.int 5)]), (.tup [(.int 6), (.int 7)])]), none, none, none, none, none, none, none, none] [(.lst [.int x, .int y])] = .nx [some (.scr ns), some (.ref 0), some (.int 6), some (.tup [(.tup [(.int 6), (.int 2)]), (.tup [(.int 2)])]), some (.tup [(.tup [(.int 0), (.int 1), (.int 2), (.int 3), (.int 4), (.int 5)]), (.tup [(.int 6), (.int 7)])]), none, none, none, none, none, none, none, none] [(.lst [(.int x), (.int y)])] := by kernel_rfl
theorem sf_3_24 (ns : List Int) (x y : Int) : ∃ S', b_t3 [some (.scr ns), some (.ref 0), some (.int 6), some (.tup [(.tup [(.int 6), (.int 2)]), (.tup [(.int 2)])]), some (.tup [(.tup [(.int 0), (.int 1), (.int 2), (.int 3), (.int 4), (.int 5)]), (.tup [(.int 6), (.int 7)])]), none, none, none, none, none, none, none, none] [(.lst [.int x, .int y])] = .ret (.bl true) S' := let ⟨S', h⟩ := sf_4_14 ns x y (.int 6) (.tup [(.tup [(.int 6), (.int 2)]), (.tup [(.int 2)])]) (.tup [(.tup [(.int 0), (.int 1), (.int 2), (.int 3), (.int 4), (.int 5)]), (.tup [(.int 6), (.int 7)])]); ⟨S', sSeq_nx (st_3_24 ns x y) h⟩
theorem st_3_25 (ns : List Int) (x y : Int) : b_s3 [some (.scr ns), some (.ref 0), some (.int 7), some (.tup [(.tup [(.int 7), (.int 2)]), (.tup [(.int 1)])]), some (.tup [(.tup [(.int 0), (.int 1), (.int 2), (.int 3), (.int 4), (.int 5), (.int 6)]), (.tup [(.int 7), (.int 8)])]), none, none, none, none, none, none, none, none] [(.lst [.int x, .int y])] = .nx [some (.scr ns), some (.ref 0), some (.int 7), some (.tup [(.tup [(.int 7), (.int 2)]), (.tup [(.int 1)])]), some (.tup [(.tup [(.int 0), (.int 1), (.int 2), (.int 3), (.int 4), (.int 5), (.int 6)]), (.tup [(.int 7), (.int 8)])]), none, none, none, none, none, none, none, none] [(.lst [(.int x), (.int y)])] := by kernel_rfl
theorem sf_3_25 (ns : List Int) (x y : Int) : ∃ S', b_t3 [some (.scr ns), some (.ref 0), some (.int 7), some (.tup [(.tup [(.int 7), (.int 2)]), (.tup [(.int 1)])]), some (.tup [(.tup [(.int 0), (.int 1), (.int 2), (.int 3), (.int 4), (.int 5), (.int 6)]), (.tup [(.int 7), (.int 8)])]), none, none, none, none, none, none, none, none] [(.lst [.int x, .int y])] = .ret (.bl true) S' := let ⟨S', h⟩ := sf_4_14 ns x y (.int 7) (.tup [(.tup [(.int 7), (.int 2)]), (.tup [(.int 1)])]) (.tup [(.tup [(.int 0), (.int 1), (.int 2), (.int 3), (.int 4), (.int 5), (.int 6)]), (.tup [(.int 7), (.int 8)])]); ⟨S', sSeq_nx (st_3_25 ns x y) h⟩
theorem st_3_26 (ns : List Int) (x y : Int) : b_s3 [some (.scr ns), some (.ref 0), some (.int 7), some (.tup [(.tup [(.int 7), (.int 2)]), (.tup [(.int 2)])]), some (.tup [(.tup [(.int 0), (.int 1), (.int 2), (.int 3), (.int 4), (.int 5), (.int 6)]), (.tup [(.int 7), (.int 8)])]), none, none, none, none, none, none, none, none] [(.lst [.int x, .int y])] = .nx [some (.scr ns), some (.ref 0), some (.int 7), some (.tup [(.tup [(.int 7), (.int 2)]), (.tup [(.int 2)])]), some (.tup [(.tup [(.int 0), (.int 1), (.int 2), (.int 3), (.int 4), (.int 5), (.int 6)]), (.tup [(.int 7), (.int 8)])]), none, none, none, none, none, none, none, none] [(.lst [(.int x), (.int y)])] := by kernel_rfl
theorem sf_3_26 (ns : List Int) (x y : Int) : ∃ S', b_t3 [some (.scr ns), some (.ref 0), some (.int 7), some (.tup [(.tup [(.int 7), (.int 2)]), (.tup [(.int 2)])]), some (.tup [(.tup [(.int 0), (.int 1), (.int 2), (.int 3), (.int 4), (.int 5), (.int 6)]), (.tup [(.int 7), (.int 8)])]), none, none, none, none, none, none, none, none] [(.lst [.int x, .int y])] = .ret (.bl true) S' := let ⟨S', h⟩ := sf_4_14 ns x y (.int 7) (.tup [(.tup [(.int 7), (.int 2)]), (.tup [(.int 2)])]) (.tup [(.tup [(.int 0), (.int 1), (.int 2), (.int 3), (.int 4), (.int 5), (.int 6)]), (.tup [(.int 7), (.int 8)])]); ⟨S', sSeq_nx (st_3_26 ns x y) h⟩
theorem law_run (ns : List Int) (hn : ns.length ≤ 63) : ∃ S, (Sem ms 20).F 52 [.scr ns] [] = .ok (.bl true) S := by
  suffices h : ∃ S, b_law [some (.scr ns), none, none, none, none, none, none, none, none, none, none, none, none] [] = .ret (.bl true) S by
    obtain ⟨S, h⟩ := h
    have e : (Sem ms 20).F 52 [.scr ns] [] = runDef 1 13 (ssL (dens (Sem ms 19) d_law.body)) [.scr ns] [] := by kernel_rfl
    rw [e, b_law_eq]
    show ∃ S, (match (b_law [some (.scr ns), none, none, none, none, none, none, none, none, none, none, none, none] [] : F) with | .nx _ S1 => fin 0 .non S1 | .ret v S1 => fin 0 v S1 | .exc x _ S1 => .exc x S1 | .no => .no) = R.ok (PV.bl true) S
    rw [h]
    show ∃ S', fin 0 (.bl true) S = R.ok (PV.bl true) S'
    unfold fin
    split
    · exact ⟨_, rfl⟩
    · split
      · exact ⟨_, rfl⟩
      · exact ⟨_, rfl⟩
  have cup : ∃ a b, (Sem ms 19).F 47 [.scr ns] [] = .ok (.ref 0) [.lst [.int a, .int b]] := by
    have e : (Sem ms 19).F 47 = runDef 1 2 (ssL (dens (Sem ms 18) (cupE 333 683 5613 2077503101 463))) := by kernel_rfl
    rw [e]
    exact cup_run _ (by decide) (by decide) (by decide) (by decide) ns hn
  have roll : ∀ many : Int, 0 < many → many < 1073741824 → ∀ x y : Int, ∃ v x' y', 0 ≤ v ∧ v < many ∧ (Sem ms 19).F 48 [.ref 0, .int many] [.lst [.int x, .int y]] = .ok (.int v) [.lst [.int x', .int y']] := fun many h1 h2 x y => by
    have e : (Sem ms 19).F 48 = runDef 2 4 (ssL (dens (Sem ms 18) (rollE 31441 8527 2147483399 727 2147483563 821))) := by kernel_rfl
    rw [e]
    exact roll_run _ (by decide) (by decide) (by decide) (by decide) (by decide) (by decide) h1 h2 x y
  obtain ⟨x0, y0, h0⟩ := cup
  obtain ⟨v1, x1, y1, l1, u1, h1⟩ := roll 6 (by decide) (by decide) x0 y0
  obtain ⟨v2, x2, y2, l2, u2, h2⟩ := roll 2 (by decide) (by decide) x1 y1
  have c1 : v1 = 0 ∨ v1 = 1 ∨ v1 = 2 ∨ v1 = 3 ∨ v1 = 4 ∨ v1 = 5 := by omega
  have c2 : v2 = 0 ∨ v2 = 1 := by omega
  rcases c1 with rfl | rfl | rfl | rfl | rfl | rfl <;> rcases c2 with rfl | rfl
  · obtain ⟨S, hS⟩ := sf_3_15 ns x2 y2
    exact ⟨S, sSeq_nx (sAsg_ok (cCall_ok rfl h0)) ( sSeq_nx (sAsg_ok (cBin_ok rfl (cCall_ok rfl h1) rfl)) ( sSeq_nx (sPar_ok (aCons_ok (cTup_ok (aCons_ok rfl (aCons_ok (cTup_ok (aCons_ok (cBin_ok rfl (cCall_ok rfl h2) rfl) rfl) rfl) rfl)) rfl) rfl) rfl) (hS)))⟩
  · obtain ⟨S, hS⟩ := sf_3_16 ns x2 y2
    exact ⟨S, sSeq_nx (sAsg_ok (cCall_ok rfl h0)) ( sSeq_nx (sAsg_ok (cBin_ok rfl (cCall_ok rfl h1) rfl)) ( sSeq_nx (sPar_ok (aCons_ok (cTup_ok (aCons_ok rfl (aCons_ok (cTup_ok (aCons_ok (cBin_ok rfl (cCall_ok rfl h2) rfl) rfl) rfl) rfl)) rfl) rfl) rfl) (hS)))⟩
  · obtain ⟨S, hS⟩ := sf_3_17 ns x2 y2
    exact ⟨S, sSeq_nx (sAsg_ok (cCall_ok rfl h0)) ( sSeq_nx (sAsg_ok (cBin_ok rfl (cCall_ok rfl h1) rfl)) ( sSeq_nx (sPar_ok (aCons_ok (cTup_ok (aCons_ok rfl (aCons_ok (cTup_ok (aCons_ok (cBin_ok rfl (cCall_ok rfl h2) rfl) rfl) rfl) rfl)) rfl) rfl) rfl) (hS)))⟩
  · obtain ⟨S, hS⟩ := sf_3_18 ns x2 y2
    exact ⟨S, sSeq_nx (sAsg_ok (cCall_ok rfl h0)) ( sSeq_nx (sAsg_ok (cBin_ok rfl (cCall_ok rfl h1) rfl)) ( sSeq_nx (sPar_ok (aCons_ok (cTup_ok (aCons_ok rfl (aCons_ok (cTup_ok (aCons_ok (cBin_ok rfl (cCall_ok rfl h2) rfl) rfl) rfl) rfl)) rfl) rfl) rfl) (hS)))⟩
  · obtain ⟨S, hS⟩ := sf_3_19 ns x2 y2
    exact ⟨S, sSeq_nx (sAsg_ok (cCall_ok rfl h0)) ( sSeq_nx (sAsg_ok (cBin_ok rfl (cCall_ok rfl h1) rfl)) ( sSeq_nx (sPar_ok (aCons_ok (cTup_ok (aCons_ok rfl (aCons_ok (cTup_ok (aCons_ok (cBin_ok rfl (cCall_ok rfl h2) rfl) rfl) rfl) rfl)) rfl) rfl) rfl) (hS)))⟩
  · obtain ⟨S, hS⟩ := sf_3_20 ns x2 y2
    exact ⟨S, sSeq_nx (sAsg_ok (cCall_ok rfl h0)) ( sSeq_nx (sAsg_ok (cBin_ok rfl (cCall_ok rfl h1) rfl)) ( sSeq_nx (sPar_ok (aCons_ok (cTup_ok (aCons_ok rfl (aCons_ok (cTup_ok (aCons_ok (cBin_ok rfl (cCall_ok rfl h2) rfl) rfl) rfl) rfl)) rfl) rfl) rfl) (hS)))⟩
  · obtain ⟨S, hS⟩ := sf_3_21 ns x2 y2
    exact ⟨S, sSeq_nx (sAsg_ok (cCall_ok rfl h0)) ( sSeq_nx (sAsg_ok (cBin_ok rfl (cCall_ok rfl h1) rfl)) ( sSeq_nx (sPar_ok (aCons_ok (cTup_ok (aCons_ok rfl (aCons_ok (cTup_ok (aCons_ok (cBin_ok rfl (cCall_ok rfl h2) rfl) rfl) rfl) rfl)) rfl) rfl) rfl) (hS)))⟩
  · obtain ⟨S, hS⟩ := sf_3_22 ns x2 y2
    exact ⟨S, sSeq_nx (sAsg_ok (cCall_ok rfl h0)) ( sSeq_nx (sAsg_ok (cBin_ok rfl (cCall_ok rfl h1) rfl)) ( sSeq_nx (sPar_ok (aCons_ok (cTup_ok (aCons_ok rfl (aCons_ok (cTup_ok (aCons_ok (cBin_ok rfl (cCall_ok rfl h2) rfl) rfl) rfl) rfl)) rfl) rfl) rfl) (hS)))⟩
  · obtain ⟨S, hS⟩ := sf_3_23 ns x2 y2
    exact ⟨S, sSeq_nx (sAsg_ok (cCall_ok rfl h0)) ( sSeq_nx (sAsg_ok (cBin_ok rfl (cCall_ok rfl h1) rfl)) ( sSeq_nx (sPar_ok (aCons_ok (cTup_ok (aCons_ok rfl (aCons_ok (cTup_ok (aCons_ok (cBin_ok rfl (cCall_ok rfl h2) rfl) rfl) rfl) rfl)) rfl) rfl) rfl) (hS)))⟩
  · obtain ⟨S, hS⟩ := sf_3_24 ns x2 y2
    exact ⟨S, sSeq_nx (sAsg_ok (cCall_ok rfl h0)) ( sSeq_nx (sAsg_ok (cBin_ok rfl (cCall_ok rfl h1) rfl)) ( sSeq_nx (sPar_ok (aCons_ok (cTup_ok (aCons_ok rfl (aCons_ok (cTup_ok (aCons_ok (cBin_ok rfl (cCall_ok rfl h2) rfl) rfl) rfl) rfl)) rfl) rfl) rfl) (hS)))⟩
  · obtain ⟨S, hS⟩ := sf_3_25 ns x2 y2
    exact ⟨S, sSeq_nx (sAsg_ok (cCall_ok rfl h0)) ( sSeq_nx (sAsg_ok (cBin_ok rfl (cCall_ok rfl h1) rfl)) ( sSeq_nx (sPar_ok (aCons_ok (cTup_ok (aCons_ok rfl (aCons_ok (cTup_ok (aCons_ok (cBin_ok rfl (cCall_ok rfl h2) rfl) rfl) rfl) rfl)) rfl) rfl) rfl) (hS)))⟩
  · obtain ⟨S, hS⟩ := sf_3_26 ns x2 y2
    exact ⟨S, sSeq_nx (sAsg_ok (cCall_ok rfl h0)) ( sSeq_nx (sAsg_ok (cBin_ok rfl (cCall_ok rfl h1) rfl)) ( sSeq_nx (sPar_ok (aCons_ok (cTup_ok (aCons_ok rfl (aCons_ok (cTup_ok (aCons_ok (cBin_ok rfl (cCall_ok rfl h2) rfl) rfl) rfl) rfl)) rfl) rfl) rfl) (hS)))⟩
theorem all_ok {K : PySem.W.Frag} {h : Heap} {mg : Str → Option Value} (X : K.In h) (G : h.Ns mainGlobals mg) {f0 : Addr} (a0 : PySem.W.nsIn K mainGlobals "LeagueError" = some (some (.ref f0))) (q0 : clsB K f0 = true)
  {f1 : Addr} (a1 : PySem.W.nsIn K mainGlobals "InvalidLeague" = some (some (.ref f1))) (q1 : clsB K f1 = true)
  {f2 : Addr} (a2 : PySem.W.nsIn K mainGlobals "InvalidSeason" = some (some (.ref f2))) (q2 : clsB K f2 = true)
  {f3 : Addr} (a3 : PySem.W.nsIn K mainGlobals "InvalidNumber" = some (some (.ref f3))) (q3 : clsB K f3 = true)
  {t4 : Tok} (a4 : PySem.W.nsIn K mainGlobals "DIVISIONS" = some (some (.int 6 t4)))
  {t5 : Tok} (a5 : PySem.W.nsIn K mainGlobals "TEAMS" = some (some (.int 24 t5)))
  {f6 : Addr} {oc6 kV6 dc6 pm6 cd6 ct6 : Value} {od6 an6 : Option Addr} {sl6 : Array (Option Value)} (a6 : PySem.W.nsIn K mainGlobals "is_whole" = some (some (.ref f6))) (l6 : K.lookup f6 = some ⟨oc6, od6, .func (PySem.W.fnOf "is_whole" "is_whole" (defArgs (topS 8)) (defBody (topS 8)) (defScope (topS 8)) .none kV6 dc6 pm6 an6 cd6 ct6), sl6⟩) (c6 : PySem.W.codeIn K cd6 "is_whole" = true) (k6 : PySem.W.keepIn K (.ref f6) = true)
  {f7 : Addr} {oc7 kV7 dc7 pm7 cd7 ct7 : Value} {od7 an7 : Option Addr} {sl7 : Array (Option Value)} (a7 : PySem.W.nsIn K mainGlobals "is_tuple_of" = some (some (.ref f7))) (l7 : K.lookup f7 = some ⟨oc7, od7, .func (PySem.W.fnOf "is_tuple_of" "is_tuple_of" (defArgs (topS 9)) (defBody (topS 9)) (defScope (topS 9)) .none kV7 dc7 pm7 an7 cd7 ct7), sl7⟩) (c7 : PySem.W.codeIn K cd7 "is_tuple_of" = true) (k7 : PySem.W.keepIn K (.ref f7) = true)
  {f8 : Addr} {oc8 kV8 dc8 pm8 cd8 ct8 : Value} {od8 an8 : Option Addr} {sl8 : Array (Option Value)} (a8 : PySem.W.nsIn K mainGlobals "is_rising" = some (some (.ref f8))) (l8 : K.lookup f8 = some ⟨oc8, od8, .func (PySem.W.fnOf "is_rising" "is_rising" (defArgs (topS 10)) (defBody (topS 10)) (defScope (topS 10)) .none kV8 dc8 pm8 an8 cd8 ct8), sl8⟩) (c8 : PySem.W.codeIn K cd8 "is_rising" = true) (k8 : PySem.W.keepIn K (.ref f8) = true)
  {f9 : Addr} {oc9 kV9 dc9 pm9 cd9 ct9 : Value} {od9 an9 : Option Addr} {sl9 : Array (Option Value)} (a9 : PySem.W.nsIn K mainGlobals "fits_league" = some (some (.ref f9))) (l9 : K.lookup f9 = some ⟨oc9, od9, .func (PySem.W.fnOf "fits_league" "fits_league" (defArgs (topS 11)) (defBody (topS 11)) (defScope (topS 11)) .none kV9 dc9 pm9 an9 cd9 ct9), sl9⟩) (c9 : PySem.W.codeIn K cd9 "fits_league" = true) (k9 : PySem.W.keepIn K (.ref f9) = true)
  {f10 : Addr} {oc10 kV10 dc10 pm10 cd10 ct10 : Value} {od10 an10 : Option Addr} {sl10 : Array (Option Value)} (a10 : PySem.W.nsIn K mainGlobals "need_league" = some (some (.ref f10))) (l10 : K.lookup f10 = some ⟨oc10, od10, .func (PySem.W.fnOf "need_league" "need_league" (defArgs (topS 12)) (defBody (topS 12)) (defScope (topS 12)) .none kV10 dc10 pm10 an10 cd10 ct10), sl10⟩) (c10 : PySem.W.codeIn K cd10 "need_league" = true) (k10 : PySem.W.keepIn K (.ref f10) = true)
  {f11 : Addr} {oc11 kV11 dc11 pm11 cd11 ct11 : Value} {od11 an11 : Option Addr} {sl11 : Array (Option Value)} (a11 : PySem.W.nsIn K mainGlobals "teams_in" = some (some (.ref f11))) (l11 : K.lookup f11 = some ⟨oc11, od11, .func (PySem.W.fnOf "teams_in" "teams_in" (defArgs (topS 13)) (defBody (topS 13)) (defScope (topS 13)) .none kV11 dc11 pm11 an11 cd11 ct11), sl11⟩) (c11 : PySem.W.codeIn K cd11 "teams_in" = true) (k11 : PySem.W.keepIn K (.ref f11) = true)
  {f12 : Addr} {oc12 kV12 dc12 pm12 cd12 ct12 : Value} {od12 an12 : Option Addr} {sl12 : Array (Option Value)} (a12 : PySem.W.nsIn K mainGlobals "fits_season" = some (some (.ref f12))) (l12 : K.lookup f12 = some ⟨oc12, od12, .func (PySem.W.fnOf "fits_season" "fits_season" (defArgs (topS 14)) (defBody (topS 14)) (defScope (topS 14)) .none kV12 dc12 pm12 an12 cd12 ct12), sl12⟩) (c12 : PySem.W.codeIn K cd12 "fits_season" = true) (k12 : PySem.W.keepIn K (.ref f12) = true)
  {f13 : Addr} {oc13 kV13 dc13 pm13 cd13 ct13 : Value} {od13 an13 : Option Addr} {sl13 : Array (Option Value)} (a13 : PySem.W.nsIn K mainGlobals "need_season" = some (some (.ref f13))) (l13 : K.lookup f13 = some ⟨oc13, od13, .func (PySem.W.fnOf "need_season" "need_season" (defArgs (topS 15)) (defBody (topS 15)) (defScope (topS 15)) .none kV13 dc13 pm13 an13 cd13 ct13), sl13⟩) (c13 : PySem.W.codeIn K cd13 "need_season" = true) (k13 : PySem.W.keepIn K (.ref f13) = true)
  {f14 : Addr} {oc14 kV14 dc14 pm14 cd14 ct14 : Value} {od14 an14 : Option Addr} {sl14 : Array (Option Value)} (a14 : PySem.W.nsIn K mainGlobals "place_of" = some (some (.ref f14))) (l14 : K.lookup f14 = some ⟨oc14, od14, .func (PySem.W.fnOf "place_of" "place_of" (defArgs (topS 16)) (defBody (topS 16)) (defScope (topS 16)) .none kV14 dc14 pm14 an14 cd14 ct14), sl14⟩) (c14 : PySem.W.codeIn K cd14 "place_of" = true) (k14 : PySem.W.keepIn K (.ref f14) = true)
  {f15 : Addr} {oc15 kV15 dc15 pm15 cd15 ct15 : Value} {od15 an15 : Option Addr} {sl15 : Array (Option Value)} (a15 : PySem.W.nsIn K mainGlobals "season_by" = some (some (.ref f15))) (l15 : K.lookup f15 = some ⟨oc15, od15, .func (PySem.W.fnOf "season_by" "season_by" (defArgs (topS 17)) (defBody (topS 17)) (defScope (topS 17)) .none kV15 dc15 pm15 an15 cd15 ct15), sl15⟩) (c15 : PySem.W.codeIn K cd15 "season_by" = true) (k15 : PySem.W.keepIn K (.ref f15) = true)
  {f16 : Addr} {oc16 kV16 dc16 pm16 cd16 ct16 : Value} {od16 an16 : Option Addr} {sl16 : Array (Option Value)} (a16 : PySem.W.nsIn K mainGlobals "product_to" = some (some (.ref f16))) (l16 : K.lookup f16 = some ⟨oc16, od16, .func (PySem.W.fnOf "product_to" "product_to" (defArgs (topS 19)) (defBody (topS 19)) (defScope (topS 19)) .none kV16 dc16 pm16 an16 cd16 ct16), sl16⟩) (c16 : PySem.W.codeIn K cd16 "product_to" = true) (k16 : PySem.W.keepIn K (.ref f16) = true)
  {f17 : Addr} {oc17 kV17 dc17 pm17 cd17 ct17 : Value} {od17 an17 : Option Addr} {sl17 : Array (Option Value)} (a17 : PySem.W.nsIn K mainGlobals "shared_ways" = some (some (.ref f17))) (l17 : K.lookup f17 = some ⟨oc17, od17, .func (PySem.W.fnOf "shared_ways" "shared_ways" (defArgs (topS 20)) (defBody (topS 20)) (defScope (topS 20)) .none kV17 dc17 pm17 an17 cd17 ct17), sl17⟩) (c17 : PySem.W.codeIn K cd17 "shared_ways" = true) (k17 : PySem.W.keepIn K (.ref f17) = true)
  {f18 : Addr} {oc18 kV18 dc18 pm18 cd18 ct18 : Value} {od18 an18 : Option Addr} {sl18 : Array (Option Value)} (a18 : PySem.W.nsIn K mainGlobals "divisions_in" = some (some (.ref f18))) (l18 : K.lookup f18 = some ⟨oc18, od18, .func (PySem.W.fnOf "divisions_in" "divisions_in" (defArgs (topS 22)) (defBody (topS 22)) (defScope (topS 22)) .none kV18 dc18 pm18 an18 cd18 ct18), sl18⟩) (c18 : PySem.W.codeIn K cd18 "divisions_in" = true) (k18 : PySem.W.keepIn K (.ref f18) = true)
  {f19 : Addr} {oc19 kV19 dc19 pm19 cd19 ct19 : Value} {od19 an19 : Option Addr} {sl19 : Array (Option Value)} (a19 : PySem.W.nsIn K mainGlobals "need_pattern" = some (some (.ref f19))) (l19 : K.lookup f19 = some ⟨oc19, od19, .func (PySem.W.fnOf "need_pattern" "need_pattern" (defArgs (topS 23)) (defBody (topS 23)) (defScope (topS 23)) .none kV19 dc19 pm19 an19 cd19 ct19), sl19⟩) (c19 : PySem.W.codeIn K cd19 "need_pattern" = true) (k19 : PySem.W.keepIn K (.ref f19) = true)
  {f20 : Addr} {oc20 kV20 dc20 pm20 cd20 ct20 : Value} {od20 an20 : Option Addr} {sl20 : Array (Option Value)} (a20 : PySem.W.nsIn K mainGlobals "need_below" = some (some (.ref f20))) (l20 : K.lookup f20 = some ⟨oc20, od20, .func (PySem.W.fnOf "need_below" "need_below" (defArgs (topS 24)) (defBody (topS 24)) (defScope (topS 24)) .none kV20 dc20 pm20 an20 cd20 ct20), sl20⟩) (c20 : PySem.W.codeIn K cd20 "need_below" = true) (k20 : PySem.W.keepIn K (.ref f20) = true)
  {f21 : Addr} {oc21 kV21 dc21 pm21 cd21 ct21 : Value} {od21 an21 : Option Addr} {sl21 : Array (Option Value)} (a21 : PySem.W.nsIn K mainGlobals "need_both" = some (some (.ref f21))) (l21 : K.lookup f21 = some ⟨oc21, od21, .func (PySem.W.fnOf "need_both" "need_both" (defArgs (topS 25)) (defBody (topS 25)) (defScope (topS 25)) .none kV21 dc21 pm21 an21 cd21 ct21), sl21⟩) (c21 : PySem.W.codeIn K cd21 "need_both" = true) (k21 : PySem.W.keepIn K (.ref f21) = true)
  {f22 : Addr} {oc22 kV22 dc22 pm22 cd22 ct22 : Value} {od22 an22 : Option Addr} {sl22 : Array (Option Value)} (a22 : PySem.W.nsIn K mainGlobals "rank_in" = some (some (.ref f22))) (l22 : K.lookup f22 = some ⟨oc22, od22, .func (PySem.W.fnOf "rank_in" "rank_in" (defArgs (topS 26)) (defBody (topS 26)) (defScope (topS 26)) .none kV22 dc22 pm22 an22 cd22 ct22), sl22⟩) (c22 : PySem.W.codeIn K cd22 "rank_in" = true) (k22 : PySem.W.keepIn K (.ref f22) = true)
  {f23 : Addr} {oc23 kV23 dc23 pm23 cd23 ct23 : Value} {od23 an23 : Option Addr} {sl23 : Array (Option Value)} (a23 : PySem.W.nsIn K mainGlobals "row_ranked" = some (some (.ref f23))) (l23 : K.lookup f23 = some ⟨oc23, od23, .func (PySem.W.fnOf "row_ranked" "row_ranked" (defArgs (topS 27)) (defBody (topS 27)) (defScope (topS 27)) .none kV23 dc23 pm23 an23 cd23 ct23), sl23⟩) (c23 : PySem.W.codeIn K cd23 "row_ranked" = true) (k23 : PySem.W.keepIn K (.ref f23) = true)
  {f24 : Addr} {oc24 kV24 dc24 pm24 cd24 ct24 : Value} {od24 an24 : Option Addr} {sl24 : Array (Option Value)} (a24 : PySem.W.nsIn K mainGlobals "row_beside" = some (some (.ref f24))) (l24 : K.lookup f24 = some ⟨oc24, od24, .func (PySem.W.fnOf "row_beside" "row_beside" (defArgs (topS 28)) (defBody (topS 28)) (defScope (topS 28)) .none kV24 dc24 pm24 an24 cd24 ct24), sl24⟩) (c24 : PySem.W.codeIn K cd24 "row_beside" = true) (k24 : PySem.W.keepIn K (.ref f24) = true)
  {f25 : Addr} {oc25 kV25 dc25 pm25 cd25 ct25 : Value} {od25 an25 : Option Addr} {sl25 : Array (Option Value)} (a25 : PySem.W.nsIn K mainGlobals "left_by" = some (some (.ref f25))) (l25 : K.lookup f25 = some ⟨oc25, od25, .func (PySem.W.fnOf "left_by" "left_by" (defArgs (topS 29)) (defBody (topS 29)) (defScope (topS 29)) .none kV25 dc25 pm25 an25 cd25 ct25), sl25⟩) (c25 : PySem.W.codeIn K cd25 "left_by" = true) (k25 : PySem.W.keepIn K (.ref f25) = true)
  {f26 : Addr} {oc26 kV26 dc26 pm26 cd26 ct26 : Value} {od26 an26 : Option Addr} {sl26 : Array (Option Value)} (a26 : PySem.W.nsIn K mainGlobals "ways_left" = some (some (.ref f26))) (l26 : K.lookup f26 = some ⟨oc26, od26, .func (PySem.W.fnOf "ways_left" "ways_left" (defArgs (topS 30)) (defBody (topS 30)) (defScope (topS 30)) .none kV26 dc26 pm26 an26 cd26 ct26), sl26⟩) (c26 : PySem.W.codeIn K cd26 "ways_left" = true) (k26 : PySem.W.keepIn K (.ref f26) = true)
  {f27 : Addr} {oc27 kV27 dc27 pm27 cd27 ct27 : Value} {od27 an27 : Option Addr} {sl27 : Array (Option Value)} (a27 : PySem.W.nsIn K mainGlobals "filled" = some (some (.ref f27))) (l27 : K.lookup f27 = some ⟨oc27, od27, .func (PySem.W.fnOf "filled" "filled" (defArgs (topS 31)) (defBody (topS 31)) (defScope (topS 31)) .none kV27 dc27 pm27 an27 cd27 ct27), sl27⟩) (c27 : PySem.W.codeIn K cd27 "filled" = true) (k27 : PySem.W.keepIn K (.ref f27) = true)
  {f28 : Addr} {oc28 kV28 dc28 pm28 cd28 ct28 : Value} {od28 an28 : Option Addr} {sl28 : Array (Option Value)} (a28 : PySem.W.nsIn K mainGlobals "chosen_from" = some (some (.ref f28))) (l28 : K.lookup f28 = some ⟨oc28, od28, .func (PySem.W.fnOf "chosen_from" "chosen_from" (defArgs (topS 32)) (defBody (topS 32)) (defScope (topS 32)) .none kV28 dc28 pm28 an28 cd28 ct28), sl28⟩) (c28 : PySem.W.codeIn K cd28 "chosen_from" = true) (k28 : PySem.W.keepIn K (.ref f28) = true)
  {f29 : Addr} {oc29 kV29 dc29 pm29 cd29 ct29 : Value} {od29 an29 : Option Addr} {sl29 : Array (Option Value)} (a29 : PySem.W.nsIn K mainGlobals "ways_apart" = some (some (.ref f29))) (l29 : K.lookup f29 = some ⟨oc29, od29, .func (PySem.W.fnOf "ways_apart" "ways_apart" (defArgs (topS 33)) (defBody (topS 33)) (defScope (topS 33)) .none kV29 dc29 pm29 an29 cd29 ct29), sl29⟩) (c29 : PySem.W.codeIn K cd29 "ways_apart" = true) (k29 : PySem.W.keepIn K (.ref f29) = true)
  {f30 : Addr} {oc30 kV30 dc30 pm30 cd30 ct30 : Value} {od30 an30 : Option Addr} {sl30 : Array (Option Value)} (a30 : PySem.W.nsIn K mainGlobals "first_row_apart" = some (some (.ref f30))) (l30 : K.lookup f30 = some ⟨oc30, od30, .func (PySem.W.fnOf "first_row_apart" "first_row_apart" (defArgs (topS 34)) (defBody (topS 34)) (defScope (topS 34)) .none kV30 dc30 pm30 an30 cd30 ct30), sl30⟩) (c30 : PySem.W.codeIn K cd30 "first_row_apart" = true) (k30 : PySem.W.keepIn K (.ref f30) = true)
  {f31 : Addr} {oc31 kV31 dc31 pm31 cd31 ct31 : Value} {od31 an31 : Option Addr} {sl31 : Array (Option Value)} (a31 : PySem.W.nsIn K mainGlobals "farthest_in" = some (some (.ref f31))) (l31 : K.lookup f31 = some ⟨oc31, od31, .func (PySem.W.fnOf "farthest_in" "farthest_in" (defArgs (topS 35)) (defBody (topS 35)) (defScope (topS 35)) .none kV31 dc31 pm31 an31 cd31 ct31), sl31⟩) (c31 : PySem.W.codeIn K cd31 "farthest_in" = true) (k31 : PySem.W.keepIn K (.ref f31) = true)
  {f32 : Addr} {oc32 kV32 dc32 pm32 cd32 ct32 : Value} {od32 an32 : Option Addr} {sl32 : Array (Option Value)} (a32 : PySem.W.nsIn K mainGlobals "season_rank" = some (some (.ref f32))) (l32 : K.lookup f32 = some ⟨oc32, od32, .func (PySem.W.fnOf "season_rank" "season_rank" (defArgs (topS 36)) (defBody (topS 36)) (defScope (topS 36)) .none kV32 dc32 pm32 an32 cd32 ct32), sl32⟩) (c32 : PySem.W.codeIn K cd32 "season_rank" = true) (k32 : PySem.W.keepIn K (.ref f32) = true)
  {f33 : Addr} {oc33 kV33 dc33 pm33 cd33 ct33 : Value} {od33 an33 : Option Addr} {sl33 : Array (Option Value)} (a33 : PySem.W.nsIn K mainGlobals "season_ranked" = some (some (.ref f33))) (l33 : K.lookup f33 = some ⟨oc33, od33, .func (PySem.W.fnOf "season_ranked" "season_ranked" (defArgs (topS 37)) (defBody (topS 37)) (defScope (topS 37)) .none kV33 dc33 pm33 an33 cd33 ct33), sl33⟩) (c33 : PySem.W.codeIn K cd33 "season_ranked" = true) (k33 : PySem.W.keepIn K (.ref f33) = true)
  {f34 : Addr} {oc34 kV34 dc34 pm34 cd34 ct34 : Value} {od34 an34 : Option Addr} {sl34 : Array (Option Value)} (a34 : PySem.W.nsIn K mainGlobals "following_season" = some (some (.ref f34))) (l34 : K.lookup f34 = some ⟨oc34, od34, .func (PySem.W.fnOf "following_season" "following_season" (defArgs (topS 38)) (defBody (topS 38)) (defScope (topS 38)) .none kV34 dc34 pm34 an34 cd34 ct34), sl34⟩) (c34 : PySem.W.codeIn K cd34 "following_season" = true) (k34 : PySem.W.keepIn K (.ref f34) = true)
  {f35 : Addr} {oc35 kV35 dc35 pm35 cd35 ct35 : Value} {od35 an35 : Option Addr} {sl35 : Array (Option Value)} (a35 : PySem.W.nsIn K mainGlobals "season_ahead" = some (some (.ref f35))) (l35 : K.lookup f35 = some ⟨oc35, od35, .func (PySem.W.fnOf "season_ahead" "season_ahead" (defArgs (topS 39)) (defBody (topS 39)) (defScope (topS 39)) .none kV35 dc35 pm35 an35 cd35 ct35), sl35⟩) (c35 : PySem.W.codeIn K cd35 "season_ahead" = true) (k35 : PySem.W.keepIn K (.ref f35) = true)
  {f36 : Addr} {oc36 kV36 dc36 pm36 cd36 ct36 : Value} {od36 an36 : Option Addr} {sl36 : Array (Option Value)} (a36 : PySem.W.nsIn K mainGlobals "last_season" = some (some (.ref f36))) (l36 : K.lookup f36 = some ⟨oc36, od36, .func (PySem.W.fnOf "last_season" "last_season" (defArgs (topS 40)) (defBody (topS 40)) (defScope (topS 40)) .none kV36 dc36 pm36 an36 cd36 ct36), sl36⟩) (c36 : PySem.W.codeIn K cd36 "last_season" = true) (k36 : PySem.W.keepIn K (.ref f36) = true)
  {f37 : Addr} {oc37 kV37 dc37 pm37 cd37 ct37 : Value} {od37 an37 : Option Addr} {sl37 : Array (Option Value)} (a37 : PySem.W.nsIn K mainGlobals "count_like" = some (some (.ref f37))) (l37 : K.lookup f37 = some ⟨oc37, od37, .func (PySem.W.fnOf "count_like" "count_like" (defArgs (topS 41)) (defBody (topS 41)) (defScope (topS 41)) .none kV37 dc37 pm37 an37 cd37 ct37), sl37⟩) (c37 : PySem.W.codeIn K cd37 "count_like" = true) (k37 : PySem.W.keepIn K (.ref f37) = true)
  {f38 : Addr} {oc38 kV38 dc38 pm38 cd38 ct38 : Value} {od38 an38 : Option Addr} {sl38 : Array (Option Value)} (a38 : PySem.W.nsIn K mainGlobals "first_like" = some (some (.ref f38))) (l38 : K.lookup f38 = some ⟨oc38, od38, .func (PySem.W.fnOf "first_like" "first_like" (defArgs (topS 42)) (defBody (topS 42)) (defScope (topS 42)) .none kV38 dc38 pm38 an38 cd38 ct38), sl38⟩) (c38 : PySem.W.codeIn K cd38 "first_like" = true) (k38 : PySem.W.keepIn K (.ref f38) = true)
  {f39 : Addr} {oc39 kV39 dc39 pm39 cd39 ct39 : Value} {od39 an39 : Option Addr} {sl39 : Array (Option Value)} (a39 : PySem.W.nsIn K mainGlobals "like_ranked" = some (some (.ref f39))) (l39 : K.lookup f39 = some ⟨oc39, od39, .func (PySem.W.fnOf "like_ranked" "like_ranked" (defArgs (topS 43)) (defBody (topS 43)) (defScope (topS 43)) .none kV39 dc39 pm39 an39 cd39 ct39), sl39⟩) (c39 : PySem.W.codeIn K cd39 "like_ranked" = true) (k39 : PySem.W.keepIn K (.ref f39) = true)
  {f40 : Addr} {oc40 kV40 dc40 pm40 cd40 ct40 : Value} {od40 an40 : Option Addr} {sl40 : Array (Option Value)} (a40 : PySem.W.nsIn K mainGlobals "apart_by" = some (some (.ref f40))) (l40 : K.lookup f40 = some ⟨oc40, od40, .func (PySem.W.fnOf "apart_by" "apart_by" (defArgs (topS 44)) (defBody (topS 44)) (defScope (topS 44)) .none kV40 dc40 pm40 an40 cd40 ct40), sl40⟩) (c40 : PySem.W.codeIn K cd40 "apart_by" = true) (k40 : PySem.W.keepIn K (.ref f40) = true)
  {f41 : Addr} {oc41 kV41 dc41 pm41 cd41 ct41 : Value} {od41 an41 : Option Addr} {sl41 : Array (Option Value)} (a41 : PySem.W.nsIn K mainGlobals "count_apart" = some (some (.ref f41))) (l41 : K.lookup f41 = some ⟨oc41, od41, .func (PySem.W.fnOf "count_apart" "count_apart" (defArgs (topS 45)) (defBody (topS 45)) (defScope (topS 45)) .none kV41 dc41 pm41 an41 cd41 ct41), sl41⟩) (c41 : PySem.W.codeIn K cd41 "count_apart" = true) (k41 : PySem.W.keepIn K (.ref f41) = true)
  {f42 : Addr} {oc42 kV42 dc42 pm42 cd42 ct42 : Value} {od42 an42 : Option Addr} {sl42 : Array (Option Value)} (a42 : PySem.W.nsIn K mainGlobals "counts_apart" = some (some (.ref f42))) (l42 : K.lookup f42 = some ⟨oc42, od42, .func (PySem.W.fnOf "counts_apart" "counts_apart" (defArgs (topS 46)) (defBody (topS 46)) (defScope (topS 46)) .none kV42 dc42 pm42 an42 cd42 ct42), sl42⟩) (c42 : PySem.W.codeIn K cd42 "counts_apart" = true) (k42 : PySem.W.keepIn K (.ref f42) = true)
  {f43 : Addr} {oc43 kV43 dc43 pm43 cd43 ct43 : Value} {od43 an43 : Option Addr} {sl43 : Array (Option Value)} (a43 : PySem.W.nsIn K mainGlobals "first_apart" = some (some (.ref f43))) (l43 : K.lookup f43 = some ⟨oc43, od43, .func (PySem.W.fnOf "first_apart" "first_apart" (defArgs (topS 47)) (defBody (topS 47)) (defScope (topS 47)) .none kV43 dc43 pm43 an43 cd43 ct43), sl43⟩) (c43 : PySem.W.codeIn K cd43 "first_apart" = true) (k43 : PySem.W.keepIn K (.ref f43) = true)
  {f44 : Addr} {oc44 kV44 dc44 pm44 cd44 ct44 : Value} {od44 an44 : Option Addr} {sl44 : Array (Option Value)} (a44 : PySem.W.nsIn K mainGlobals "farthest" = some (some (.ref f44))) (l44 : K.lookup f44 = some ⟨oc44, od44, .func (PySem.W.fnOf "farthest" "farthest" (defArgs (topS 48)) (defBody (topS 48)) (defScope (topS 48)) .none kV44 dc44 pm44 an44 cd44 ct44), sl44⟩) (c44 : PySem.W.codeIn K cd44 "farthest" = true) (k44 : PySem.W.keepIn K (.ref f44) = true)
  {f45 : Addr} {oc45 kV45 dc45 pm45 cd45 ct45 : Value} {od45 an45 : Option Addr} {sl45 : Array (Option Value)} (a45 : PySem.W.nsIn K mainGlobals "far_season" = some (some (.ref f45))) (l45 : K.lookup f45 = some ⟨oc45, od45, .func (PySem.W.fnOf "far_season" "far_season" (defArgs (topS 49)) (defBody (topS 49)) (defScope (topS 49)) .none kV45 dc45 pm45 an45 cd45 ct45), sl45⟩) (c45 : PySem.W.codeIn K cd45 "far_season" = true) (k45 : PySem.W.keepIn K (.ref f45) = true)
  {f46 : Addr} {oc46 kV46 dc46 pm46 cd46 ct46 : Value} {od46 an46 : Option Addr} {sl46 : Array (Option Value)} (a46 : PySem.W.nsIn K mainGlobals "is_far_season" = some (some (.ref f46))) (l46 : K.lookup f46 = some ⟨oc46, od46, .func (PySem.W.fnOf "is_far_season" "is_far_season" (defArgs (topS 50)) (defBody (topS 50)) (defScope (topS 50)) .none kV46 dc46 pm46 an46 cd46 ct46), sl46⟩) (c46 : PySem.W.codeIn K cd46 "is_far_season" = true) (k46 : PySem.W.keepIn K (.ref f46) = true)
  {f47 : Addr} {oc47 kV47 dc47 pm47 cd47 ct47 : Value} {od47 an47 : Option Addr} {sl47 : Array (Option Value)} (a47 : PySem.W.nsIn K mainGlobals "_law_cup" = some (some (.ref f47))) (l47 : K.lookup f47 = some ⟨oc47, od47, .func (PySem.W.fnOf "_law_cup" "_law_cup" (defArgs (topS 52)) (defBody (topS 52)) (defScope (topS 52)) .none kV47 dc47 pm47 an47 cd47 ct47), sl47⟩) (c47 : PySem.W.codeIn K cd47 "_law_cup" = true) (k47 : PySem.W.keepIn K (.ref f47) = true)
  {f48 : Addr} {oc48 kV48 dc48 pm48 cd48 ct48 : Value} {od48 an48 : Option Addr} {sl48 : Array (Option Value)} (a48 : PySem.W.nsIn K mainGlobals "_law_roll" = some (some (.ref f48))) (l48 : K.lookup f48 = some ⟨oc48, od48, .func (PySem.W.fnOf "_law_roll" "_law_roll" (defArgs (topS 53)) (defBody (topS 53)) (defScope (topS 53)) .none kV48 dc48 pm48 an48 cd48 ct48), sl48⟩) (c48 : PySem.W.codeIn K cd48 "_law_roll" = true) (k48 : PySem.W.keepIn K (.ref f48) = true)
  {f49 : Addr} {oc49 kV49 dc49 pm49 cd49 ct49 : Value} {od49 an49 : Option Addr} {sl49 : Array (Option Value)} (a49 : PySem.W.nsIn K mainGlobals "_law_word" = some (some (.ref f49))) (l49 : K.lookup f49 = some ⟨oc49, od49, .func (PySem.W.fnOf "_law_word" "_law_word" (defArgs (topS 54)) (defBody (topS 54)) (defScope (topS 54)) .none kV49 dc49 pm49 an49 cd49 ct49), sl49⟩) (c49 : PySem.W.codeIn K cd49 "_law_word" = true) (k49 : PySem.W.keepIn K (.ref f49) = true)
  {cc50 P50 : Addr} {ob50 : Obj} {f50 : Addr} {oc50 kV50 dc50 pm50  ct50 : Value} {od50 an50 : Option Addr} {sl50 : Array (Option Value)} (a50 : PySem.W.nsIn K mainGlobals "_law_season_words" = some (some (.ref f50))) (l50 : K.lookup f50 = some ⟨oc50, od50, .func (PySem.W.fnOf "_law_season_words" "_law_season_words" (defArgs (topS 55)) (defBody (topS 55)) (defScope (topS 55)) .none kV50 dc50 pm50 an50 (.ref cc50) ct50), sl50⟩) (c50 : PySem.W.codeIn K (.ref cc50) "_law_season_words" = true) (k50 : PySem.W.keepIn K (.ref f50) = true) (o50 : K.lookup cc50 = some ob50) (p50 : tabAt ob50 = some P50)
  {cc51 P51 : Addr} {ob51 : Obj} {f51 : Addr} {oc51 kV51 dc51 pm51  ct51 : Value} {od51 an51 : Option Addr} {sl51 : Array (Option Value)} (a51 : PySem.W.nsIn K mainGlobals "_law_league_words" = some (some (.ref f51))) (l51 : K.lookup f51 = some ⟨oc51, od51, .func (PySem.W.fnOf "_law_league_words" "_law_league_words" (defArgs (topS 56)) (defBody (topS 56)) (defScope (topS 56)) .none kV51 dc51 pm51 an51 (.ref cc51) ct51), sl51⟩) (c51 : PySem.W.codeIn K (.ref cc51) "_law_league_words" = true) (k51 : PySem.W.keepIn K (.ref f51) = true) (o51 : K.lookup cc51 = some ob51) (p51 : tabAt ob51 = some P51)
  {cc52 P52 : Addr} {ob52 : Obj} {f52 : Addr} {oc52 kV52 dc52 pm52  ct52 : Value} {od52 an52 : Option Addr} {sl52 : Array (Option Value)} (a52 : PySem.W.nsIn K mainGlobals "law" = some (some (.ref f52))) (l52 : K.lookup f52 = some ⟨oc52, od52, .func (PySem.W.fnOf "law" "law" (defArgs (topS 57)) (defBody (topS 57)) (defScope (topS 57)) .none kV52 dc52 pm52 an52 (.ref cc52) ct52), sl52⟩) (c52 : PySem.W.codeIn K (.ref cc52) "law" = true) (k52 : PySem.W.keepIn K (.ref f52) = true) (o52 : K.lookup cc52 = some ob52) (p52 : tabAt ob52 = some P52)
  (z0 : PySem.W.nsIn K mainGlobals "len" = some none)
  (z1 : PySem.W.nsIn K mainGlobals "sum" = some none)
  (z2 : PySem.W.nsIn K mainGlobals "all" = some none)
  (z3 : PySem.W.nsIn K mainGlobals "any" = some none)
  (z4 : PySem.W.nsIn K mainGlobals "max" = some none)
  (z5 : PySem.W.nsIn K mainGlobals "min" = some none)
  (z6 : PySem.W.nsIn K mainGlobals "abs" = some none)
  (z7 : PySem.W.nsIn K mainGlobals "int" = some none)
  (z8 : PySem.W.nsIn K mainGlobals "tuple" = some none)
  (z9 : PySem.W.nsIn K mainGlobals "list" = some none)
  (z10 : PySem.W.nsIn K mainGlobals "sorted" = some none)
  (z11 : PySem.W.nsIn K mainGlobals "range" = some none)
  (z12 : PySem.W.nsIn K mainGlobals "zip" = some none)
  (z13 : PySem.W.nsIn K mainGlobals "enumerate" = some none)
  (z14 : PySem.W.nsIn K mainGlobals "isinstance" = some none)
  (z15 : PySem.W.nsIn K mainGlobals "bool" = some none)
  (z16 : PySem.W.nsIn K mainGlobals "str" = some none)
  (z17 : PySem.W.nsIn K mainGlobals "ValueError" = some none) (hu : ∀ (P : Addr) (q : Str), (P, q) ∈ ([(P50, lamQ "_law_season_words"), (P51, lamQ "_law_league_words"), (P52, lamQ "law")] : List (Addr × Str)) → (([(P50, lamQ "_law_season_words"), (P51, lamQ "_law_league_words"), (P52, lamQ "law")] : List (Addr × Str)).all fun p => !(Nat.beq p.1 P) || p.2 == q) = true) :
  AllOk K mg (gsM ms) [(0, f0), (1, f1), (2, f2), (3, f3)] [(P50, lamQ "_law_season_words"), (P51, lamQ "_law_league_words"), (P52, lamQ "law")] [(cc50, P50), (cc51, P51), (cc52, P52)] ms ∧ ∀ x ∈ biNames, mg x = none := by
  refine ⟨⟨exc1 X G a0 rfl q0,
    exc1 X G a1 rfl q1,
    exc1 X G a2 rfl q2,
    exc1 X G a3 rfl q3,
    num1 X G a4,
    num1 X G a5,
    one X G a6 l6 c6 k6 bd_is_whole sc_is_whole rfl (fun h => Bool.noConfusion (show false = true from h)) lk_is_whole,
    one X G a7 l7 c7 k7 bd_is_tuple_of sc_is_tuple_of rfl (fun h => Bool.noConfusion (show false = true from h)) lk_is_tuple_of,
    one X G a8 l8 c8 k8 bd_is_rising sc_is_rising rfl (fun h => Bool.noConfusion (show false = true from h)) lk_is_rising,
    one X G a9 l9 c9 k9 bd_fits_league sc_fits_league rfl (fun h => Bool.noConfusion (show false = true from h)) lk_fits_league,
    one X G a10 l10 c10 k10 bd_need_league sc_need_league rfl (fun h => Bool.noConfusion (show false = true from h)) lk_need_league,
    one X G a11 l11 c11 k11 bd_teams_in sc_teams_in rfl (fun h => Bool.noConfusion (show false = true from h)) lk_teams_in,
    one X G a12 l12 c12 k12 bd_fits_season sc_fits_season rfl (fun h => Bool.noConfusion (show false = true from h)) lk_fits_season,
    one X G a13 l13 c13 k13 bd_need_season sc_need_season rfl (fun h => Bool.noConfusion (show false = true from h)) lk_need_season,
    one X G a14 l14 c14 k14 bd_place_of sc_place_of rfl (fun h => Bool.noConfusion (show false = true from h)) lk_place_of,
    one X G a15 l15 c15 k15 bd_season_by sc_season_by rfl (fun h => Bool.noConfusion (show false = true from h)) lk_season_by,
    one X G a16 l16 c16 k16 bd_product_to sc_product_to rfl (fun h => Bool.noConfusion (show false = true from h)) lk_product_to,
    one X G a17 l17 c17 k17 bd_shared_ways sc_shared_ways rfl (fun h => Bool.noConfusion (show false = true from h)) lk_shared_ways,
    one X G a18 l18 c18 k18 bd_divisions_in sc_divisions_in rfl (fun h => Bool.noConfusion (show false = true from h)) lk_divisions_in,
    one X G a19 l19 c19 k19 bd_need_pattern sc_need_pattern rfl (fun h => Bool.noConfusion (show false = true from h)) lk_need_pattern,
    one X G a20 l20 c20 k20 bd_need_below sc_need_below rfl (fun h => Bool.noConfusion (show false = true from h)) lk_need_below,
    one X G a21 l21 c21 k21 bd_need_both sc_need_both rfl (fun h => Bool.noConfusion (show false = true from h)) lk_need_both,
    one X G a22 l22 c22 k22 bd_rank_in sc_rank_in rfl (fun h => Bool.noConfusion (show false = true from h)) lk_rank_in,
    one X G a23 l23 c23 k23 bd_row_ranked sc_row_ranked rfl (fun h => Bool.noConfusion (show false = true from h)) lk_row_ranked,
    one X G a24 l24 c24 k24 bd_row_beside sc_row_beside rfl (fun h => Bool.noConfusion (show false = true from h)) lk_row_beside,
    one X G a25 l25 c25 k25 bd_left_by sc_left_by rfl (fun h => Bool.noConfusion (show false = true from h)) lk_left_by,
    one X G a26 l26 c26 k26 bd_ways_left sc_ways_left rfl (fun h => Bool.noConfusion (show false = true from h)) lk_ways_left,
    one X G a27 l27 c27 k27 bd_filled sc_filled rfl (fun h => Bool.noConfusion (show false = true from h)) lk_filled,
    one X G a28 l28 c28 k28 bd_chosen_from sc_chosen_from rfl (fun h => Bool.noConfusion (show false = true from h)) lk_chosen_from,
    one X G a29 l29 c29 k29 bd_ways_apart sc_ways_apart rfl (fun h => Bool.noConfusion (show false = true from h)) lk_ways_apart,
    one X G a30 l30 c30 k30 bd_first_row_apart sc_first_row_apart rfl (fun h => Bool.noConfusion (show false = true from h)) lk_first_row_apart,
    one X G a31 l31 c31 k31 bd_farthest_in sc_farthest_in rfl (fun h => Bool.noConfusion (show false = true from h)) lk_farthest_in,
    one X G a32 l32 c32 k32 bd_season_rank sc_season_rank rfl (fun h => Bool.noConfusion (show false = true from h)) lk_season_rank,
    one X G a33 l33 c33 k33 bd_season_ranked sc_season_ranked rfl (fun h => Bool.noConfusion (show false = true from h)) lk_season_ranked,
    one X G a34 l34 c34 k34 bd_following_season sc_following_season rfl (fun h => Bool.noConfusion (show false = true from h)) lk_following_season,
    one X G a35 l35 c35 k35 bd_season_ahead sc_season_ahead rfl (fun h => Bool.noConfusion (show false = true from h)) lk_season_ahead,
    one X G a36 l36 c36 k36 bd_last_season sc_last_season rfl (fun h => Bool.noConfusion (show false = true from h)) lk_last_season,
    one X G a37 l37 c37 k37 bd_count_like sc_count_like rfl (fun h => Bool.noConfusion (show false = true from h)) lk_count_like,
    one X G a38 l38 c38 k38 bd_first_like sc_first_like rfl (fun h => Bool.noConfusion (show false = true from h)) lk_first_like,
    one X G a39 l39 c39 k39 bd_like_ranked sc_like_ranked rfl (fun h => Bool.noConfusion (show false = true from h)) lk_like_ranked,
    one X G a40 l40 c40 k40 bd_apart_by sc_apart_by rfl (fun h => Bool.noConfusion (show false = true from h)) lk_apart_by,
    one X G a41 l41 c41 k41 bd_count_apart sc_count_apart rfl (fun h => Bool.noConfusion (show false = true from h)) lk_count_apart,
    one X G a42 l42 c42 k42 bd_counts_apart sc_counts_apart rfl (fun h => Bool.noConfusion (show false = true from h)) lk_counts_apart,
    one X G a43 l43 c43 k43 bd_first_apart sc_first_apart rfl (fun h => Bool.noConfusion (show false = true from h)) lk_first_apart,
    one X G a44 l44 c44 k44 bd_farthest sc_farthest rfl (fun h => Bool.noConfusion (show false = true from h)) lk_farthest,
    one X G a45 l45 c45 k45 bd_far_season sc_far_season rfl (fun h => Bool.noConfusion (show false = true from h)) lk_far_season,
    one X G a46 l46 c46 k46 bd_is_far_season sc_is_far_season rfl (fun h => Bool.noConfusion (show false = true from h)) lk_is_far_season,
    one X G a47 l47 c47 k47 bd__law_cup sc__law_cup rfl (fun h => Bool.noConfusion (show false = true from h)) lk__law_cup,
    one X G a48 l48 c48 k48 bd__law_roll sc__law_roll rfl (fun h => Bool.noConfusion (show false = true from h)) lk__law_roll,
    wd1 X G a49 l49 c49 k49 bd__law_word sc__law_word rfl lk__law_word,
    one X G a50 l50 c50 k50 bd__law_season_words sc__law_season_words rfl (fun _ => ⟨cc50, P50, rfl, by simp, by simp, uniq_of (hu P50 _ (by simp))⟩) lk__law_season_words,
    one X G a51 l51 c51 k51 bd__law_league_words sc__law_league_words rfl (fun _ => ⟨cc51, P51, rfl, by simp, by simp, uniq_of (hu P51 _ (by simp))⟩) lk__law_league_words,
    one X G a52 l52 c52 k52 bd_law sc_law rfl (fun _ => ⟨cc52, P52, rfl, by simp, by simp, uniq_of (hu P52 _ (by simp))⟩) lk_law, trivial⟩, fun x hx => ?_⟩
  unfold biNames at hx
  simp only [List.mem_cons, List.not_mem_nil, or_false] at hx
  rcases hx with h | h | h | h | h | h | h | h | h | h | h | h | h | h | h | h | h | h <;> (rw [h]; first | exact PySem.W.mg_none_of X G z0 | exact PySem.W.mg_none_of X G z1 | exact PySem.W.mg_none_of X G z2 | exact PySem.W.mg_none_of X G z3 | exact PySem.W.mg_none_of X G z4 | exact PySem.W.mg_none_of X G z5 | exact PySem.W.mg_none_of X G z6 | exact PySem.W.mg_none_of X G z7 | exact PySem.W.mg_none_of X G z8 | exact PySem.W.mg_none_of X G z9 | exact PySem.W.mg_none_of X G z10 | exact PySem.W.mg_none_of X G z11 | exact PySem.W.mg_none_of X G z12 | exact PySem.W.mg_none_of X G z13 | exact PySem.W.mg_none_of X G z14 | exact PySem.W.mg_none_of X G z15 | exact PySem.W.mg_none_of X G z16 | exact PySem.W.mg_none_of X G z17)
end Fx
open PySem PySem.W PyProof.Rows
set_option maxHeartbeats 0 in
theorem PySem.Challenge.cw_leaguesettled_k73_whole_errors_of_orders_holds : PySem.Challenge.rw_leaguesettled_k73_whole_errors_of_orders.Holds := by
  w_on; o_law; k_head; (case hw => w_witness2)
  k_fill
  refine LamX.walk_ofTs (l := PySem.Challenge.rw_leaguesettled_k73_whole_errors_of_orders) (n := 63) (k := 3 * 20) (x := "script") (CX := fun w => L2N.CX PySem.Challenge.rw_leaguesettled_k73_whole_errors_of_orders.prog w) rfl (by decide) rfl ⟨rfl, by decide, by decide⟩ (fun w h Y => PySem.W.km_in_of Y) ?F (fun _ _ _ _ _ ⟨_, _, _, _, _, _, _, _, _, _, _, _, h⟩ => h)
  case F =>
    intro w mg fa h Y KX G hmg
    obtain ⟨A, hb⟩ := by
      refine' Fx.all_ok KX G ?a0 ?q0 ?a1 ?q1 ?a2 ?q2 ?a3 ?q3 ?a4 ?a5 ?a6 ?l6 ?c6 ?k6 ?a7 ?l7 ?c7 ?k7 ?a8 ?l8 ?c8 ?k8 ?a9 ?l9 ?c9 ?k9 ?a10 ?l10 ?c10 ?k10 ?a11 ?l11 ?c11 ?k11 ?a12 ?l12 ?c12 ?k12 ?a13 ?l13 ?c13 ?k13 ?a14 ?l14 ?c14 ?k14 ?a15 ?l15 ?c15 ?k15 ?a16 ?l16 ?c16 ?k16 ?a17 ?l17 ?c17 ?k17 ?a18 ?l18 ?c18 ?k18 ?a19 ?l19 ?c19 ?k19 ?a20 ?l20 ?c20 ?k20 ?a21 ?l21 ?c21 ?k21 ?a22 ?l22 ?c22 ?k22 ?a23 ?l23 ?c23 ?k23 ?a24 ?l24 ?c24 ?k24 ?a25 ?l25 ?c25 ?k25 ?a26 ?l26 ?c26 ?k26 ?a27 ?l27 ?c27 ?k27 ?a28 ?l28 ?c28 ?k28 ?a29 ?l29 ?c29 ?k29 ?a30 ?l30 ?c30 ?k30 ?a31 ?l31 ?c31 ?k31 ?a32 ?l32 ?c32 ?k32 ?a33 ?l33 ?c33 ?k33 ?a34 ?l34 ?c34 ?k34 ?a35 ?l35 ?c35 ?k35 ?a36 ?l36 ?c36 ?k36 ?a37 ?l37 ?c37 ?k37 ?a38 ?l38 ?c38 ?k38 ?a39 ?l39 ?c39 ?k39 ?a40 ?l40 ?c40 ?k40 ?a41 ?l41 ?c41 ?k41 ?a42 ?l42 ?c42 ?k42 ?a43 ?l43 ?c43 ?k43 ?a44 ?l44 ?c44 ?k44 ?a45 ?l45 ?c45 ?k45 ?a46 ?l46 ?c46 ?k46 ?a47 ?l47 ?c47 ?k47 ?a48 ?l48 ?c48 ?k48 ?a49 ?l49 ?c49 ?k49 ?a50 ?l50 ?c50 ?k50 ?o50 ?p50 ?a51 ?l51 ?c51 ?k51 ?o51 ?p51 ?a52 ?l52 ?c52 ?k52 ?o52 ?p52 ?z0 ?z1 ?z2 ?z3 ?z4 ?z5 ?z6 ?z7 ?z8 ?z9 ?z10 ?z11 ?z12 ?z13 ?z14 ?z15 ?z16 ?z17 ?hu
      (case a0 => k_is); (case q0 => kernel_rfl); (case a1 => k_is); (case q1 => kernel_rfl); (case a2 => k_is); (case q2 => kernel_rfl); (case a3 => k_is); (case q3 => kernel_rfl); (case a4 => k_is); (case a5 => k_is); (case a6 => k_is); (case l6 => k_is); (case c6 => k_is); (case k6 => k_is); (case a7 => k_is); (case l7 => k_is); (case c7 => k_is); (case k7 => k_is); (case a8 => k_is); (case l8 => k_is); (case c8 => k_is); (case k8 => k_is); (case a9 => k_is); (case l9 => k_is); (case c9 => k_is); (case k9 => k_is); (case a10 => k_is); (case l10 => k_is); (case c10 => k_is); (case k10 => k_is); (case a11 => k_is); (case l11 => k_is); (case c11 => k_is); (case k11 => k_is); (case a12 => k_is); (case l12 => k_is); (case c12 => k_is); (case k12 => k_is); (case a13 => k_is); (case l13 => k_is); (case c13 => k_is); (case k13 => k_is); (case a14 => k_is); (case l14 => k_is); (case c14 => k_is); (case k14 => k_is); (case a15 => k_is); (case l15 => k_is); (case c15 => k_is); (case k15 => k_is); (case a16 => k_is); (case l16 => k_is); (case c16 => k_is); (case k16 => k_is); (case a17 => k_is); (case l17 => k_is); (case c17 => k_is); (case k17 => k_is); (case a18 => k_is); (case l18 => k_is); (case c18 => k_is); (case k18 => k_is); (case a19 => k_is); (case l19 => k_is); (case c19 => k_is); (case k19 => k_is); (case a20 => k_is); (case l20 => k_is); (case c20 => k_is); (case k20 => k_is); (case a21 => k_is); (case l21 => k_is); (case c21 => k_is); (case k21 => k_is); (case a22 => k_is); (case l22 => k_is); (case c22 => k_is); (case k22 => k_is); (case a23 => k_is); (case l23 => k_is); (case c23 => k_is); (case k23 => k_is); (case a24 => k_is); (case l24 => k_is); (case c24 => k_is); (case k24 => k_is); (case a25 => k_is); (case l25 => k_is); (case c25 => k_is); (case k25 => k_is); (case a26 => k_is); (case l26 => k_is); (case c26 => k_is); (case k26 => k_is); (case a27 => k_is); (case l27 => k_is); (case c27 => k_is); (case k27 => k_is); (case a28 => k_is); (case l28 => k_is); (case c28 => k_is); (case k28 => k_is); (case a29 => k_is); (case l29 => k_is); (case c29 => k_is); (case k29 => k_is); (case a30 => k_is); (case l30 => k_is); (case c30 => k_is); (case k30 => k_is); (case a31 => k_is); (case l31 => k_is); (case c31 => k_is); (case k31 => k_is); (case a32 => k_is); (case l32 => k_is); (case c32 => k_is); (case k32 => k_is); (case a33 => k_is); (case l33 => k_is); (case c33 => k_is); (case k33 => k_is); (case a34 => k_is); (case l34 => k_is); (case c34 => k_is); (case k34 => k_is); (case a35 => k_is); (case l35 => k_is); (case c35 => k_is); (case k35 => k_is); (case a36 => k_is); (case l36 => k_is); (case c36 => k_is); (case k36 => k_is); (case a37 => k_is); (case l37 => k_is); (case c37 => k_is); (case k37 => k_is); (case a38 => k_is); (case l38 => k_is); (case c38 => k_is); (case k38 => k_is); (case a39 => k_is); (case l39 => k_is); (case c39 => k_is); (case k39 => k_is); (case a40 => k_is); (case l40 => k_is); (case c40 => k_is); (case k40 => k_is); (case a41 => k_is); (case l41 => k_is); (case c41 => k_is); (case k41 => k_is); (case a42 => k_is); (case l42 => k_is); (case c42 => k_is); (case k42 => k_is); (case a43 => k_is); (case l43 => k_is); (case c43 => k_is); (case k43 => k_is); (case a44 => k_is); (case l44 => k_is); (case c44 => k_is); (case k44 => k_is); (case a45 => k_is); (case l45 => k_is); (case c45 => k_is); (case k45 => k_is); (case a46 => k_is); (case l46 => k_is); (case c46 => k_is); (case k46 => k_is); (case a47 => k_is); (case l47 => k_is); (case c47 => k_is); (case k47 => k_is); (case a48 => k_is); (case l48 => k_is); (case c48 => k_is); (case k48 => k_is); (case a49 => k_is); (case l49 => k_is); (case c49 => k_is); (case k49 => k_is); (case a50 => k_is); (case l50 => k_is); (case c50 => k_is); (case k50 => k_is); (case o50 => k_is); (case p50 => exact rfl); (case a51 => k_is); (case l51 => k_is); (case c51 => k_is); (case k51 => k_is); (case o51 => k_is); (case p51 => exact rfl); (case a52 => k_is); (case l52 => k_is); (case c52 => k_is); (case k52 => k_is); (case o52 => k_is); (case p52 => exact rfl); (case z0 => k_is); (case z1 => k_is); (case z2 => k_is); (case z3 => k_is); (case z4 => k_is); (case z5 => k_is); (case z6 => k_is); (case z7 => k_is); (case z8 => k_is); (case z9 => k_is); (case z10 => k_is); (case z11 => k_is); (case z12 => k_is); (case z13 => k_is); (case z14 => k_is); (case z15 => k_is); (case z16 => k_is); (case z17 => k_is); (case hu => exact Fx.hu_of (by kernel_rfl))
    refine Fx.law_at A (by kernel_rfl) (by kernel_rfl) hb (g := 52) (d := Fx.d_law) rfl rfl rfl hmg Fx.law_run rfl ?h1 ?h2 ?h3
    case h1 => exact List.forall_mem_cons.mpr ⟨PySem.W.km_tabs_of Y _ (by k_mem), List.forall_mem_cons.mpr ⟨PySem.W.km_tabs_of Y _ (by k_mem), List.forall_mem_cons.mpr ⟨PySem.W.km_tabs_of Y _ (by k_mem), fun _ h => (nomatch h)⟩⟩⟩
    case h2 => exact List.forall_mem_cons.mpr ⟨by kernel_rfl, List.forall_mem_cons.mpr ⟨by kernel_rfl, List.forall_mem_cons.mpr ⟨by kernel_rfl, fun _ h => (nomatch h)⟩⟩⟩
    case h3 => exact List.forall_mem_cons.mpr ⟨PySem.W.codeHd_of_K KX (by kernel_rfl), List.forall_mem_cons.mpr ⟨PySem.W.codeHd_of_K KX (by kernel_rfl), List.forall_mem_cons.mpr ⟨PySem.W.codeHd_of_K KX (by kernel_rfl), fun _ h => (nomatch h)⟩⟩⟩
