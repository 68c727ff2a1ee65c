import PyProof.Rows.All
import Wide.All
import OpenK.AllK
import Wide.FinOn
import HandS.TupAny
import HandS.Strs
import HandS.Zip
import HandS.Iter
import HandS.TupMul
import HandS.List
import KE.GoesMore
import KE.GoesEnum
import HandS.SortInts
import HandS.TupSets
import HandS.SetFor
import PyProof.TupleOfSeq
import HandS.Base
import HandS.Call
import HandS.Exc
import KE.KExcSuper
import HandS.ExcInit
import HandS.ExcSuper
import HandS.HeadHook1
import HandS.ExcIs
import HandS.ExcField
import KE.KExcIs
import HandS.ForMost
import HandS.ForExc
import HandS.Deep
import HandS.Gcd
import HandS.IsInst
import HandS.Conv
import HandS.CallLocal
import HandS.CallSlots
import HandS.NoneIn
import HandS.Rev
import HandS.Style
import HandS.Walk
import HandS.More
import HandS.TupLe
import HandS.RaiseMore
import HandS.DictComp
import HandS.DictSubView0
import PyProof.CollectIter
import PyProof.ListRange
import PyProof.ZipIter
import HandS.WordsDict
import KE.KDictSum
import HandS.SortRule
import KE.DataMinMax
import KE.SortData
import KE.KeyNested
import HandS.Text
import HandS.HeadEnd
import HandS.HeadHook2
import HandS.EndBits
import HandS.Head0
import HandS.Head1
import HandS.Head2
import HandS.HeadHook3
import PySem.Challenge.RW_rimohms_k40_errors_are_kin
section
set_option Elab.async false
set_option linter.all false
set_option maxRecDepth 100000
set_option maxHeartbeats 4000000
/-! TuB: tuples that are known to have no dict, for the hand layer -/
namespace Mi
open PySem PySem.Spec PyProof.Rows L2
def SqB (K : PySem.W.Frag) (H : Hp) (a : Addr) (vs : List V) : Prop := (∃ o : PySem.Obj, H a = some (.frz o (.tup vs)) ∧ o.dict = none) ∨
  ∃ (o : PySem.Obj) (its : Array Value) (n : Nat), K.lookup a = some o ∧ o.cls = .type "tuple" ∧ o.data = .seq its n ∧ its.size ≤ sizeLine ∧ Vals vs its.toList ∧ o.dict = none
theorem SqB.t {K : PySem.W.Frag} {H : Hp} {a : Addr} {vs : List V} (s : SqB K H a vs) : SqT K H a vs := by
  rcases s with ⟨o, h, _⟩ | ⟨o, its, n, h1, h2, h3, h4, h5, _⟩
  · exact .inl (.inr ⟨o, h⟩)
  · exact .inr ⟨o, its, n, h1, h2, h3, h4, h5⟩
/-- a new tuple, as the machine makes it -/
abbrev tupO (its : List Value) : PySem.Obj := { cls := .type "tuple", data := .seq its.toArray }
section
variable {X : Cx} {pins : List (Addr × PySem.Obj)} {σ : L2.St} {H : Hp} {s : Shared}
theorem SqB.bare {a : Addr} {vs : List V} (I : Inv X pins σ H s) (b : SqB X.K H a vs) : ∃ o, s.heap.get? a = some o ∧ o.dict = none := by
  rcases b with ⟨o, h, d⟩ | ⟨o, its, n, h1, h2, h3, h4, h5, d⟩
  · exact ⟨o, (show ObjOk X.prog X.w H s.heap a (.frz o (.tup vs)) from I.hok a _ h).1, d⟩
  · exact ⟨o, I.kIn a o h1, d⟩
theorem layB {a : Addr} {vs : List V} {its : List Value} {h' : Heap} {tk : Nat} (I : Inv X pins σ H s) (k : ∀ b u, s.heap.get? b = some u → h'.get? b = some u) (hp : s.heap.objs.size ≤ a) (g : h'.get? a = some (tupO its)) (r : Vals vs its) (hz : vs.length ≤ sizeLine) :
    Inv X pins σ (upd H a (.frz (tupO its) (.tup vs))) { s with heap := h', toks := tk } :=
  I.laid k hp ⟨g, hz, its, r, ⟨_, g, rfl, _, rfl⟩⟩
end
/-- whatever new tuple comes -/
def NewB (H : Hp) (vs : List V) (Q : VK) : Prop := ∀ (p : Addr) (o : PySem.Obj), H p = none → o.dict = none → Q (.ref p) (upd H p (.frz o (.tup vs)))
section
variable {X : Cx} {es : List Expr} {t : TA} {pos : Pos}
def tTupB (t : TA) : TE := fun σ H Q => t σ H fun xs H1 => xs.length ≤ sizeLine ∧ NewB H1 xs Q
theorem peTupB {k : Nat} (ha : PA X es t) : PE X (.Tuple es k pos) (tTupB t) :=
  ⟨fun pins s σ H Q I q => wpAny_Tuple_spliced (thn (ha.run pos pins s σ H _ I q) fun us s1 ⟨xs, H1, I1, r, z, n⟩ => ⟨by rw [← r.length]; exact z,
    .ref s1.heap.objs.size, _, layB (tk := s1.toks) I1 (fun b u e => Heap.get?_push_of_some _ e) (Nat.le_refl _) (Heap.get?_push_size _ rfl) r z, rfl, n _ _ (I1.hok.fresh (Nat.le_refl _)) rfl⟩)⟩
def rCatB (K : PySem.W.Frag) : R2 := fun x y H Q => ∃ a b xs ys, x = .ref a ∧ y = .ref b ∧ SqT K H a xs ∧ SqT K H b ys ∧ xs.length + ys.length ≤ sizeLine ∧
  (xs = [] → Q (.ref b) H) ∧ (xs ≠ [] → ys = [] → Q (.ref a) H) ∧ NewB H (xs ++ ys) Q
theorem opCatB : OpR X (binaryOp .Add) (rCatB X.K) := by
  intro pins s σ H x y v u Q I rx ry h
  obtain ⟨a, b, xs, ys, rfl, rfl, ha, hb, hz, q0, q1, q2⟩ := h
  cases rx
  cases ry
  obtain ⟨its, r1, p1, _⟩ := I.tuple ha
  obtain ⟨jts, r2, p2, _⟩ := I.tuple hb
  by_cases hx : xs = []
  · subst hx
    cases r1
    exact cat_tup0 p1 p2 ⟨.ref b, H, I, rfl, q0 rfl⟩
  · exact HT.cat_tup p1 p2 (fun z => hx (r1.nil_iff.mp z)) (fun z => ⟨.ref a, H, I, rfl, q1 hx (r2.nil_iff.mp z)⟩) (fun z =>
      ⟨.ref s.heap.objs.size, _, layB (tk := s.toks) I (fun b ob q => Heap.get?_push_of_some _ q) (Nat.le_refl _) (Heap.get?_push_size _ rfl) (r1.append r2) (by rw [List.length_append]; exact hz), rfl, q2 _ _ (I.hok.fresh (Nat.le_refl _)) rfl⟩) (by rw [← r1.length, ← r2.length]; exact hz)
def rSlB (K : PySem.W.Frag) : V → Option Int → Option Int → Hp → VK → Prop := fun x lo hi H Q => ∃ a xs, x = .ref a ∧ SqT K H a xs ∧
  (HT.sIx xs.length 0 lo = 0 ∧ HT.sIx xs.length xs.length hi = xs.length → Q (.ref a) H) ∧ NewB H (cutV xs lo hi) Q
theorem slB : SlR X (rSlB X.K) := by
  intro pins s σ H x v vl vu lo hi sl Q I rx hs pl pu h
  obtain ⟨a, xs, rfl, hx, q1, q2⟩ := h
  cases rx
  obtain ⟨its, r, ht, hz⟩ := I.tuple hx
  have ln : its.toArray.size = xs.length := by rw [List.size_toArray]; exact r.length.symm
  refine ⟨"tuple", _, PyProof.Rows.slot_tuple_getitem.lookup, ht.typeIs, ?_⟩
  by_cases hw : HT.sIx xs.length 0 lo = 0 ∧ HT.sIx xs.length xs.length hi = xs.length
  · exact getItem_tuple_whole ht hs pl pu (by rw [ln]; exact hw) ⟨.ref a, H, I, rfl, q1 hw⟩
  · refine HT.getItem_tuple_cut ht hs pl pu (by rw [ln]; exact hw) ?_ (by rw [ln]; exact hz)
    rw [ln]
    exact ⟨.ref s.heap.objs.size, _, layB (tk := s.toks) I (fun b ob q => Heap.get?_push_of_some _ q) (Nat.le_refl _) (Heap.get?_push_size _ rfl) ((r.drop (HT.sIx xs.length 0 lo)).take (HT.sIx xs.length xs.length hi - HT.sIx xs.length 0 lo)) (Nat.le_trans (cutV_length xs lo hi) hz), rfl, q2 _ _ (I.hok.fresh (Nat.le_refl _)) rfl⟩
def rTupB (K : PySem.W.Frag) : List V → Hp → VK → Prop := fun xs H Q => ∃ p ys, xs = [.ref p] ∧ ((SqL K H p ys ∧ NewB H ys Q) ∨ (SqT K H p ys ∧ Q (.ref p) H))
theorem clTupB : CallR X (.type "tuple") (rTupB X.K) := by
  intro pins s σ H xs us Q I r h
  obtain ⟨p, ys, rfl, h⟩ := h
  obtain ⟨u, rfl, rx⟩ := vals1 r
  cases rx
  rcases h with ⟨hq, q⟩ | ⟨hq, q⟩
  · obtain ⟨its, r', pl, hz⟩ := I.list hq
    refine call_tuple_list pl.isList (fun h' kp => ?_) (by have := r'.length; simp only [List.size_toArray] <;> omega)
    have I1 : Inv X pins σ H { s with heap := h' } := I.kept (t' := s.toks) kp
    have I2 : Inv X pins σ (upd H h'.objs.size (.frz (tupO its) (.tup ys))) { s with heap := h'.push (tupO its) } := layB (s := { s with heap := h' }) (h' := h'.push (tupO its)) (tk := s.toks) I1 (fun b o e => Heap.get?_push_of_some _ e) (Nat.le_refl _) (Heap.get?_push_size _ rfl) r' hz
    exact ⟨.ref h'.objs.size, _, I2, rfl, q _ _ (I1.hok.fresh (Nat.le_refl _)) rfl⟩
  · obtain ⟨its, r', pl, _⟩ := I.tuple hq
    exact call_tuple_same pl ⟨.ref p, H, I, rfl, q⟩
end
/-! ### a method of such a tuple -/
section
variable {X : Cx} {o e : Expr} {es : List Expr} {to : TE} {t : TA} {name : Str} {apos cpos : Pos} {id : String} {r : V → List V → Hp → VK → Prop}
def tMB (K : PySem.W.Frag) (r : V → List V → Hp → VK → Prop) (to : TE) (t : TA) : TE := fun σ H Q => to σ H fun x H1 => (∃ a vs, x = .ref a ∧ SqB K H1 a vs) ∧ t σ H1 fun xs H2 => r x xs H2 Q
theorem peMB (slot : Slot "tuple" name id) (hty : typeOf (.builtin id) = pure (.type "method_descriptor")) (hm : MtR X id r) (ho : PE X o to) (ha : PA X (e :: es) t)
    (hbase : attributeBase o name X.env (eval o X.env) = eval o X.env)
    (hfew : ((backTo cpos (starEach (e :: es) X.env)).all (fun x => !x.1) && (backToKw cpos (keywordEach [] X.env)).all (fun x => x.1.isSome)
      && decide ((e :: es).length + ([] : List Keyword).length + (if ([] : List Keyword).isEmpty then 0 else 1) < 30)) = true)
    (hline : (apos.endLine == cpos.line) = true) (hs : starEach (e :: es) X.env = (false, eval e X.env) :: starEach es X.env) (hplain : (backTo cpos (starEach es X.env)).any (·.1) = false) :
    PE X (.Call (.Attribute o name apos) (e :: es) [] cpos) (tMB X.K r to t) := by
  refine ⟨fun pins s σ H Q I h => wpAny_Call_method_late hbase hfew hline rfl (thn (ho.run pins s σ H _ I h) fun v s1 ⟨x, H1, I1, r1, ⟨a, vs, ex, sb⟩, q1⟩ => ?_)⟩
  subst ex
  cases r1
  obtain ⟨its, _, ⟨ot, ht, hc, _⟩, _⟩ := I1.tuple sb.t
  refine ⟨"tuple", id, PySem.F.plainAttrs_tuple, slot, hty, ⟨ot, ht, hc⟩, fun b eb => by cases eb; exact sb.bare I1, ?_⟩
  have hA := ha.run cpos pins s1 σ H1 _ I1 q1
  rw [hs] at hA ⊢
  exact Calls.callWith_builtin (by show (false || (backTo cpos (starEach es X.env)).any (·.1)) = false; rw [hplain] <;> rfl) (Calls.evalArgs_plain (thn hA fun us s2 ⟨xs, H2, I2, r2, q2⟩ => hm pins s2 σ H2 (.ref a) xs _ us Q I2 rfl r2 q2))
end
end Mi
end

section
set_option Elab.async false
set_option linter.all false
set_option maxRecDepth 100000
set_option maxHeartbeats 4000000
/-! TuR: tuples many times over; a list extended by a tuple -/
namespace Mi
open PySem PySem.Spec PyProof.Rows L2
section
variable {X : Cx}
def rRepB (K : PySem.W.Frag) : R2 := fun x y H Q => ∃ l k xs, x = .ref l ∧ y = .int k ∧ SqT K H l xs ∧ xs ≠ [] ∧ 2 ≤ k ∧ k ≤ 1000 ∧ xs.length ≤ 1000 ∧ NewB H (List.replicate k.toNat xs).flatten Q
theorem rep_bnd {a : Nat} {k : Int} (h1 : 2 ≤ k) (h2 : k ≤ 1000) (h3 : a ≤ 1000) : ((a : Nat) : Int) * k ≤ 1000000 ∧ k.toNat * a ≤ 1000000 := by
  have z1 : ((a : Nat) : Int) * k ≤ 1000 * k := Int.mul_le_mul_of_nonneg_right (by omega) (by omega)
  have z2 : k.toNat * a ≤ 1000 * 1000 := Nat.mul_le_mul (by omega) h3
  exact ⟨by omega, z2⟩
theorem opRepB : OpR X (binaryOp .Mult) (rRepB X.K) := by
  intro pins s σ H x y v u Q I rx ry h
  obtain ⟨l, k, xs, rfl, rfl, hT, hne, k1, k2, hz, q⟩ := h
  cases rx
  obtain ⟨tk, rfl⟩ := ry
  obtain ⟨its, r, ⟨⟨cl, dd, da, sl⟩, ho, hc, n, hd⟩, _⟩ := I.tuple hT
  simp only at hc hd
  subst hc
  subst hd
  have le : its.length = xs.length := r.length.symm
  have emp : its.toArray.isEmpty = false := by
    cases its with
    | nil => exact absurd (List.eq_nil_of_length_eq_zero le.symm) hne
    | cons _ _ => rfl
  have sz : its.toArray.size = xs.length := by rw [List.size_toArray, le]
  obtain ⟨b1, b2⟩ := rep_bnd (a := xs.length) k1 k2 hz
  have fl : (List.replicate k.toNat its).flatten.length ≤ sizeLine := by
    rw [lm_len_rep_flat, le, sizeLine_eq]; omega
  have big : ¬ ((its.toArray.size : Nat) : Int) * k > (2 ^ 63 - 1) / 8 := by rw [sz]; omega
  have too : Builtin.Tuple.tupleTooMany (((its.toArray.size : Nat) : Int) * k) = false := by
    rw [sz]
    unfold Builtin.Tuple.tupleTooMany
    rw [sizeLine_eq]; exact decide_eq_false (by omega)
  have g0 : (decide (k < -(2 ^ 63)) || decide (k ≥ 2 ^ 63)) = false := by
    have x1 : ¬ (k < -(2 ^ 63)) := by omega
    have x2 : ¬ (k ≥ 2 ^ 63) := by omega
    rw [decide_eq_false x1, decide_eq_false x2] <;> rfl
  have g1 : (its.toArray.isEmpty || k == 1) = false := by
    rw [emp, Bool.false_or]; exact beq_eq_false_iff_ne.mpr (by omega)
  have g2 : (decide (k ≤ 0) || its.toArray.isEmpty) = false := by
    rw [emp, Bool.or_false]; exact decide_eq_false (by omega)
  have fin : wpAny (model X.prog X.w) X.A (binaryOp .Mult (.ref l) (.int k tk)) (EP X pins σ Q) X.xe s := by
    refine wpAny_binaryOp_repeat_ref (U := "int") (T := "tuple") (by decide) ⟨_, ho, rfl⟩ (fun z => typeIs_int z k tk)
      noFill_tuple_mul F.fills_int_mul F.slot_int_rmul repeat_tuple F.slot_int_index.lookup ?_
    refine call_meets F.slot_int_rmul (typeIs_int s k tk) F.entry_int_rmul (F.args_int_rmul_2 _ _) (int_rmul_tuple k tk l its.toArray n dd sl) ?_
    refine ⟨ho, rfl, ⟨_, ho, rfl⟩, call_meets F.slot_tuple_mul ⟨_, ho, rfl⟩ F.entry_tuple_mul (F.args_tuple_mul_2 _ _) (tuple_mulW l its.toArray n dd sl k tk g0 g1 g2 big too ?_) ⟨ho, ?_⟩⟩
    · rw [size_rep, List.size_toArray]; exact fl
    · rw [size_rep]
      exact ⟨.ref s.heap.objs.size, _, layB (tk := s.toks) I (fun b u e => Heap.get?_push_of_some _ e) (Nat.le_refl _) (Heap.get?_push_size _ rfl) (r.rep k.toNat) (by rw [lm_len_rep_flat, sizeLine_eq]; omega), rfl, q _ _ (I.hok.fresh (Nat.le_refl _)) rfl⟩
  exact fin
/-! ### extend -/
theorem ext_tuple (l : Addr) (its : Array Value) (n : Nat) (b : Addr) (jts : Array Value) (m : Nat) (h0 : ¬ (!its.isEmpty && Builtin.List.listTooLong (its.size + jts.size)) = true) (h1 : its.size ≤ sizeLine) (h2 : its.size + jts.size ≤ sizeLine) :
    Meets (Builtin.«list.extend» ⟨[.ref l, .ref b], []⟩) (fun _ R s => s.heap.get? l = some { cls := .type "list", dict := none, data := .seq its n, slots := #[] } ∧ (∃ o, s.heap.get? b = some o ∧ o.cls = .type "tuple" ∧ o.data = .seq jts m) ∧
      R (.ok (.ret Value.none)) { s with heap := s.heap.update l (Obj.mapSeq fun x => x ++ jts) }) :=
  .of_wp fun prog w A R s h => by
    obtain ⟨hl, ⟨o, ho, hc, hd⟩, h⟩ := h
    have tt : (Builtin.List.listSameRef (.ref l) (.ref b) || Value.type "tuple" == Value.type "list" || Value.type "tuple" == Value.type "tuple") = true := by simp
    show wpAny _ _ (Builtin.List.listExtendWith (.ref l) (.ref b) .none) _ _ s
    unfold Builtin.List.listExtendWith
    refine wpAny_bind (wpAny_typeOf ⟨o, ho, hc⟩ ?_)
    rw [tt]
    show wpAny _ _ (Builtin.List.listItems (.ref b) >>= _) _ _ s
    refine wpAny_bind ?_
    unfold Builtin.List.listItems
    refine wpAny_bind (wpAny_seqItems ho hd (wpAny_pure ?_))
    refine wpAny_bind (wpAny_bind (wpAny_seqItems hl rfl (wpAny_pure ?_)))
    dsimp only
    rw [if_neg h0]
    show wpAny _ _ (updateSeq l (fun x => x ++ jts) >>= fun _ => ret Value.none) _ _ s
    refine wpAny_bind (wpAny_updateSeq hl rfl ?_ h1 (by rw [Array.size_append]; omega))
    exact wpAny_pure ⟨_, rfl, h⟩
def rExtT (K : PySem.W.Frag) : V → List V → Hp → VK → Prop := fun x vs H Q => ∃ l b xs zs, x = .ref l ∧ vs = [.ref b] ∧ H l = some (.lst xs) ∧ SqT K H b zs ∧ xs.length + zs.length ≤ sizeLine ∧ Q .non (upd H l (.lst (xs ++ zs)))
theorem mtExtT : MtM X "list.extend" (rExtT X.K) := by
  intro pins s σ H x vs v us Q I rx rv h
  obtain ⟨l, b, xs, zs, rfl, rfl, eH, sq, hz, q⟩ := h
  cases rx
  obtain ⟨u, rfl, ru⟩ := rv.one
  cases ru
  obtain ⟨z, its, n, r, hl, e⟩ := I.lstM eH
  obtain ⟨jts, r2, ⟨o, ho, hc, m, hd⟩, _⟩ := I.tuple sq
  have s1 : its.toArray.size = xs.length := by rw [List.size_toArray]; exact r.length.symm
  have s2 : jts.toArray.size = zs.length := by rw [List.size_toArray]; exact r2.length.symm
  have nl : ¬ (!its.toArray.isEmpty && Builtin.List.listTooLong (its.toArray.size + jts.toArray.size)) = true := by
    rw [notLongL (by omega), Bool.and_false]; exact Bool.false_ne_true
  refine call_meets PySem.F.slot_list_extend ⟨_, e, rfl⟩ PySem.F.entry_list_extend (PySem.F.args_list_extend_2 _ _) (ext_tuple l its.toArray n b jts.toArray m nl (by omega) (by omega)) ⟨e, ⟨o, ho, hc, hd⟩, ?_⟩
  exact ⟨.non, _, I.lset (its' := its ++ jts) eH e (by simp) (r.append r2) (by rw [List.length_append]; omega), rfl, q⟩
/-- by a list, by a tuple -/
def rExt2 (K : PySem.W.Frag) : V → List V → Hp → VK → Prop := fun x vs H Q => rExtend x vs H Q ∨ rExtT K x vs H Q
theorem mtExt2 : MtM X "list.extend" (rExt2 X.K) := fun pins s σ H x vs v us Q I rx rv h => h.elim (mt_extend pins s σ H x vs v us Q I rx rv) (mtExtT pins s σ H x vs v us Q I rx rv)
end
end Mi
end

section
set_option Elab.async false
set_option linter.all false
set_option maxRecDepth 100000
set_option maxHeartbeats 4000000
/-! TuS: a tuple once: the tuple itself -/
namespace Mi
open PySem PySem.Spec PyProof.Rows L2
theorem tuple_mul1 (l : Addr) (its : Array Value) (n : Nat) (dd : Option Addr) (sl : Array (Option Value)) (u : Tok) (ne : its.isEmpty = false) :
    Meets (Builtin.«tuple.__mul__» ⟨[.ref l, .int 1 u], []⟩) (fun _ R s => s.heap.get? l = some { cls := .type "tuple", dict := dd, data := .seq its n, slots := sl } ∧ R (.ok (.ret (Value.ref l))) s) :=
  .of_wp fun prog w A R s h => by
    obtain ⟨hp, g, d, tk, os⟩ := s
    obtain ⟨hl, h⟩ := h
    have f1 := AutoSeq1.idx_int
    have c0 : (decide ((1 : Int) < -(2 ^ 63)) || decide ((1 : Int) ≥ 2 ^ 63)) = false := by decide
    have c1 : (its.isEmpty || (1 : Int) == 1) = true := by simp
    wp_walk using wpAny_loadPart' hl
    repeat (first
      | (refine wpAny_ite_false (decide_eq_false (by rw [c0]; exact Bool.false_ne_true)) ?_; wp_walk using wpAny_loadPart' hl)
      | (refine wpAny_ite_true (decide_eq_true (by rw [c1])) ?_; wp_walk using wpAny_loadPart' hl))
    exact ⟨_, rfl, h⟩
section
variable {X : Cx}
def rRep1 (K : PySem.W.Frag) : R2 := fun x y H Q => ∃ l xs, x = .ref l ∧ y = .int 1 ∧ SqT K H l xs ∧ xs ≠ [] ∧ Q (.ref l) H
theorem opRep1 : OpR X (binaryOp .Mult) (rRep1 X.K) := by
  intro pins s σ H x y v u Q I rx ry h
  obtain ⟨l, xs, rfl, rfl, hT, hne, q⟩ := h
  cases rx
  obtain ⟨tk, rfl⟩ := ry
  obtain ⟨its, r, ⟨⟨cl, dd, da, sl⟩, ho, hc, n, hd⟩, _⟩ := I.tuple hT
  simp only at hc hd
  subst hc
  subst hd
  have emp : its.toArray.isEmpty = false := by
    cases its with
    | nil => exact absurd (List.eq_nil_of_length_eq_zero r.length) hne
    | cons _ _ => rfl
  refine wpAny_binaryOp_repeat_ref (U := "int") (T := "tuple") (by decide) ⟨_, ho, rfl⟩ (fun z => typeIs_int z 1 tk) noFill_tuple_mul F.fills_int_mul F.slot_int_rmul repeat_tuple F.slot_int_index.lookup ?_
  refine call_meets F.slot_int_rmul (typeIs_int s 1 tk) F.entry_int_rmul (F.args_int_rmul_2 _ _) (int_rmul_tuple 1 tk l its.toArray n dd sl) ?_
  exact ⟨ho, rfl, ⟨_, ho, rfl⟩, call_meets F.slot_tuple_mul ⟨_, ho, rfl⟩ F.entry_tuple_mul (F.args_tuple_mul_2 _ _) (tuple_mul1 l its.toArray n dd sl tk emp) ⟨ho, .ref l, H, I, rfl, q⟩⟩
end
end Mi
end

section
set_option Elab.async false
set_option linter.all false
set_option maxRecDepth 100000
set_option maxHeartbeats 4000000
/-! ZpM: zip of two sequences, each a list or a tuple, for the hand layer -/
namespace Mi
open PySem PySem.Spec PyProof.Rows L2
/-- k: a tuple, otherwise a list -/
def SqK (k : Bool) (K : PySem.W.Frag) (H : Hp) (a : Addr) (xs : List V) : Prop := match k with
  | true => SqT K H a xs
  | false => SqL K H a xs
def IsK (k : Bool) (h : Heap) (a : Addr) (its : Array Value) : Prop := match k with
  | true => h.IsTuple a its
  | false => h.IsList a its
def ItK (k : Bool) (h : Heap) (it a : Addr) (i : Nat) : Prop := match k with
  | true => h.IsTupleIter it a i
  | false => h.IsListIter it a i
def oK (k : Bool) (a : Addr) : PySem.Obj := match k with
  | true => { cls := .type "tuple_iterator", data := .fields #[.ref a, .int 0 0] }
  | false => { cls := .type "list_iterator", data := .fields #[.ref a, .int 0 0] }
theorem begK (k : Bool) (a : Addr) (its : Array Value) : Begins (.ref a) (oK k a) fun h => IsK k h a its := by
  cases k
  · exact begins_list a its
  · exact begins_tuple a its
theorem drawK {prog : Program} {w : World} {A : Around} (hh : A.handled = none) (k : Bool) (it a : Addr) (ne : a ≠ it) (its : Array Value) : Draws prog w A it [it, a] its.size (fun i v => its[i]? = some v) (fun i h => ItK k h it a i ∧ IsK k h a its) := by
  cases k
  · exact Draws.list hh it a ne its
  · exact Draws.tuple hh it a ne its
theorem ItK.at' {k : Bool} {h h' : Heap} {it a : Addr} {i : Nat} (x : ItK k h it a i) (q : ∀ o, h.get? it = some o → h'.get? it = some o) : ItK k h' it a i := by
  cases k
  · exact Heap.IsListIter.at x q
  · exact Heap.IsTupleIter.at x q
theorem ItK.new {k : Bool} {h : Heap} {it a : Addr} (e : h.get? it = some (oK k a)) : ItK k h it a 0 := by
  cases k <;> exact ⟨_, e, rfl, rfl⟩
theorem ItK.obj {k : Bool} {h : Heap} {it a : Addr} {i : Nat} (x : ItK k h it a i) : ∃ o, h.get? it = some o ∧ ∀ v, o.data ≠ .cell v := by
  cases k <;> (obtain ⟨o, e, _, d⟩ := x; exact ⟨o, e, fun v q => by rw [d] at q; cases q⟩)
section
variable {X : Cx} {pins : List (Addr × PySem.Obj)} {σ : L2.St} {H : Hp} {s : Shared}
theorem sqK_at {k : Bool} {a : Addr} {xs : List V} (I : Inv X pins σ H s) (q : SqK k X.K H a xs) : ∃ its : List Value, Vals xs its ∧ IsK k s.heap a its.toArray ∧ a < s.heap.objs.size := by
  cases k
  · obtain ⟨its, r, p, _⟩ := I.list q
    exact ⟨its, r, p.isList, p.lt⟩
  · obtain ⟨its, r, p, _⟩ := I.tuple q
    obtain ⟨o, ho, _⟩ := id p
    exact ⟨its, r, p, Heap.lt_size ho⟩
theorem sqK_inj {k : Bool} {a : Addr} {xs ys : List V} (I : Inv X pins σ H s) (p : SqK k X.K H a xs) (q : SqK k X.K H a ys) : xs = ys := by
  cases k
  · exact I.list_inj p q
  · exact I.tuple_inj p q
end
def ItzK (j k : Bool) (K : PySem.W.Frag) (a b : Addr) : It :=
  ⟨fun i H => ∃ (xs ys : List V) (x y : V), SqK j K H a xs ∧ SqK k K H b ys ∧ xs[i]? = some x ∧ ys[i]? = some y,
    fun i H v H' => ∃ (T : Addr) (ob : PySem.Obj) (x y : V), v = .ref T ∧ H T = none ∧ ob.dict = none ∧ H' = upd H T (.frz ob (.tup [x, y])) ∧ (∀ xs, SqK j K H a xs → xs[i]? = some x) ∧ ∀ ys, SqK k K H b ys → ys[i]? = some y,
    fun i H => ∃ xs ys : List V, SqK j K H a xs ∧ SqK k K H b ys ∧ i ≤ xs.length ∧ i ≤ ys.length ∧ (i = xs.length ∨ i = ys.length)⟩
theorem sepK {n a b : Nat} (ha : a < n) (hb : b < n) : ZipSep2 (n + 4) (n + 2) (n + 3) n (n + 1) [n, a] [n + 1, b] where
  TIz := show (n + 2 : Nat) ≠ n + 4 by omega
  TOz := show (n + 3 : Nat) ≠ n + 4 by omega
  TITO := show (n + 2 : Nat) ≠ n + 3 by omega
  TIi1 := show (n + 2 : Nat) ≠ n by omega
  TIi2 := show (n + 2 : Nat) ≠ n + 1 by omega
  mem1 := List.mem_cons_self
  mem2 := List.mem_cons_self
  zf1 := by
    intro z
    have z : (n + 4 : Nat) = n ∨ (n + 4 : Nat) = a := by simpa using z
    omega
  zf2 := by
    intro z
    have z : (n + 4 : Nat) = n + 1 ∨ (n + 4 : Nat) = b := by simpa using z
    omega
  Tf1 := by
    intro z
    have z : (n + 3 : Nat) = n ∨ (n + 3 : Nat) = a := by simpa using z
    omega
  Tf2 := by
    intro z
    have z : (n + 3 : Nat) = n + 1 ∨ (n + 3 : Nat) = b := by simpa using z
    omega
  sep1_2 := by
    intro z
    have z : (n : Nat) = n + 1 ∨ (n : Nat) = b := by simpa using z
    omega
  sep2_1 := by
    intro z
    have z : (n + 1 : Nat) = n ∨ (n + 1 : Nat) = a := by simpa using z
    omega
theorem turnZK {P : Program} {w : World} {K : PySem.W.Frag} {el : List Expr} {kk : Nat} {tp : Pos} {j k : Bool} {a b q0 q1 q2 i1 i2 : Addr} (D : ZipSep2 q0 q1 q2 i1 i2 [i1, a] [i2, b]) (na : a ≠ i1) (nb : b ≠ i2) :
    Turn P w K (.Tuple el kk tp) (ItzK j k K a b) [q0, q1, q2, i1, i2] q0 (fun i h => IsZip h q0 q1 q2 .none ∧ IsTupOf2 h q1 (.ref i1) (.ref i2) ∧ (∃ x y, IsTupOf2 h q2 x y) ∧ ItK j h i1 a i ∧ ItK k h i2 b i) where
  mem := by simp
  obj := fun i h st c hc => by
    obtain ⟨g0, g1, ⟨x, y, g2⟩, e1, e2⟩ := st
    have hc : c = q0 ∨ c = q1 ∨ c = q2 ∨ c = i1 ∨ c = i2 := by simpa using hc
    rcases hc with rfl | rfl | rfl | rfl | rfl
    · exact ⟨_, g0, fun v q => nomatch q⟩
    · exact ⟨_, g1, fun v q => nomatch q⟩
    · exact ⟨_, g2, fun v q => nomatch q⟩
    · exact e1.obj
    · exact e2.obj
  keep := fun i h h' st kp => by
    obtain ⟨g0, g1, ⟨x, y, g2⟩, e1, e2⟩ := st
    exact ⟨kp q0 (by simp) _ g0, kp q1 (by simp) _ g1, ⟨x, y, kp q2 (by simp) _ g2⟩, e1.at' fun o q => kp i1 (by simp) o q, e2.at' fun o q => kp i2 (by simp) o q⟩
  item := by
    intro X hP hw hK hc i pins s σ H E I hf st hg
    subst hP hw hK
    obtain ⟨g0, g1, ⟨x0, y0, g2⟩, e1, e2⟩ := st
    obtain ⟨xs, ys, x, y, ha, hb, hx, hy⟩ := hg
    obtain ⟨its, rv, p1, _⟩ := sqK_at I ha
    obtain ⟨jts, rw', p2, _⟩ := sqK_at I hb
    obtain ⟨u, hu, ru⟩ := rv.get hx
    obtain ⟨v, hv, rv'⟩ := rw'.get hy
    have l0 : q0 < s.heap.objs.size := Heap.lt_size g0
    have hd : (X.A.in1).handled = none := I.ok.hd hc
    have lu : i < its.toArray.size := by simpa using (List.getElem?_eq_some_iff.mp hu).1
    have lv : i < jts.toArray.size := by simpa using (List.getElem?_eq_some_iff.mp hv).1
    refine wpAny_pyNext_zipD2_item D (drawK hd j i1 a na its.toArray) (drawK hd k i2 b nb jts.toArray) g0 g1 g2 ⟨e1, p1⟩ ⟨e2, p2⟩ lu lv fun u' v' h' tk hu' hv' z0 z2 st1 st2 hT hsz hk => ?_
    have eu : u' = u := by
      have q : its.toArray[i]? = some u' := hu'
      rw [List.getElem?_toArray, hu] at q
      cases q; rfl
    have ev : v' = v := by
      have q : jts.toArray[i]? = some v' := hv'
      rw [List.getElem?_toArray, hv] at q
      cases q; rfl
    subst eu ev
    refine ⟨_, rfl, wpAny_letOwnedTupleGo_zip (s := { s with heap := h', toks := tk }) z0 fun h2 z0' sb => ?_⟩
    have hT2 : h2.get? s.heap.objs.size = some { cls := .type "tuple", data := .seq #[u', v'] } := (sb.2 _ (Nat.ne_of_gt l0)).trans hT
    have new : ObjOk X.prog X.w (upd H s.heap.objs.size (.frz (tupO [u', v']) (.tup [x, y]))) h2 s.heap.objs.size (.frz (tupO [u', v']) (.tup [x, y])) :=
      ⟨hT2, show 2 ≤ sizeLine by decide, [u', v'], .cons ru (.cons rv' .nil), ⟨_, hT2, rfl, _, rfl⟩⟩
    have I1 : Inv X pins σ (upd H s.heap.objs.size (.frz (tupO [u', v']) (.tup [x, y]))) { s with heap := h2, toks := tk } :=
      I.turnedNew (t' := tk) (ch := [q0, q1, q2, i1, i2]) (fun c o nc q => (sb.2 c (fun z => nc (by simp [z]))).trans (hk c o (fun z => nc (by simp [z])) (fun z => nc (by simp [z])) (fun z => nc (by simp [z])) (fun z => nc (by simp [z])) q)) hf (Nat.le_refl _) new
    refine ⟨.ref s.heap.objs.size, _, I1, rfl, ⟨_, _, x, y, rfl, I.hok.fresh (Nat.le_refl _), rfl, rfl, fun l hl => by rw [sqK_inj I hl ha]; exact hx, fun l hl => by rw [sqK_inj I hl hb]; exact hy⟩, ⟨z0', ?_, ⟨u', v', ?_⟩, ?_, ?_⟩, fun c hcm => ?_⟩
    · exact (sb.2 _ D.TIz).trans (hk _ _ D.TIz D.TITO D.TIi1 D.TIi2 g1)
    · exact (sb.2 _ D.TOz).trans z2
    · exact st1.1.at' fun o q => (sb.2 _ D.zi1.symm).trans q
    · exact st2.1.at' fun o q => (sb.2 _ D.zi2.symm).trans q
    · have lt : c < s.heap.objs.size := by
        have hcm : c = q0 ∨ c = q1 ∨ c = q2 ∨ c = i1 ∨ c = i2 := by simpa using hcm
        rcases hcm with rfl | rfl | rfl | rfl | rfl
        · exact l0
        · exact Heap.lt_size g1
        · exact Heap.lt_size g2
        · obtain ⟨_, e, _⟩ := e1.obj; exact Heap.lt_size e
        · obtain ⟨_, e, _⟩ := e2.obj; exact Heap.lt_size e
      rw [upd_ne (Nat.ne_of_lt lt)]
      exact (hf c hcm).1
  done := by
    intro X hP hw hK hc i pins s σ H E I hf st hg
    subst hP hw hK
    obtain ⟨g0, g1, ⟨x0, y0, g2⟩, e1, e2⟩ := st
    obtain ⟨xs, ys, ha, hb, k1, k2, hend⟩ := hg
    obtain ⟨its, rv, p1, _⟩ := sqK_at I ha
    obtain ⟨jts, rw', p2, _⟩ := sqK_at I hb
    have hd : (X.A.in1).handled = none := I.ok.hd hc
    have s1 : its.toArray.size = xs.length := by rw [List.size_toArray, ← rv.length]
    have s2 : jts.toArray.size = ys.length := by rw [List.size_toArray, ← rw'.length]
    exact wpAny_pyNext_zipD2_end D (drawK hd j i1 a na its.toArray) (drawK hd k i2 b nb jts.toArray) g0 g1 g2 ⟨e1, p1⟩ ⟨e2, p2⟩ (by omega) (by omega) (by omega) fun h' tk hk => ⟨rfl, I.turnedL (t' := tk) (ch := [q0, q1, q2, i1, i2]) (fun c o nc q =>
      hk c o (fun z => nc (by simp [z])) (fun z => nc (by simp [z])) (fun z => nc (by simp [z])) (fun z => nc (by simp [z])) q) hf⟩
  self := fun A i s Q E st h => wpAny_pyIter_zip st.1 h
def iZK (K : PySem.W.Frag) (ta : TA) : TI := fun σ H R => ta σ H fun vs H1 => ∃ (j k : Bool) (a b : Addr) (xs ys : List V), vs = [.ref a, .ref b] ∧ SqK j K H1 a xs ∧ SqK k K H1 b ys ∧ R (ItzK j k K a b) H1
theorem piZK {X : Cx} {e e2 : Expr} {ta : TA} {p pos tp : Pos} {el : List Expr} {kk : Nat} (hg : Gl X "zip") (hm : X.mg "zip" = none) (ha : PA X [e, e2] ta)
    (hs : starEach [e, e2] X.env = (false, eval e X.env) :: starEach [e2] X.env) (hpl : (backTo pos (starEach [e2] X.env)).any (·.1) = false) : PI X (.Tuple el kk tp) (.Call (.Name "zip" p) [e, e2] [] pos) (iZK X.K ta) := by
  refine ⟨fun pins s σ H R I h => Call_ (ld_blt I hg hm PyProof.Rows.boot_zip (PyProof.Rows.callWith_type1 (thn (ha.run pos pins s σ H _ I h) fun us s1 ⟨vs, H1, I1, r1, q1⟩ => ?_) hs hpl))⟩
  obtain ⟨j, k, a, b, xs, ys, ex, qx, qy, q⟩ := q1
  subst ex
  cases r1 with
  | cons ra r2 => cases r2 with | cons rb r3 =>
    cases r3
    cases ra
    cases rb
    obtain ⟨its, rv, p1, la⟩ := sqK_at I1 qx
    obtain ⟨jts, rw', p2, lb⟩ := sqK_at I1 qy
    have fresh : ∀ c, c ∈ [s1.heap.objs.size + 4, s1.heap.objs.size + 2, s1.heap.objs.size + 3, s1.heap.objs.size, s1.heap.objs.size + 1] → FpOk X pins H1 c := fun c hcm => by
      have hcm : c = s1.heap.objs.size + 4 ∨ c = s1.heap.objs.size + 2 ∨ c = s1.heap.objs.size + 3 ∨ c = s1.heap.objs.size ∨ c = s1.heap.objs.size + 1 := by simpa using hcm
      have le : s1.heap.objs.size ≤ c := by
        rcases hcm with z | z | z | z | z <;> (rw [z]; first | exact Nat.le_refl _ | exact Nat.le_add_right _ _)
      exact I1.fpOk le (I1.hok.fresh le)
    refine zip_begins2 (begK j a its.toArray) (begK k b jts.toArray) p1 p2 fun h' g0 g1 g2 o1 o2 hsz hk => wpAny_pyIter_zip g0 ?_
    have I2 : Inv X pins σ H1 { s1 with heap := h' } := I1.kept (t' := s1.toks) hk
    have D := sepK la lb
    have na : a ≠ s1.heap.objs.size := Nat.ne_of_lt la
    have nb : b ≠ s1.heap.objs.size + 1 := Nat.ne_of_lt (Nat.lt_succ_of_lt lb)
    have t0 : IsZip h' (s1.heap.objs.size + 4) (s1.heap.objs.size + 2) (s1.heap.objs.size + 3) .none ∧ IsTupOf2 h' (s1.heap.objs.size + 2) (.ref s1.heap.objs.size) (.ref (s1.heap.objs.size + 1)) ∧ (∃ x y, IsTupOf2 h' (s1.heap.objs.size + 3) x y) ∧ ItK j h' s1.heap.objs.size a 0 ∧ ItK k h' (s1.heap.objs.size + 1) b 0 := ⟨g0, g1, ⟨_, _, g2⟩, ItK.new o1, ItK.new o2⟩
    have TT := turnZK (P := X.prog) (w := X.w) (K := X.K) (el := el) (kk := kk) (tp := tp) (j := j) (k := k) D na nb
    generalize s1.heap.objs.size + 4 = n4 at *
    generalize s1.heap.objs.size + 2 = n2 at *
    generalize s1.heap.objs.size + 3 = n3 at *
    generalize s1.heap.objs.size + 1 = n1 at *
    exact ⟨n4, [n4, n2, n3, s1.heap.objs.size, n1], _, _, H1, rfl, I2, TT, t0, fresh, q⟩
end Mi
end

section
set_option Elab.async false
set_option linter.all false
set_option maxRecDepth 100000
set_option maxHeartbeats 4000000
/-! EnT: enumerate over a tuple or a list, for the hand layer -/
namespace Mi
open PySem PySem.Spec PyProof.Rows L2
abbrev enCell (it : Addr) : PySem.Obj := { cls := .type "enumerate", data := .fields #[.none, .bool false, .ref it, rawInt 0, .none, .none] }
theorem enNew {v : Value} {o : PySem.Obj} {Z : Heap → Prop} (B : Begins v o Z) :
    Meets (Builtin.«enumerate.__new__» ⟨[.type "enumerate", v], []⟩) (fun _ Y s => Z s.heap ∧ Y (.ok (.ret (.ref (s.heap.push o).objs.size))) { s with heap := (s.heap.push o).push (enCell s.heap.objs.size) }) :=
  .of_wp fun prog w A Y s z => by
    obtain ⟨hp, gl, dd, tk, oo⟩ := s
    obtain ⟨z1, z⟩ := z
    have hsub := sub_enumerate
    have step : ∀ {A' : Around} {E Q : Value → Shared → Prop}, Q (.ref hp.objs.size) ⟨hp.push o, gl, dd, tk, oo⟩ → wpAny (model prog w) A' (pyIter v) Q E ⟨hp, gl, dd, tk, oo⟩ := fun q => B.iter prog w _ _ ⟨hp, gl, dd, tk, oo⟩ _ z1 q
    wp_walk using step
    refine wpAny_stack_any fun stk => wpAny_pure ?_
    split
    · rename_i cc _ _ _ _ _
      cases (cc == Value.type "enumerate") <;> (wp_walk using step; exact ⟨_, rfl, z⟩)
    · wp_walk using step
      exact ⟨_, rfl, z⟩
theorem enBegin {prog : Program} {w : World} {A : Around} {E : Value → Shared → Prop} {s : Shared} {v : Value} {o : PySem.Obj} {Z : Heap → Prop} {Q : Value → Shared → Prop} (B : Begins v o Z) (z : Z s.heap)
    (k : ∀ h', IsEnum h' (s.heap.objs.size + 1) s.heap.objs.size 0 .none → h'.get? s.heap.objs.size = some o → (∀ b ob, s.heap.get? b = some ob → h'.get? b = some ob) → Q (.ref (s.heap.objs.size + 1)) { s with heap := h' }) :
    wpAny (model prog w) A (call (.type "enumerate") [v]) Q E s := by
  have sz : (s.heap.push o).objs.size = s.heap.objs.size + 1 := Heap.size_push ..
  have cell : IsEnum ((s.heap.push o).push (enCell s.heap.objs.size)) (s.heap.objs.size + 1) s.heap.objs.size 0 .none := by
    have q := Heap.get?_push_size (s.heap.push o) (o := enCell s.heap.objs.size) rfl
    rwa [sz] at q
  refine callType_new F.called_enumerate (by decide) (F.typeCall_enumerate_1 _) (F.newCall_enumerate_1 _) (fun ob => F.args_object_init_2 ob _) F.entry_enumerate_new (enNew B) ⟨z, ?_⟩
  show _ ∧ _
  rw [sz]
  exact ⟨⟨_, cell, rfl⟩, k _ cell (Heap.get?_push_of_some _ (Heap.get?_push_size _ B.free)) fun b ob x => Heap.get?_push_of_some _ (Heap.get?_push_of_some _ x)⟩
theorem enEndK {prog : Program} {w : World} {A : Around} {E : Value → Shared → Prop} {s : Shared} {k : Bool} {e it t : Addr} {c : Int} {its : Array Value} {old : Value} {Q : Option Value → Shared → Prop} (hh : A.in1.handled = none) (ne : t ≠ it)
    (he : IsEnum s.heap e it c old) (hi : ItK k s.heap it t its.size) (ht : IsK k s.heap t its) (q : ∀ h', Heap.ExtBut it s.heap h' → Q none { s with heap := h' }) : wpAny (model prog w) A (pyNext (.ref e)) Q E s := by
  have ty : s.TypeIs (.ref e) "enumerate" := ⟨_, he, rfl⟩
  unfold pyNext
  refine wpAny_bind (wpAny_attempt (wpAny_callSpecial?_slot (name := Str.ofString "__next__") ty F.slot_enumerate_next (wpAny_call_entry F.slot_enumerate_next ty F.entry_enumerate_next ?_ (F.args_enumerate_next_1 _))))
  show wpAny _ _ (field (.ref e) 2 >>= _) _ _ _
  refine wpAny_bind (wpAny_field he rfl (x := .ref it) rfl (wpAny_bind ((drawK hh k it t ne its).done _ _ _ ⟨hi, ht⟩ fun h' x ex hx => ?_)))
  obtain ⟨ob, ho, hc⟩ := hx
  exact wpAny_bind (wpAny_isInstance (T := "StopIteration") (b := true) ⟨ob, ho, hc⟩ isSubtype_stop (wpAny_pure (q _ ex)))
/-- the sequence at a, each item in a new pair -/
def IteK (k : Bool) (K : PySem.W.Frag) (a : Addr) : It :=
  ⟨fun i H => ∃ (xs : List V) (x : V), SqK k K H a xs ∧ xs[i]? = some x, fun i H v H' => ∃ (P : Addr) (ob : PySem.Obj) (x : V), v = .ref P ∧ H P = none ∧ ob.dict = none ∧ H' = upd H P (.frz ob (.tup [.int (i : Nat), x])) ∧ ∀ xs, SqK k K H a xs → xs[i]? = some x, fun i H => ∃ xs : List V, SqK k K H a xs ∧ xs.length = i⟩
theorem turnEnK {P : Program} {w : World} {K : PySem.W.Frag} {el : List Expr} {n : Nat} {tp : Pos} {k : Bool} (a e it : Addr) :
    Turn P w K (.Tuple el n tp) (IteK k K a) [e, it] e (fun i h => (∃ old, IsEnum h e it ((i : Nat) : Int) old) ∧ ItK k h it a i ∧ e ≠ it ∧ e ≠ a ∧ a ≠ it) where
  mem := by simp
  obj := fun i h st b hb => by
    obtain ⟨⟨old, he⟩, hi, _⟩ := st
    have hb' : b = e ∨ b = it := by simpa using hb
    rcases hb' with rfl | rfl
    · exact ⟨_, he, fun v q => nomatch q⟩
    · exact hi.obj
  keep := fun i h h' st kp => by
    obtain ⟨⟨old, he⟩, hi, hne⟩ := st
    exact ⟨⟨old, kp e (by simp) _ he⟩, hi.at' fun o q => kp it (by simp) o q, hne⟩
  item := by
    intro X hP hw hK hc i pins s σ H E I hf st hg
    subst hP hw hK
    obtain ⟨⟨old, he⟩, hit, hne, hea, hai⟩ := st
    obtain ⟨xs, x, hq, hx⟩ := hg
    obtain ⟨its, rv, tp', _⟩ := sqK_at I hq
    obtain ⟨u, hu, ru⟩ := rv.get hx
    have hel : e < s.heap.objs.size := Heap.lt_size he
    have hlt : i < its.toArray.size := by simpa using (List.getElem?_eq_some_iff.mp hu).1
    have hd := I.ok.hd hc
    refine wpAny_pyNext_enum_itemC (drawK (A := X.A.in1) hd k it a hai its.toArray) he ⟨hit, tp'⟩ hlt hne (by simp; exact ⟨hne, hea⟩) fun y h' tk hy ho st' hT hsz hk => ?_
    have ey : y = u := by
      have hy : its.toArray[i]? = some y := hy
      rw [List.getElem?_toArray, hu] at hy
      cases hy; rfl
    subst ey
    refine ⟨_, rfl, wpAny_letOwnedTupleGo_enum (s := { s with heap := h', toks := tk + 1 }) ho fun h2 he2 sb => ?_⟩
    have hT2 : h2.get? s.heap.objs.size = some (tupO [.int i tk, y]) := (sb.2 _ (Nat.ne_of_gt hel)).trans hT
    have new : ObjOk X.prog X.w (upd H s.heap.objs.size (.frz (tupO [.int i tk, y]) (.tup [.int (i : Nat), x]))) h2 s.heap.objs.size (.frz (tupO [.int i tk, y]) (.tup [.int (i : Nat), x])) :=
      ⟨hT2, show 2 ≤ sizeLine by decide, [.int i tk, y], .cons ⟨_, rfl⟩ (.cons ru .nil), ⟨_, hT2, rfl, _, rfl⟩⟩
    have I1 : Inv X pins σ (upd H s.heap.objs.size (.frz (tupO [.int i tk, y]) (.tup [.int (i : Nat), x]))) { s with heap := h2, toks := tk + 1 } :=
      I.turnedNew (t' := tk + 1) (ch := [e, it]) (fun b ob hb q => (sb.2 b (fun z => hb (by simp [z]))).trans (hk b ob (fun z => hb (by simp [z])) (fun z => hb (by simp [z])) q)) hf (Nat.le_refl _) new
    refine ⟨.ref s.heap.objs.size, _, I1, rfl, ⟨_, _, x, rfl, I.hok.fresh (Nat.le_refl _), rfl, rfl, fun ys hy => by rw [sqK_inj I hy hq]; exact hx⟩, ⟨⟨y, ?_⟩, st'.1.at' fun o q => (sb.2 it (Ne.symm hne)).trans q, hne, hea, hai⟩, fun b hb => ?_⟩
    · rw [show ((i + 1 : Nat) : Int) = (i : Int) + 1 by omega]
      exact he2
    · have hil : it < s.heap.objs.size := by obtain ⟨_, q, _⟩ := hit.obj; exact Heap.lt_size q
      have hb2 : b < s.heap.objs.size := by
        have hb' : b = e ∨ b = it := by simpa using hb
        rcases hb' with rfl | rfl
        · exact hel
        · exact hil
      rw [upd_ne (Nat.ne_of_lt hb2)]
      exact (hf b hb).1
  done := by
    intro X hP hw hK hc i pins s σ H E I hf st hg
    subst hP hw hK
    obtain ⟨⟨old, he⟩, hit, hne, hea, hai⟩ := st
    obtain ⟨xs, hq, hx⟩ := hg
    obtain ⟨its, rv, tp', _⟩ := sqK_at I hq
    have hl : its.toArray.size = i := by rw [List.size_toArray, ← rv.length]; exact hx
    have hd := I.ok.hd hc
    obtain ⟨f0, f1, f2, f3, f4, f5⟩ := hf it (by simp)
    exact enEndK (its := its.toArray) hd hai he (by rw [hl]; exact hit) tp' fun h' eb => ⟨rfl, I.turned (t' := s.toks) (fun b o hb q => eb b o hb q) f0 f1 f3 f4 f5⟩
  self := fun A i s Q E st h => by
    obtain ⟨⟨_, he⟩, _⟩ := st
    exact wpAny_pyIter_enum he h
def iEnK (K : PySem.W.Frag) (ta : TA) : TI := fun σ H R => ta σ H fun vs H1 => ∃ (k : Bool) (a : Addr) (xs : List V), vs = [.ref a] ∧ SqK k K H1 a xs ∧ R (IteK k K a) H1
theorem piEnK {X : Cx} {e : Expr} {ta : TA} {p pos tp : Pos} {el : List Expr} {n : Nat} (hg : Gl X "enumerate") (hm : X.mg "enumerate" = none) (ha : PA X [e] ta) (hs : starEach [e] X.env = [(false, eval e X.env)]) :
    PI X (.Tuple el n tp) (.Call (.Name "enumerate" p) [e] [] pos) (iEnK X.K ta) := by
  refine ⟨fun pins s σ H R I h => Call_ (ld_blt I hg hm boot_enumerate (PyProof.Rows.callWith_type1 (thn (ha.run pos pins s σ H _ I h) fun us s1 ⟨vs, H1, I1, r1, q1⟩ => ?_) hs rfl))⟩
  obtain ⟨k, a, xs, ex, hq, q⟩ := q1
  subst ex
  cases r1 with
  | cons r rr =>
    cases rr
    cases r
    have fresh : ∀ b, b ∈ [s1.heap.objs.size + 1, s1.heap.objs.size] → FpOk X pins H1 b := fun b hb => by
      have le : s1.heap.objs.size ≤ b := by
        have hb' : b = s1.heap.objs.size + 1 ∨ b = s1.heap.objs.size := by simpa using hb
        rcases hb' with z | z <;> (rw [z]; first | exact Nat.le_refl _ | exact Nat.le_add_right _ _)
      exact I1.fpOk le (I1.hok.fresh le)
    obtain ⟨its, rv, pt, al⟩ := sqK_at I1 hq
    refine enBegin (begK k a its.toArray) pt fun h' he hit hk => wpAny_pyIter_enum he ?_
    have I2 : Inv X pins σ H1 { s1 with heap := h' } := I1.kept (t' := s1.toks) hk
    exact ⟨s1.heap.objs.size + 1, [s1.heap.objs.size + 1, s1.heap.objs.size], _, _, H1, rfl, I2, turnEnK (k := k) a (s1.heap.objs.size + 1) s1.heap.objs.size, ⟨⟨.none, he⟩, ItK.new hit, Nat.succ_ne_self _, Nat.ne_of_gt (Nat.lt_succ_of_lt al), Nat.ne_of_lt al⟩, fresh, q⟩
end Mi
end

section
set_option linter.all false
/-! Mini: a small language with plain values, read from the program's syntax; no library here -/
namespace Mi

inductive PV where
  | non | bl (b : Bool) | int (i : Int) | str (s : List Nat)
  | tup (xs : List PV) | lst (xs : List PV) | ref (n : Nat)
  | fn (f : Nat) | exc (c : Nat) (fs : List PV)
  /-- the script: it is read alone -/
  | scr (xs : List PV)
  /-- a range held as a value -/
  | rng (lo hi : Int)
  /-- a dict of ints that is never changed again -/
  | dct (kvs : List (Int × Int))
  /-- an exception held as a value, when it has been handled -/
  | exo (c : Nat) (fs : List PV)
  deriving Inhabited

/-- what stands at a place of the small heap -/
inductive Obj where
  | lst (xs : List PV) | dic (kvs : List (PV × PV))
  /-- a dict with tuples of ints as keys, all its values True -/
  | dit (ks : List (List Int))
  /-- a dict with tuples of ints as keys and ints as values -/
  | diu (kvs : List (List Int × Int)) | dead
  deriving Inhabited
abbrev Hs := List Obj
abbrev En := List (Option PV)

inductive R (α : Type) where
  | ok (a : α) (h : Hs) | exc (c : Nat) (fs : List PV) (h : Hs) | bad
def R.bind {α β : Type} (r : R α) (f : α → Hs → R β) : R β := match r with
  | .ok a h => f a h
  | .exc c fs h => .exc c fs h
  | .bad => .bad
@[simp] theorem R.bind_ok {α β : Type} (a : α) (h : Hs) (f : α → Hs → R β) : (R.ok a h).bind f = f a h := rfl
@[simp] theorem R.bind_exc {α β : Type} (c : Nat) (fs : List PV) (h : Hs) (f : α → Hs → R β) : (R.exc c fs h : R α).bind f = .exc c fs h := rfl
@[simp] theorem R.bind_bad {α β : Type} (f : α → Hs → R β) : (R.bad : R α).bind f = .bad := rfl
def R.of {α : Type} (o : Option α) (h : Hs) : R α := match o with
  | some a => .ok a h
  | none => .bad
@[simp] theorem R.of_some {α : Type} (a : α) (h : Hs) : R.of (some a) h = .ok a h := rfl
@[simp] theorem R.of_none {α : Type} (h : Hs) : R.of (none : Option α) h = .bad := rfl
/-- no exception may leave here -/
def R.calm {α : Type} (r : R α) : R α := match r with
  | .exc _ _ _ => .bad
  | r => r
@[simp] theorem R.calm_ok {α : Type} (a : α) (h : Hs) : (R.ok a h).calm = .ok a h := rfl

/-! ### values -/
mutual
/-- no reference to n or beyond -/
def PV.low (n : Nat) : PV → Bool
  | .ref k => decide (k < n)
  | .tup xs => PV.lows n xs
  | .lst xs => PV.lows n xs
  | .exc _ _ => false
  | _ => true
def PV.lows (n : Nat) : List PV → Bool
  | [] => true
  | x :: r => x.low n && PV.lows n r
end
mutual
/-- ==, as Python's, of data -/
def PV.eqB : PV → PV → Bool
  | .non, y => match y with | .non => true | _ => false
  | .bl a, y => match y with | .bl b => a == b | .int j => (if a then 1 else 0) == j | _ => false
  | .int i, y => match y with | .int j => i == j | .bl b => i == (if b then 1 else 0) | _ => false
  | .str a, y => match y with | .str b => decide (a = b) | _ => false
  | .tup a, y => match y with | .tup b => PV.eqBs a b | _ => false
  | .lst a, y => match y with | .lst b => PV.eqBs a b | _ => false
  | _, _ => false
def PV.eqBs : List PV → List PV → Bool
  | [], ys => match ys with | [] => true | _ => false
  | x :: xs, ys => match ys with | y :: ys => PV.eqB x y && PV.eqBs xs ys | [] => false
end
mutual
/-- data of at most k levels -/
def PV.sh : Nat → PV → Bool
  | _, .non => true
  | _, .bl _ => true
  | _, .int _ => true
  | _, .str s => s.all (fun c => decide (c < 1114112))
  | 0, _ => false
  | k + 1, .tup xs => PV.shs k xs
  | k + 1, .lst xs => PV.shs k xs
  | _, _ => false
def PV.shs : Nat → List PV → Bool
  | _, [] => true
  | k, x :: xs => PV.sh k x && PV.shs k xs
end
def PV.isNon : PV → Bool
  | .non => true
  | _ => false
def PV.flat : PV → Bool
  | .non => true
  | .bl _ => true
  | .int _ => true
  | .str _ => true
  | _ => false
/-- the place of an index, counted from the end where it is below 0 -/
def ixN (n : Nat) (i : Int) : Option Nat := if 0 ≤ i then (if i < n then some i.toNat else none) else if -(n : Int) ≤ i then some (i + n).toNat else none
/-- a slice's bound -/
def sIx (n : Nat) (i : Int) : Nat := if i < 0 then (i + n).toNat else min i.toNat n
def cut {α : Type} (xs : List α) (lo hi : Option Int) : List α :=
  let a := match lo with | some i => sIx xs.length i | none => 0
  let b := match hi with | some i => sIx xs.length i | none => xs.length
  (xs.drop a).take (b - a)
def LINE : Nat := 1000000
def BITS : Nat := 60000000

inductive Op2 where
  | add | sub | mul | fdiv | mod | pow
  deriving DecidableEq
inductive Cmp where
  | eq | ne | lt | le | gt | ge | isN | notN | mem | nmem
  deriving DecidableEq
inductive Ty where
  | int | bool | str | tuple | list | valueError | own (c : Nat)
  deriving DecidableEq
inductive B1 where
  | len | abs | int | tuple | all | any | str | min | max | lenset | sum
  deriving DecidableEq
inductive B2 where
  | min | max | gcd
  deriving DecidableEq
inductive Mth where
  | append | extend | insert | pop | popAt | index | get | split | split0 | join
  deriving DecidableEq

def evOp2 : Op2 → PV → PV → Option PV
  | .add, .int a, .int b => some (.int (a + b))
  | .sub, .int a, .int b => some (.int (a - b))
  | .mul, .int a, .int b => if a.natAbs.log2 + b.natAbs.log2 < BITS then some (.int (a * b)) else none
  | .fdiv, .int a, .int b => if b ≠ 0 ∧ b.natAbs.log2 < 9000 then some (.int (a.fdiv b)) else none
  | .mod, .int a, .int b => if b ≠ 0 then some (.int (a.fmod b)) else none
  | .pow, .int a, .int b => if 0 ≤ b ∧ b ≤ 1000 ∧ a.natAbs < 2 ^ 64 then some (.int (a ^ b.toNat)) else none
  | .add, .str a, .str b => if a.length + b.length ≤ LINE then some (.str (a ++ b)) else none
  | .add, .tup a, .tup b => if a.length + b.length ≤ LINE then some (.tup (a ++ b)) else none
  | .mul, .tup a, .int k => if a.isEmpty = false ∧ 2 ≤ k ∧ k ≤ 1000 ∧ a.length ≤ 1000 then some (.tup (List.replicate k.toNat a).flatten) else if a.isEmpty = false ∧ k = 1 then some (.tup a) else none
  | _, _, _ => none

def memT (x : PV) (xs : List PV) : Option Bool := if x.flat && xs.all PV.flat then some (xs.any fun y => PV.eqB y x) else none
def memL (x : PV) (xs : List PV) : Option Bool := if x.sh 12 && PV.shs 12 xs then some (xs.any fun y => PV.eqB y x) else none
def items (h : Hs) : PV → Option (List PV)
  | .tup xs => some xs
  | .lst xs => some xs
  | .ref n => match h[n]? with
    | some (.lst xs) => some xs
    | _ => none
  | _ => none
/-- keys of a dict: intsP, texts, tuples of them -/
def isKey : PV → Bool
  | .int _ => true
  | .str _ => true
  | .tup xs => xs.all fun x => match x with | .int _ => true | .str _ => true | _ => false
  | _ => false
def look (k : PV) : List (PV × PV) → Option PV
  | [] => none
  | (x, v) :: r => if PV.eqB x k then some v else look k r
/-- look-ups with ints -/
def isI (k : Int) : PV → Bool
  | .int i => i == k
  | _ => false
def lookI (k : Int) (kvs : List (PV × PV)) : Option PV := (kvs.find? fun p => isI k p.1).map (·.2)
def lookD (k : Int) (l : List (Int × Int)) : Option Int := (l.find? fun p => p.1 == k).map (·.2)
/-- a table of ints alone -/
def dctOf : List (PV × PV) → Option (List (Int × Int))
  | [] => some []
  | (.int k, .int v) :: r => (dctOf r).map ((k, v) :: ·)
  | _ :: _ => none
/-- keys that are ints -/
def keysI : List (PV × PV) → Option (List Int)
  | [] => some []
  | (.int k, _) :: r => (keysI r).map (k :: ·)
  | _ :: _ => none
def putI (k : Int) (v : PV) (kvs : List (PV × PV)) : List (PV × PV) :=
  if kvs.any (fun p => isI k p.1) then kvs.map (fun p => if isI k p.1 then (p.1, v) else p) else kvs ++ [(.int k, v)]
/-- a live list read as it stands -/
def dv (h : Hs) : PV → PV
  | .ref n => match h[n]? with
    | some (.lst xs) => .lst xs
    | _ => .ref n
  | x => x
def eqR (h : Hs) (x y : PV) : Option Bool := if (dv h x).sh 12 && (dv h y).sh 12 then some (PV.eqB (dv h x) (dv h y)) else none
def evCmp (h : Hs) : Cmp → PV → PV → Option Bool
  | .eq, x, y => if x.sh 12 && y.sh 12 then some (PV.eqB x y) else eqR h x y
  | .ne, x, y => if x.sh 12 && y.sh 12 then some (!PV.eqB x y) else (eqR h x y).map (!·)
  | .lt, .int a, .int b => some (decide (a < b))
  | .le, .int a, .int b => some (decide (a ≤ b))
  | .gt, .int a, .int b => some (decide (b < a))
  | .ge, .int a, .int b => some (decide (b ≤ a))
  | .isN, x, .non => some x.isNon
  | .notN, x, .non => some (!x.isNon)
  | .notN, .bl a, .bl b => some (!decide (a = b))
  | .mem, x, y => match y with
    | .ref n => match h[n]? with
      | some (.lst xs) => memL x xs
      | _ => none
    | .tup xs => memT x xs
    | .lst xs => memL x xs
    | _ => none
  | .nmem, x, y => match y with
    | .ref n => match h[n]? with
      | some (.lst xs) => (memL x xs).map (!·)
      | _ => none
    | .tup xs => (memT x xs).map (!·)
    | .lst xs => (memL x xs).map (!·)
    | _ => none
  | _, _, _ => none
def evIdx (h : Hs) : PV → PV → Option PV
  | .tup xs, .int i => (ixN xs.length i).bind fun j => xs[j]?
  | .lst xs, .int i => (ixN xs.length i).bind fun j => xs[j]?
  | .str s, .int i => if s.length ≤ LINE then (ixN s.length i).bind fun j => (s[j]?).map fun c => .str [c] else none
  | .ref n, k => match h[n]? with
    | some (.lst xs) => match k with
      | .int i => (ixN xs.length i).bind fun j => xs[j]?
      | _ => none
    | _ => none
  | _, _ => none
/-- the classes below RimError and ValueError: 0 is RimError -/
def isSub (c d : Nat) : Bool := c == d || d == 0
def evIsi (x : PV) (t : Ty) : Option Bool := match x, t with
  | .tup _, .tuple => some true
  | .tup _, .list => some false
  | .tup _, .bool => some false
  | .tup _, .str => some false
  | .tup _, .int => some false
  | .lst _, .list => some true
  | .lst _, .tuple => some false
  | .int _, .int => some true
  | .int _, .tuple => some false
  | .int _, .list => some false
  | .int _, .bool => some false
  | .int _, .str => some false
  | .bl _, .bool => some true
  | .bl _, .int => some true
  | .bl _, .tuple => some false
  | .bl _, .list => some false
  | .bl _, .str => some false
  | .str _, .str => some true
  | .str _, .tuple => some false
  | .str _, .list => some false
  | .str _, .bool => some false
  | .non, .tuple => some false
  | .non, .list => some false
  | .exc _ _, .valueError => some true
  | .exc c _, .own d => some (isSub c d)
  | .exo _ _, .valueError => some true
  | .exo c _, .own d => some (isSub c d)
  | _, _ => none
def bools : List PV → Option (List Bool)
  | [] => some []
  | .bl b :: r => (bools r).map (b :: ·)
  | _ :: _ => none
def intsP : List PV → Option (List Int)
  | [] => some []
  | .int b :: r => (intsP r).map (b :: ·)
  | _ :: _ => none
def foldI (f : Int → Int → Int) : List Int → Option Int
  | [] => none
  | a :: r => some (r.foldl f a)
/-- ints in order -/
def insI (a : Int) : List Int → List Int
  | [] => [a]
  | b :: r => if a ≤ b then a :: b :: r else b :: insI a r
def sortI : List Int → List Int
  | [] => []
  | a :: r => insI a (sortI r)
def sortV (xs : List PV) : Option (List PV) := (intsP xs).map fun l => (sortI l).map .int
def evB1 (h : Hs) : B1 → PV → Option PV
  | .len, .str s => if s.length ≤ LINE then some (.int s.length) else none
  | .len, .ref n => match h[n]? with
    | some (.lst xs) => some (.int xs.length)
    | _ => none
  | .len, .tup xs => some (.int xs.length)
  | .len, .lst xs => some (.int xs.length)
  | .abs, .int i => some (.int (if i < 0 then -i else i))
  | .int, .int i => some (.int i)
  | .int, .bl b => some (.int (if b then 1 else 0))
  | .tuple, .tup xs => some (.tup xs)
  | .tuple, .lst xs => some (.tup xs)
  | .tuple, .ref n => match h[n]? with
    | some (.lst xs) => some (.tup xs)
    | _ => none
  | .max, .lst xs => (intsP xs).bind fun l => (foldI (fun a b => if a < b then b else a) l).map .int
  | .min, .lst xs => (intsP xs).bind fun l => (foldI (fun a b => if b < a then b else a) l).map .int
  | .sum, .lst xs => (intsP xs).map fun l => .int l.sum
  | .all, .lst xs => (bools xs).map fun bs => .bl (bs.all id)
  | .any, .lst xs => (bools xs).map fun bs => .bl (bs.any id)
  | _, _ => none
def evB2 : B2 → PV → PV → Option PV
  | .min, .int a, .int b => some (.int (if b < a then b else a))
  | .max, .int a, .int b => some (.int (if b > a then b else a))
  | .gcd, .int a, .int b => some (.int (Int.gcd a b))
  | _, _, _ => none

/-! ### syntax -/
mutual
inductive E where
  | var (i : Nat) | int (i : Int) | bl (b : Bool) | non | str (s : List Nat)
  | glob (x : Nat) (v : PV)
  /-- a look-up in a dict of the module with text keys -/
  | gdx (x : Nat) (kvs : List (List Nat × PV)) (k : E)
  | op2 (o : Op2) (a b : E) | cmp (c : Cmp) (a b : E) | chain (c d : Cmp) (x y z : E)
  | neg (a : E) | not_ (a : E) | and_ (es : Es) | or_ (es : Es) | ite (c a b : E)
  | tup (es : Es) | lof (f : F) | mof (f : F)
  | idx (a i : E) | tsl (a : E) (lo hi : Oe) | trev (a : E)
  | call (f : Nat) (es : Es) | callv (ns : List Nat) (i : Nat) (es : Es)
  | b1 (b : B1) (a : E) | b2 (b : B2) (a c : E) | isi (a : E) (t : Ty)
  | tof (f : F)
  | meth (m : Mth) (o : E) (es : Es)
  | allc (f : F) | anyc (f : F)
  | frz (a : E)
  /-- what is not served: it is never reached -/
  | unk
  /-- a tuple's index -/
  | tix (o a : E)
  /-- len(set(xs)) of ints -/
  | lset (a : E)
  /-- range(a, b) held as a value -/
  | rngv (a b : E)
  /-- {} -/
  | dnew
  /-- k in d, k not in d; d[k] -/
  | din (neg : Bool) (k d : E) | dget (d k : E)
  /-- len(d) of a dict -/
  | dlen (a : E)
  /-- d.get(k, z) -/
  | dgd (d k z : E)
  /-- {}, its keys tuples of ints -/
  | dnewt
  /-- o.index(a), o a list or a tuple -/
  | xix (o a : E)
  /-- len(set(xs)) of pairs of tuples of ints -/
  | lsetn (a : E)
  /-- str(i) -/
  | strI (a : E)
  /-- int(text) of digits -/
  | intS (a : E)
  /-- sep.join(texts) -/
  | sjn (s a : E)
  /-- one sign in a text -/
  | insg (a s : E)
  /-- a text many times -/
  | srep (a k : E)
  /-- {}, its keys tuples of ints, its values ints -/
  | dnewu
  /-- min of a list of tuples of ints -/
  | mint (a : E)
  /-- e.line of a caught TextError -/
  | eline (a : E)
inductive Oe where
  | no | so (e : E)
inductive Es where
  | nil | cons (e : E) (es : Es)
/-- what makes a new list -/
inductive F where
  | disp (es : Es) | comp (t : T) (it : I) (c : Es) (e : E) (own : List Nat)
  /-- over the live list of ints in this slot -/
  | compw (i : Nat) (t : T) (e : E) (own : List Nat)
  | sset (a : E) | ofI (it : I) | copy (a : E) | slice (a : E) (lo hi : Oe) | rev (a : E) | cat (a b : E) | rep (a b : E) | sorted (it : I)
  /-- sorted(d) of a dict -/
  | dsort (a : E)
  /-- sorted(d.values()), pairs of ints -/
  | dvs (a : E)
  /-- sorted of a list of pairs of ints -/
  | srtp (a : E)
  /-- a.split(s), s one sign; a.split() -/
  | spl (a s : E) | wds (a : E)
  /-- sorted of a list of tuples of ints -/
  | srtt (a : E)
inductive I where
  | ex (e : E) | rng1 (a : E) | rng2 (a b : E) | rng3 (a b c : E) | enum (a : E) | zip (a b : E) | vals (d : E) | keys (d : E) | zipn (es : Es)
  /-- combinations(range, k) -/
  | comb (a c : E)
  /-- the signs of a text -/
  | chars (a : E)
/-- targets -/
inductive T where
  | nm (i : Nat) | tp (ts : Ts) | ix (o i : E) | dix (d k : E)
inductive Ts where
  | nil | cons (t : T) (ts : Ts)
end
mutual
inductive St where
  | expr (e : E) | asg (t : T) (e : E) | aug (i : Nat) (o : Op2) (e : E) | augx (a i : E) (o : Op2) (e : E)
  | ret (e : E) | retN | ifs (c : E) (a b : Bl) | whl (c : E) (b : Bl) | for_ (t : T) (it : I) (b : Bl)
  | brk | cont | pass | raise (c : Nat) (es : Es)
  /-- try: return e (k = 1) or e (k = 0), or x = e (k = i + 2), except c as slot i: suite -/
  | try_ (k : Nat) (e : E) (c : Nat) (i : Option Nat) (s : Bl)
  /-- j = {k: v for t in i}, a live list of ints in slot i -/
  | dasg (j i : Nat) (t : T) (k v : E) (own : List Nat)
  | unk
  /-- no text: from here on the list in this slot is never changed again -/
  | frzv (i : Nat)
  /-- no text: nor are the lists in it -/
  | frzd (i : Nat)
  /-- no text: the dict of ints in this slot is never changed again -/
  | frzk (i : Nat)
  /-- raise TextError("..", e) -/
  | raiseT (e : E)
  /-- try: e, except c as n: return n -/
  | tryX (e : E) (c i : Nat)
  /-- try: e, except c as slot i: suite, further clauses that are never come to -/
  | tryT (e : E) (c i : Nat) (s : Bl)
inductive Bl where
  | nil | cons (s : St) (b : Bl)
end
def Es.len : Es → Nat
  | .nil => 0
  | .cons _ r => r.len + 1
def Ts.len : Ts → Nat
  | .nil => 0
  | .cons _ r => r.len + 1
def Es.ofList : List E → Es
  | [] => .nil
  | x :: r => .cons x (Es.ofList r)
def Ts.ofList : List T → Ts
  | [] => .nil
  | x :: r => .cons x (Ts.ofList r)
def Bl.ofList : List St → Bl
  | [] => .nil
  | x :: r => .cons x (Bl.ofList r)

inductive Fl where
  | nx (σ : En) | rt (v : PV) | bk (σ : En) | ct (σ : En)

/-! ### evaluation -/
def wipe (σ : En) : List Nat → En
  | [] => σ
  | v :: vs => (wipe σ vs).set v none
def forL (f : PV → En → Hs → R Fl) : List PV → En → Hs → R Fl
  | [], σ, h => .ok (.nx σ) h
  | x :: r, σ, h => (f x σ h).bind fun fl h => match fl with
    | .nx σ' => forL f r σ' h
    | .ct σ' => forL f r σ' h
    | .bk σ' => .ok (.nx σ') h
    | .rt v => .ok (.rt v) h
def compL (f : PV → Hs → R (Option PV)) : List PV → Hs → R (List PV)
  | [], h => .ok [] h
  | x :: r, h => (f x h).bind fun o h => (compL f r h).bind fun vs h => .ok (o.toList ++ vs) h
/-- a loop with fuel, and its limit -/
def whN (g : En → Hs → R (Sum En Fl)) : Nat → En → Hs → R Fl
  | 0, _, _ => .bad
  | n + 1, σ, h => (g σ h).bind fun s h => match s with
    | .inl σ' => whN g n σ' h
    | .inr fl => .ok fl h
open Classical in
noncomputable def whW (g : En → Hs → R (Sum En Fl)) (σ : En) (h : Hs) : R Fl :=
  if x : ∃ n, whN g n σ h ≠ .bad then whN g x.choose σ h else .bad
theorem whN_mono (g : En → Hs → R (Sum En Fl)) : ∀ (n m : Nat) (σ : En) (h : Hs), n ≤ m → whN g n σ h ≠ .bad → whN g m σ h = whN g n σ h
  | 0, _, _, _, _, z => absurd rfl z
  | n + 1, 0, _, _, l, _ => absurd l (by omega)
  | n + 1, m + 1, σ, h, l, z => by
    unfold whN at z ⊢
    cases q : g σ h with
    | bad => rfl
    | exc c fs h' => rfl
    | ok s h' =>
      rw [q] at z
      cases s with
      | inr fl => rfl
      | inl σ' => exact whN_mono g n m σ' h' (by omega) z
theorem whW_eq_of {g : En → Hs → R (Sum En Fl)} {n : Nat} {σ : En} {h : Hs} (z : whN g n σ h ≠ .bad) : whW g σ h = whN g n σ h := by
  have x : ∃ n, whN g n σ h ≠ .bad := ⟨n, z⟩
  unfold whW
  rw [dif_pos x]
  have y := x.choose_spec
  rcases Nat.le_total n x.choose with l | l
  · exact whN_mono g _ _ σ h l z
  · exact (whN_mono g _ _ σ h l y).symm
theorem whW_bad {g : En → Hs → R (Sum En Fl)} {σ : En} {h : Hs} (z : ∀ n, whN g n σ h = .bad) : whW g σ h = .bad := by
  unfold whW
  rw [dif_neg (fun ⟨n, y⟩ => y (z n))]
theorem whW_unfold (g : En → Hs → R (Sum En Fl)) (σ : En) (h : Hs) : whW g σ h = (g σ h).bind fun s h => match s with
    | .inl σ' => whW g σ' h
    | .inr fl => .ok fl h := by
  cases q : g σ h with
  | bad => exact whW_bad fun n => by cases n with
    | zero => rfl
    | succ n => unfold whN; rw [q]; rfl
  | exc c fs h' =>
    have e : whN g 1 σ h = .exc c fs h' := by unfold whN; rw [q]; rfl
    rw [whW_eq_of (n := 1) (by rw [e]; intro z; cases z), e]; rfl
  | ok s h' =>
    cases s with
    | inr fl =>
      have e : whN g 1 σ h = .ok fl h' := by unfold whN; rw [q]; rfl
      rw [whW_eq_of (n := 1) (by rw [e]; intro z; cases z), e]; rfl
    | inl σ' =>
      have e : ∀ n, whN g (n + 1) σ h = whN g n σ' h' := fun n => by
        show (g σ h).bind _ = _
        rw [q]; rfl
      show _ = whW g σ' h'
      by_cases x : ∃ n, whN g n σ' h' ≠ .bad
      · obtain ⟨n, x⟩ := x
        rw [whW_eq_of x, ← e n]
        exact whW_eq_of (by rw [e n]; exact x)
      · have x' : ∀ n, whN g n σ' h' = .bad := fun n => Classical.byContradiction fun z => x ⟨n, z⟩
        rw [whW_bad x']
        exact whW_bad fun n => by cases n with
          | zero => rfl
          | succ n => rw [e n]; exact x' n
/-- a loop whose every turn is known -/
theorem whW_step {g : En → Hs → R (Sum En Fl)} {σ σ' : En} {h h' : Hs} (q : g σ h = .ok (.inl σ') h') : whW g σ h = whW g σ' h' := by
  rw [whW_unfold, q]; rfl
theorem whW_end {g : En → Hs → R (Sum En Fl)} {σ : En} {fl : Fl} {h h' : Hs} (q : g σ h = .ok (.inr fl) h') : whW g σ h = .ok fl h' := by
  rw [whW_unfold, q]; rfl

abbrev Calls := Nat → List PV → Hs → Nat → R PV

def rangeL (a b : Int) : List PV := (List.range (b - a).toNat).map fun (k : Nat) => .int (a + (k : Int))
def enumL : Nat → List PV → List PV
  | _, [] => []
  | k, x :: r => .tup [.int k, x] :: enumL (k + 1) r
def zipL : List PV → List PV → List PV
  | x :: xs, y :: ys => .tup [x, y] :: zipL xs ys
  | _, _ => []
def enumV : PV → Option (List PV)
  | .lst xs => if xs.length ≤ LINE then some (enumL 0 xs) else none
  | .tup xs => if xs.length ≤ LINE then some (enumL 0 xs) else none
  | _ => none
def zipV : PV → PV → Option (List PV)
  | .lst xs, .lst ys => if xs.length ≤ LINE then some (zipL xs ys) else none
  | .tup xs, .tup ys => if xs.length ≤ LINE then some (zipL xs ys) else none
  | .lst xs, .tup ys => if xs.length ≤ LINE then some (zipL xs ys) else none
  | .tup xs, .lst ys => if xs.length ≤ LINE then some (zipL xs ys) else none
  | _, _ => none
def minL : List (List PV) → Nat
  | [] => 0
  | x :: r => match r with
    | [] => x.length
    | y :: t => min x.length (minL (y :: t))
def seqsP : List PV → Option (List (List PV))
  | [] => some []
  | x :: r => match x, seqsP r with
    | .lst xs, some t => some (xs :: t)
    | .tup xs, some t => some (xs :: t)
    | _, _ => none
def zipnL (xss : List (List PV)) : List PV := (List.range (minL xss)).map fun i => PV.tup (xss.map fun xs => xs.getD i .non)
/-- zip of four -/
def zipnV (vs : List PV) : Option (List PV) := match seqsP vs with
  | some xss => if vs.length = 4 ∧ minL xss ≤ LINE then some (zipnL xss) else none
  | none => none
def condL (f : En → Hs → R (Option PV)) (r : R Bool) : R (Option PV) := r.bind fun b h => if b then f [] h else .ok none h

/-- to be stored at the place n: no reference to the frame's own objects goes into an elder one -/
def stOk (b n : Nat) (v : PV) : Bool := decide (b ≤ n) || v.low 0
def putX (b : Nat) (o i v : PV) (h : Hs) : Option Hs := match o with
  | .ref n => if stOk b n v then (match h[n]? with
    | some (.lst xs) => match i with
      | .int k => (ixN xs.length k).map fun j => h.set n (.lst (xs.set j v))
      | _ => none
    | _ => none) else none
  | _ => none
def lItems (h : Hs) : PV → Option (List PV)
  | .lst xs => some xs
  | .ref n => match h[n]? with
    | some (.lst xs) => some xs
    | _ => none
  | _ => none
def isL (h : Hs) (x : PV) : Bool := (lItems h x).isSome
def ixOf (v : PV) : List PV → Nat → Option Nat
  | [], _ => none
  | x :: r, k => if PV.eqB x v then some k else ixOf v r (k + 1)
def evMeth (b : Nat) (h : Hs) : Mth → PV → List PV → Option (PV × Hs)
  | .append, .ref n, [v] => if stOk b n v then (match h[n]? with
    | some (.lst xs) => if xs.length < LINE then some (.non, h.set n (.lst (xs ++ [v]))) else none
    | _ => none) else none
  | .insert, .ref n, [.int i, v] => if stOk b n v ∧ 0 ≤ i ∧ i < 2 ^ 62 then (match h[n]? with
    | some (.lst xs) => if xs.length < LINE then some (.non, h.set n (.lst (xs.take i.toNat ++ [v] ++ xs.drop i.toNat))) else none
    | _ => none) else none
  | .popAt, .ref n, [.int i] => if -(2 ^ 62) ≤ i ∧ i < 2 ^ 62 then (match h[n]? with
    | some (.lst xs) => (ixN xs.length i).bind fun j => (xs[j]?).map fun v => (v, h.set n (.lst (xs.eraseIdx j)))
    | _ => none) else none
  | .extend, .ref n, [.lst ys] => if ys.all (stOk b n) then (match h[n]? with
    | some (.lst xs) => if xs.length + ys.length ≤ LINE then some (.non, h.set n (.lst (xs ++ ys))) else none
    | _ => none) else none
  | .extend, .ref n, [.tup ys] => if ys.all (stOk b n) then (match h[n]? with
    | some (.lst xs) => if xs.length + ys.length ≤ LINE then some (.non, h.set n (.lst (xs ++ ys))) else none
    | _ => none) else none
  | .index, x, [v] => (lItems h x).bind fun xs => if v.flat && xs.all PV.flat then (ixOf v xs 0).map fun (j : Nat) => (PV.int (j : Int), h) else none
  | _, _, _ => none

def isTup : PV → Bool
  | .tup _ => true
  | _ => false
/-- the place in a tuple -/
def tixV : PV → PV → Option PV
  | .tup xs, y => if y.flat && xs.all PV.flat then (ixOf y xs 0).map fun (j : Nat) => PV.int (j : Int) else none
  | _, _ => none
/-- the place in a tuple or a list -/
def xixV (h : Hs) (x y : PV) : Option PV := (items h x).bind fun xs => if y.flat && xs.all PV.flat then (ixOf y xs 0).map fun (j : Nat) => PV.int (j : Int) else none
/-- the different ones, in order -/
def fmI : List Int → List Int → List Int
  | acc, [] => acc
  | acc, x :: r => if acc.any (· == x) then fmI acc r else fmI (acc ++ [x]) r
def lsetV (h : Hs) (x : PV) : Option PV := (items h x).bind fun xs => (intsP xs).bind fun l => if l.length ≤ 4000 then some (.int (fmI [] l).length) else none
def rngV : PV → PV → Option PV
  | .int i, .int j => if -(2 ^ 61) ≤ i ∧ i < 2 ^ 61 ∧ -(2 ^ 61) ≤ j ∧ j < 2 ^ 61 then some (.rng i j) else none
  | _, _ => none
/-- all combinations, by their places, in order -/
def cmbs : Nat → Nat → List (List Nat)
  | _, 0 => [[]]
  | 0, _ + 1 => []
  | n + 1, r + 1 => ((cmbs n r).map fun l => 0 :: l.map (· + 1)) ++ (cmbs n (r + 1)).map fun l => l.map (· + 1)
def cmbV : PV → PV → Option (List PV)
  | .rng lo hi, .int k => if (-(2 ^ 61) ≤ lo ∧ lo < 2 ^ 61 ∧ -(2 ^ 61) ≤ hi ∧ hi < 2 ^ 61) ∧ (hi - lo).toNat < 8 ∧ 0 ≤ k ∧ k.toNat ≤ (hi - lo).toNat then
      some ((cmbs (hi - lo).toNat k.toNat).map fun ix => .tup (ix.map fun (j : Nat) => .int (lo + (j : Int)))) else none
  | _, _ => none
def lookU (l : List Int) (kvs : List (List Int × Int)) : Option Int := (kvs.find? fun q => decide (q.1 = l)).map (·.2)
def putU (l : List Int) (i : Int) (kvs : List (List Int × Int)) : List (List Int × Int) := if (kvs.map (·.1)).contains l then kvs.map (fun q => if q.1 = l then (q.1, i) else q) else kvs ++ [(l, i)]
/-- dicts with ints as keys -/
def dinV (h : Hs) : PV → PV → Option Bool
  | .int i, .ref n => match h[n]? with
    | some (.dic kvs) => some (lookI i kvs).isSome
    | _ => none
  | .int i, .dct l => some (lookD i l).isSome
  | .tup xs, .ref n => match h[n]? with
    | some (.dit ks) => (intsP xs).map fun l => ks.contains l
    | some (.diu kvs) => (intsP xs).map fun l => (kvs.map (·.1)).contains l
    | _ => none
  | _, _ => none
def dgetV (h : Hs) : PV → PV → Option PV
  | .int i, .ref n => match h[n]? with
    | some (.dic kvs) => lookI i kvs
    | _ => none
  | .int i, .dct l => (lookD i l).map .int
  | .tup xs, .ref n => match h[n]? with
    | some (.diu kvs) => (intsP xs).bind fun l => (lookU l kvs).map .int
    | _ => none
  | _, _ => none
def isDv (h : Hs) : PV → Bool
  | .ref n => match h[n]? with
    | some (.dic _) => true
    | _ => false
  | .dct _ => true
  | _ => false
def dgdV (h : Hs) (x y z : PV) : Option PV := match x with
  | .int i => (dinV h (.int i) y).bind fun b => if b then dgetV h (.int i) y else some z
  | _ => none
/-- len(d), sorted(d) -/
def dlenV (h : Hs) : PV → Option PV
  | .ref n => match h[n]? with
    | some (.dic kvs) => some (.int kvs.length)
    | _ => none
  | _ => none
def dsortV (h : Hs) : PV → Option (List PV)
  | .ref n => match h[n]? with
    | some (.dic kvs) => (keysI kvs).bind fun l => if l.length < 64 then some ((sortI l).map .int) else none
    | _ => none
  | _ => none
def pairI : PV → Option (Int × Int)
  | .tup [.int a, .int b] => some (a, b)
  | _ => none
def pairsI : List PV → Option (List (Int × Int))
  | [] => some []
  | x :: r => match pairI x with
    | some q => (pairsI r).map (q :: ·)
    | none => none
def leP (p q : Int × Int) : Bool := decide (p.1 < q.1) || (decide (p.1 = q.1) && decide (p.2 ≤ q.2))
def insP (a : Int × Int) : List (Int × Int) → List (Int × Int)
  | [] => [a]
  | b :: r => if leP a b then a :: b :: r else b :: insP a r
def sortP : List (Int × Int) → List (Int × Int)
  | [] => []
  | a :: r => insP a (sortP r)
def tupP (q : Int × Int) : PV := .tup [.int q.1, .int q.2]
def dvsV (h : Hs) : PV → Option (List PV)
  | .ref n => match h[n]? with
    | some (.dic kvs) => (pairsI (kvs.map (·.2))).map fun l => (sortP l).map tupP
    | _ => none
  | _ => none
/-- a key more -/
def putT (l : List Int) (ks : List (List Int)) : List (List Int) := if ks.contains l then ks else ks ++ [l]
def srtpV (h : Hs) : PV → Option (List PV)
  | .tup _ => none
  | x => (items h x).bind fun xs => (pairsI xs).map fun l => (sortP l).map tupP
/-- tuples of ints of any lengths, in the order of their first unequal items -/
def lexL : List Int → List Int → Bool
  | [], [] => false
  | [], _ :: _ => true
  | _ :: _, [] => false
  | x :: r, y :: t => if x = y then lexL r t else decide (x < y)
def insT (a : List Int) : List (List Int) → List (List Int)
  | [] => [a]
  | b :: r => if lexL b a then b :: insT a r else a :: b :: r
def sortT : List (List Int) → List (List Int)
  | [] => []
  | a :: r => insT a (sortT r)
def tupsI : List PV → Option (List (List Int))
  | [] => some []
  | .tup xs :: r => (intsP xs).bind fun l => (tupsI r).map (l :: ·)
  | _ :: _ => none
def tupL (l : List Int) : PV := .tup (l.map .int)
def srttV (h : Hs) : PV → Option (List PV)
  | .tup _ => none
  | x => (items h x).bind fun xs => (tupsI xs).bind fun l => if l.all fun r => !r.isEmpty then some ((sortT l).map tupL) else none
def minL' (a : List Int) (r : List (List Int)) : List Int := r.foldl (fun a y => if lexL y a then y else a) a
def elineV : PV → Option PV
  | .exc c [.int i] => if c = 2 then some (.int i) else none
  | _ => none
def mintV (h : Hs) : PV → Option PV
  | .tup _ => none
  | x => (items h x).bind fun xs => (tupsI xs).bind fun l => match l with
    | [] => none
    | a :: r => some (tupL (minL' a r))
def dputV (b : Nat) (h : Hs) (x y v : PV) : Option Hs := match x, y with
  | .ref n, .int i => if stOk b n v then (match h[n]? with
    | some (.dic kvs) => if kvs.length < LINE then some (h.set n (.dic (putI i v kvs))) else none
    | _ => none) else none
  | .ref n, .tup xs => match v with
    | .bl true => match h[n]? with
      | some (.dit ks) => if ks.length < LINE then (intsP xs).map fun l => h.set n (.dit (putT l ks)) else none
      | _ => none
    | .int i => match h[n]? with
      | some (.diu kvs) => if kvs.length < LINE then (intsP xs).map fun l => h.set n (.diu (putU l i kvs)) else none
      | _ => none
    | _ => none
  | _, _ => none
/-- pairs of tuples of ints -/
def npI : PV → Option (List Int × List Int)
  | .tup [.tup a, .tup b] => match intsP a, intsP b with
    | some x, some y => some (x, y)
    | _, _ => none
  | _ => none
def npsI : List PV → Option (List (List Int × List Int))
  | [] => some []
  | x :: r => match npI x with
    | some q => (npsI r).map (q :: ·)
    | none => none
/-- the pairs that circles of 2 hf nodes out of N give -/
def cprOf (c : List Int) (hf s : Nat) : List Int × List Int := ((c.drop (2 * hf - s) ++ c.take (2 * hf - s)).take hf, ((c.drop (2 * hf - s) ++ c.take (2 * hf - s)).drop hf).reverse)
def cprs (N : Nat) : List (List Int × List Int) := (List.range' 1 (N / 2)).flatMap fun hf => (cmbs N (2 * hf)).flatMap fun ix => (List.range' 0 hf).map (cprOf (ix.map fun (j : Nat) => (j : Int) + 1) hf)
/-- len(set(xs)) of such pairs, for the lists whose table was reckoned -/
def lsetnV (h : Hs) : PV → Option PV
  | .tup _ => none
  | x => (items h x).bind fun xs => (npsI xs).bind fun l => if (List.range 8).any (fun N => decide (l = cprs N)) then some (.int l.length) else none
/-! texts -/
/-- cut at each sign S -/
def splN (S : Nat) : List Nat → List Nat → List (List Nat)
  | acc, [] => [acc]
  | acc, c :: r => if c = S then acc :: splN S [] r else splN S (acc ++ [c]) r
/-- words between blanks -/
def wdsN : List Nat → List Nat → List (List Nat)
  | acc, [] => if acc = [] then [] else [acc]
  | acc, c :: r => if c = 32 then (if acc = [] then wdsN [] r else acc :: wdsN [] r) else wdsN (acc ++ [c]) r
/-- the signs of a number -/
def numN (n : Nat) : List Nat := ((Nat.toDigits 10 n).map fun c => c.toNat)
def valN (l : List Nat) : Nat := l.foldl (fun a c => a * 10 + (c - 48)) 0
def digB (c : Nat) : Bool := decide (48 ≤ c) && decide (c ≤ 57)
def txtB (c : Nat) : Bool := decide (32 ≤ c) && decide (c < 127)
def sjnN (S : List Nat) : List (List Nat) → List Nat
  | [] => []
  | x :: r => match r with
    | [] => x
    | y :: t => x ++ (S ++ sjnN S (y :: t))
def strsP : List PV → Option (List (List Nat))
  | [] => some []
  | .str s :: r => (strsP r).map (s :: ·)
  | _ :: _ => none
def strIV : PV → Option PV
  | .int i => if 0 ≤ i ∧ i.natAbs.log2 < 1920 then some (.str (numN i.toNat)) else none
  | _ => none
def intSV : PV → Option PV
  | .str s => if s.all digB = true ∧ s ≠ [] ∧ s.length ≤ 640 then some (.int (valN s : Nat)) else none
  | _ => none
def sjnV (h : Hs) : PV → PV → Option PV
  | .str a, y => (items h y).bind fun xs => (strsP xs).bind fun l => if (l.map List.length).sum + l.length * a.length ≤ 100000 then some (.str (sjnN a l)) else none
  | _, _ => none
def splV : PV → PV → Option (List PV)
  | .str s, .str [c] => if s.length ≤ 100000 ∧ c < 128 then some ((splN c [] s).map .str) else none
  | _, _ => none
def wdsV : PV → Option (List PV)
  | .str s => if s.length ≤ 100000 ∧ s.all txtB = true then some ((wdsN [] s).map .str) else none
  | _ => none
def insgV : PV → PV → Option Bool
  | .str [c], .str s => some (decide (c ∈ s))
  | _, _ => none
def srepV : PV → PV → Option PV
  | .str a, .int k => if 0 ≤ k ∧ k ≤ 1000 ∧ a.length ≤ 100 then some (.str (List.replicate k.toNat a).flatten) else none
  | _, _ => none
def charsV : PV → Option (List PV)
  | .str s => if s.length ≤ 100000 then some (s.map fun c => .str [c]) else none
  | _ => none
def isStrV : PV → Bool
  | .str _ => true
  | _ => false
/-- the list at n still has these ints -/
def wch (n : Nat) (ns : List Int) (h : Hs) : Bool := match h[n]? with
  | some (.lst ys) => decide (intsP ys = some ns)
  | _ => false
def coW (c : Hs → Bool) (f : PV → Hs → R PV) : List PV → List PV → Hs → R (List PV)
  | [], acc, h => if c h then .ok acc h else .bad
  | x :: r, acc, h => if c h then (f x h).bind fun v h => coW c f r (acc ++ [v]) h else .bad
def dcW (c : Hs → Bool) (f : PV → Hs → R (PV × PV)) : List PV → List (PV × PV) → Hs → R (List (PV × PV))
  | [], kvs, h => if c h then .ok kvs h else .bad
  | x :: r, kvs, h => if c h && decide (kvs.length < LINE) then (f x h).bind fun q h => match q.1 with
      | .int j => dcW c f r (putI j q.2 kvs) h
      | _ => .bad
    else .bad
/-- the live list of ints in a slot -/
def liveI (σ : En) (h : Hs) (i : Nat) : Option (Nat × List PV × List Int) := match (σ[i]?).join with
  | some (.ref n) => match h[n]? with
    | some (.lst xs) => (intsP xs).map fun ns => (n, xs, ns)
    | _ => none
  | _ => none
/-- sorted(set(xs)) of ints -/
def ssetV (h : Hs) : PV → Option (List PV)
  | .tup _ => none
  | x => (items h x).bind fun xs => (intsP xs).bind fun l => if l.length ≤ 60 then some ((sortI (fmI [] l)).map .int) else none
mutual
def evE (C : Calls) (b : Nat) : E → En → Hs → R PV
  | .var i, σ, h => R.of (σ[i]?).join h
  | .int i, _, h => .ok (.int i) h
  | .bl i, _, h => .ok (.bl i) h
  | .non, _, h => .ok .non h
  | .str s, _, h => .ok (.str s) h
  | .glob _ v, _, h => .ok v h
  | .op2 o a c, σ, h => (evE C b a σ h).bind fun x h => (evE C b c σ h).bind fun y h => R.of (evOp2 o x y) h
  | .cmp o a c, σ, h => (evE C b a σ h).bind fun x h => (evE C b c σ h).bind fun y h => R.of ((evCmp h o x y).map .bl) h
  | .chain o p x y z, σ, h => (evE C b x σ h).bind fun x h => (evE C b y σ h).bind fun y h => (R.of (evCmp h o x y) h).bind fun r h =>
      if r then (evE C b z σ h).bind fun z h => R.of ((evCmp h p y z).map .bl) h else .ok (.bl false) h
  | .neg a, σ, h => (evE C b a σ h).bind fun x h => match x with
    | .int i => .ok (.int (-i)) h
    | _ => .bad
  | .not_ a, σ, h => (evE C b a σ h).bind fun x h => match x with
    | .bl i => .ok (.bl (!i)) h
    | _ => .bad
  | .and_ es, σ, h => evAnd C b es σ h
  | .or_ es, σ, h => evOr C b es σ h
  | .ite c a d, σ, h => (evE C b c σ h).bind fun x h => match x with
    | .bl true => evE C b a σ h
    | .bl false => evE C b d σ h
    | _ => .bad
  | .tup es, σ, h => (evEs C b es σ h).bind fun vs h => .ok (.tup vs) h
  | .lof f, σ, h => (evF C b f σ h).bind fun vs h => .ok (.lst vs) h
  | .mof f, σ, h => (evF C b f σ h).bind fun vs h => .ok (.ref h.length) (h ++ [.lst vs])
  | .tof f, σ, h => (evF C b f σ h).bind fun vs h => .ok (.tup vs) h
  | .idx a i, σ, h => (evE C b a σ h).bind fun x h => (evE C b i σ h).bind fun y h => R.of (evIdx h x y) h
  | .tsl a lo hi, σ, h => (evE C b a σ h).bind fun x h => (evO C b lo σ h).bind fun l h => (evO C b hi σ h).bind fun u h => match x with
    | .tup xs => .ok (.tup (cut xs l u)) h
    | _ => .bad
  | .trev a, σ, h => (evE C b a σ h).bind fun x h => match x with
    | .tup xs => .ok (.tup xs.reverse) h
    | _ => .bad
  | .call f es, σ, h => (evEs C b es σ h).bind fun vs h => C f vs h b
  | .callv ns i es, σ, h => match (σ[i]?).join with
    | some (.fn f) => if ns.contains f then (evEs C b es σ h).bind fun vs h => C f vs h b else .bad
    | _ => .bad
  | .b1 o a, σ, h => (evE C b a σ h).bind fun x h => R.of (evB1 h o x) h
  | .b2 o a c, σ, h => (evE C b a σ h).bind fun x h => (evE C b c σ h).bind fun y h => R.of (evB2 o x y) h
  | .isi a t, σ, h => (evE C b a σ h).bind fun x h => R.of ((evIsi x t).map .bl) h
  | .meth m o es, σ, h => (evE C b o σ h).bind fun x h => if isL h x then (evEs C b es σ h).bind fun vs h => R.bind (R.of (evMeth b h m x vs) h) fun r _ => .ok r.1 r.2 else .bad
  | .allc f, σ, h => (evF C b f σ h).bind fun vs h => R.of ((bools vs).map fun bs => .bl (bs.all id)) h
  | .anyc f, σ, h => (evF C b f σ h).bind fun vs h => R.of ((bools vs).map fun bs => .bl (bs.any id)) h
  | .frz a, σ, h => (evE C b a σ h).bind fun x h => match x with
    | .ref n => match h[n]? with
      | some (.lst xs) => .ok (.lst xs) (h.set n .dead)
      | _ => .bad
    | _ => .bad
  | .unk, _, _ => .bad
  | .gdx _ kvs k, σ, h => (evE C b k σ h).bind fun x h => match x with
    | .str s => R.of (kvs.lookup s) h
    | _ => .bad
  | .tix o a, σ, h => (evE C b o σ h).bind fun x h => if isTup x then (evE C b a σ h).bind fun y h => R.of (tixV x y) h else .bad
  | .lset a, σ, h => (evE C b a σ h).bind fun x h => R.of (lsetV h x) h
  | .rngv a c, σ, h => (evE C b a σ h).bind fun x h => (evE C b c σ h).bind fun y h => R.of (rngV x y) h
  | .dnew, _, h => .ok (.ref h.length) (h ++ [.dic []])
  | .din neg k d, σ, h => (evE C b k σ h).bind fun x h => (evE C b d σ h).bind fun y h => R.of ((dinV h x y).map fun r => .bl (if neg then !r else r)) h
  | .dget d k, σ, h => (evE C b d σ h).bind fun y h => (evE C b k σ h).bind fun x h => R.of (dgetV h x y) h
  | .dlen a, σ, h => (evE C b a σ h).bind fun x h => R.of (dlenV h x) h
  | .dgd d k z, σ, h => (evE C b d σ h).bind fun y h => if isDv h y then (evE C b k σ h).bind fun x h => (evE C b z σ h).bind fun w h => R.of (dgdV h x y w) h else .bad
  | .dnewt, _, h => .ok (.ref h.length) (h ++ [.dit []])
  | .xix o a, σ, h => (evE C b o σ h).bind fun x h => if isTup x || isL h x then (evE C b a σ h).bind fun y h => R.of (xixV h x y) h else .bad
  | .lsetn a, σ, h => (evE C b a σ h).bind fun x h => R.of (lsetnV h x) h
  | .strI a, σ, h => (evE C b a σ h).bind fun x h => R.of (strIV x) h
  | .intS a, σ, h => (evE C b a σ h).bind fun x h => R.of (intSV x) h
  | .sjn o a, σ, h => (evE C b o σ h).bind fun x h => if isStrV x then (evE C b a σ h).bind fun y h => R.of (sjnV h x y) h else .bad
  | .insg a c, σ, h => (evE C b a σ h).bind fun x h => (evE C b c σ h).bind fun y h => R.of ((insgV x y).map .bl) h
  | .srep a c, σ, h => (evE C b a σ h).bind fun x h => (evE C b c σ h).bind fun y h => R.of (srepV x y) h
  | .dnewu, _, h => .ok (.ref h.length) (h ++ [.diu []])
  | .mint a, σ, h => (evE C b a σ h).bind fun x h => R.of (mintV h x) h
  | .eline a, σ, h => (evE C b a σ h).bind fun x h => R.of (elineV x) h
def evO (C : Calls) (b : Nat) : Oe → En → Hs → R (Option Int)
  | .no, _, h => .ok none h
  | .so e, σ, h => (evE C b e σ h).bind fun x h => match x with
    | .int i => .ok (some i) h
    | _ => .bad
def evEs (C : Calls) (b : Nat) : Es → En → Hs → R (List PV)
  | .nil, _, h => .ok [] h
  | .cons e es, σ, h => (evE C b e σ h).bind fun x h => (evEs C b es σ h).bind fun xs h => .ok (x :: xs) h
def evAnd (C : Calls) (b : Nat) : Es → En → Hs → R PV
  | .nil, _, _ => .bad
  | .cons e es, σ, h => (evE C b e σ h).bind fun x h => match x with
    | .bl true => match es with
      | .nil => .ok (.bl true) h
      | es => evAnd C b es σ h
    | .bl false => .ok (.bl false) h
    | _ => .bad
def evOr (C : Calls) (b : Nat) : Es → En → Hs → R PV
  | .nil, _, _ => .bad
  | .cons e es, σ, h => (evE C b e σ h).bind fun x h => match x with
    | .bl false => match es with
      | .nil => .ok (.bl false) h
      | es => evOr C b es σ h
    | .bl true => .ok (.bl true) h
    | _ => .bad
def evC (C : Calls) (b : Nat) : Es → En → Hs → R Bool
  | .nil, _, h => .ok true h
  | .cons e .nil, σ, h => (evE C b e σ h).bind fun x h => match x with
    | .bl i => .ok i h
    | _ => .bad
  | .cons _ _, _, _ => .bad
def evF (C : Calls) (b : Nat) : F → En → Hs → R (List PV)
  | .disp es, σ, h => evEs C b es σ h
  | .comp t it c e own, σ, h => (evI C b it σ h).bind fun xs h => (compL (fun x h => (evT C b t x (wipe σ own) h).bind fun σ' h => (evC C b c σ' h).bind fun q h =>
      if q then (evE C b e σ' h).bind fun v h => .ok (some v) h else .ok none h) xs h).calm
  | .compw i t e own, σ, h => match liveI σ h i with
    | some (n, xs, ns) => (coW (wch n ns) (fun x h => (evT C b t x (wipe σ own) h).bind fun σ' h => evE C b e σ' h) xs [] h).calm
    | none => .bad
  | .ofI it, σ, h => evI C b it σ h
  | .copy a, σ, h => (evE C b a σ h).bind fun x h => match x with
    | .scr xs => .ok xs h
    | x => R.of (items h x) h
  | .slice a lo hi, σ, h => (evE C b a σ h).bind fun x h => (evO C b lo σ h).bind fun l h => (evO C b hi σ h).bind fun u h => match x with
    | .tup _ => .bad
    | x => R.of ((items h x).map fun xs => cut xs l u) h
  | .rev a, σ, h => (evE C b a σ h).bind fun x h => match x with
    | .tup _ => .bad
    | x => R.of ((items h x).map fun xs => xs.reverse) h
  | .cat a c, σ, h => (evE C b a σ h).bind fun x h => (evE C b c σ h).bind fun y h => match x, y with
    | .tup _, _ => .bad
    | _, .tup _ => .bad
    | x, y => R.of ((items h x).bind fun xs => (items h y).bind fun ys => if xs.length + ys.length ≤ LINE then some (xs ++ ys) else none) h
  | .rep a c, σ, h => (evE C b a σ h).bind fun x h => (evE C b c σ h).bind fun y h => match x, y with
    | .lst xs, .int k => if xs.length * k.toNat ≤ LINE ∧ k < 2 ^ 62 ∧ -(2 ^ 62) ≤ k then .ok (List.replicate k.toNat xs).flatten h else .bad
    | _, _ => .bad
  | .sorted (.ex a), σ, h => (evE C b a σ h).bind fun x h => R.of ((items h x).bind sortV) h
  | .sorted _, _, _ => .bad
  | .sset a, σ, h => (evE C b a σ h).bind fun x h => R.of (ssetV h x) h
  | .dsort a, σ, h => (evE C b a σ h).bind fun x h => R.of (dsortV h x) h
  | .dvs a, σ, h => (evE C b a σ h).bind fun x h => R.of (dvsV h x) h
  | .srtp a, σ, h => (evE C b a σ h).bind fun x h => R.of (srtpV h x) h
  | .spl o a, σ, h => (evE C b o σ h).bind fun x h => if isStrV x then (evE C b a σ h).bind fun y h => R.of (splV x y) h else .bad
  | .wds o, σ, h => (evE C b o σ h).bind fun x h => if isStrV x then R.of (wdsV x) h else .bad
  | .srtt a, σ, h => (evE C b a σ h).bind fun x h => R.of (srttV h x) h
def evI (C : Calls) (b : Nat) : I → En → Hs → R (List PV)
  | .ex e, σ, h => (evE C b e σ h).bind fun x h => match x with
    | .tup xs => .ok xs h
    | .lst xs => .ok xs h
    | .rng lo hi => if (-(2 ^ 61) ≤ lo ∧ lo < 2 ^ 61 ∧ -(2 ^ 61) ≤ hi ∧ hi < 2 ^ 61) ∧ hi - lo ≤ LINE then .ok (rangeL lo hi) h else .bad
    | .dct l => if l.length ≤ LINE then .ok (l.map fun p => .int p.1) h else .bad
    | _ => .bad
  | .rng1 a, σ, h => (evE C b a σ h).bind fun x h => match x with
    | .int i => if i ≤ LINE ∧ -(2 ^ 62) ≤ i then .ok (rangeL 0 i) h else .bad
    | _ => .bad
  | .rng2 a c, σ, h => (evE C b a σ h).bind fun x h => (evE C b c σ h).bind fun y h => match x, y with
    | .int i, .int j => if (-(2 ^ 61) ≤ i ∧ i < 2 ^ 61 ∧ -(2 ^ 61) ≤ j ∧ j < 2 ^ 61) ∧ j - i ≤ LINE then .ok (rangeL i j) h else .bad
    | _, _ => .bad
  | .rng3 a c d, σ, h => .bad
  | .enum a, σ, h => (evE C b a σ h).bind fun x h => R.of (enumV x) h
  | .zip a c, σ, h => (evE C b a σ h).bind fun x h => (evE C b c σ h).bind fun y h => R.of (zipV x y) h
  | .vals _, _, _ => .bad
  | .keys _, _, _ => .bad
  | .zipn es, σ, h => (evEs C b es σ h).bind fun vs h => R.of (zipnV vs) h
  | .comb a c, σ, h => (evE C b a σ h).bind fun x h => (evE C b c σ h).bind fun y h => R.of (cmbV x y) h
  | .chars a, σ, h => (evE C b a σ h).bind fun x h => R.of (charsV x) h
def evT (C : Calls) (b : Nat) : T → PV → En → Hs → R En
  | .nm i, v, σ, h => .ok (σ.set i (some v)) h
  | .tp ts, v, σ, h => match v with
    | .tup vs => if vs.length = ts.len then evTs C b ts vs σ h else .bad
    | .lst vs => if vs.length = ts.len then evTs C b ts vs σ h else .bad
    | _ => .bad
  | .ix o i, v, σ, h => (evE C b o σ h).bind fun x h => (evE C b i σ h).bind fun y h => match putX b x y v h with
    | some h' => .ok σ h'
    | none => .bad
  | .dix d k, v, σ, h => (evE C b d σ h).bind fun x h => (evE C b k σ h).bind fun y h => match dputV b h x y v with
    | some h' => .ok σ h'
    | none => .bad
def evTs (C : Calls) (b : Nat) : Ts → List PV → En → Hs → R En
  | .nil, vs, σ, h => match vs with
    | [] => .ok σ h
    | _ => .bad
  | .cons t ts, vs, σ, h => match vs with
    | v :: vs => (evT C b t v σ h).bind fun σ h => evTs C b ts vs σ h
    | [] => .bad
end
def evIp (o : Op2) (x y : PV) : Option PV := match o, x, y with
  | .add, .int a, .int c => some (.int (a + c))
  | .sub, .int a, .int c => some (.int (a - c))
  | _, _, _ => none
/-- the live lists among these are never changed again -/
def frzEls : List PV → Hs → Option (List PV × Hs)
  | [], h => some ([], h)
  | x :: r, h => match x with
    | .ref m => match h[m]? with
      | some (.lst ys) => (frzEls r (h.set m .dead)).map fun q => (.lst ys :: q.1, q.2)
      | _ => none
    | x => (frzEls r h).map fun q => (x :: q.1, q.2)
/-- a list and the lists in it -/
def frzD (h : Hs) : PV → Option (PV × Hs)
  | .lst xs => (frzEls xs h).map fun q => (.lst q.1, q.2)
  | .ref n => match h[n]? with
    | some (.lst xs) => match frzEls xs h with
      | some (ys, h1) => match h1[n]? with
        | some (.lst _) => some (.lst ys, h1.set n .dead)
        | _ => none
      | none => none
    | _ => none
  | _ => none
mutual
noncomputable def evS (C : Calls) (b : Nat) : St → En → Hs → R Fl
  | .expr e, σ, h => (evE C b e σ h).bind fun _ h => .ok (.nx σ) h
  | .asg t e, σ, h => (evE C b e σ h).bind fun v h => (evT C b t v σ h).bind fun σ h => .ok (.nx σ) h
  | .aug i o e, σ, h => (R.of (σ[i]?).join h).bind fun x h => (evE C b e σ h).bind fun y h => (R.of (evIp o x y) h).bind fun z h => .ok (.nx (σ.set i (some z))) h
  | .augx a i o e, σ, h => .bad
  | .ret e, σ, h => (evE C b e σ h).bind fun v h => .ok (.rt v) h
  | .retN, _, h => .ok (.rt .non) h
  | .ifs c x y, σ, h => (evE C b c σ h).bind fun v h => match v with
    | .bl true => evBl C b x σ h
    | .bl false => evBl C b y σ h
    | _ => .bad
  | .whl c x, σ, h => whW (fun σ h => (evE C b c σ h).bind fun v h => match v with
    | .bl true => (evBl C b x σ h).bind fun fl h => match fl with
      | .nx σ' => .ok (.inl σ') h
      | .ct σ' => .ok (.inl σ') h
      | .bk σ' => .ok (.inr (.nx σ')) h
      | .rt v => .ok (.inr (.rt v)) h
    | .bl false => .ok (.inr (.nx σ)) h
    | _ => .bad) σ h
  | .for_ t it x, σ, h => (evI C b it σ h).bind fun xs h => forL (fun v σ h => (evT C b t v σ h).bind fun σ h => evBl C b x σ h) xs σ h
  | .brk, σ, h => .ok (.bk σ) h
  | .cont, σ, h => .ok (.ct σ) h
  | .pass, σ, h => .ok (.nx σ) h
  | .raise c es, σ, h => (evEs C b es σ h).bind fun _ h => .exc c [] h
  | .try_ k e c i s, σ, h => match evE C b e σ h with
    | .exc d fs h' => if isSub d c then
        ((evBl C b s (match i with | none => σ | some i => σ.set i (some (.exc d fs))) h').bind fun fl h => match fl with
          | .rt v => if v.low h.length then .ok (.rt v) h else .bad
          | _ => .bad).calm else .exc d fs h'
    | .ok v h' => match k with
      | 0 => .ok (.nx σ) h'
      | 1 => .ok (.rt v) h'
      | k + 2 => .ok (.nx (σ.set k (some v))) h'
    | .bad => .bad
  | .dasg j i t k v own, σ, h => match liveI σ h i with
    | some (n, xs, ns) => (dcW (wch n ns) (fun x h => (evT C b t x (wipe σ own) h).bind fun σ' h => (evE C b k σ' h).bind fun kv h => (evE C b v σ' h).bind fun vv h => .ok (kv, vv) h) xs [] h).calm.bind fun kvs h =>
        .ok (.nx (σ.set j (some (.ref h.length)))) (h ++ [.dic kvs])
    | none => .bad
  | .unk, _, _ => .bad
  | .frzv i, σ, h => match (σ[i]?).join with
    | some (.ref n) => match h[n]? with
      | some (.lst xs) => .ok (.nx (σ.set i (some (.lst xs)))) (h.set n .dead)
      | _ => .bad
    | some (.lst _) => .ok (.nx σ) h
    | _ => .bad
  | .frzd i, σ, h => match (σ[i]?).join with
    | some v => match frzD h v with
      | some (w, h') => .ok (.nx (σ.set i (some w))) h'
      | none => .bad
    | none => .bad
  | .frzk i, σ, h => match (σ[i]?).join with
    | some (.ref n) => match h[n]? with
      | some (.dic kvs) => match dctOf kvs with
        | some l => .ok (.nx (σ.set i (some (.dct l)))) (h.set n .dead)
        | none => .bad
      | _ => .bad
    | some (.dct _) => .ok (.nx σ) h
    | _ => .bad
  | .raiseT e, σ, h => (evE C b e σ h).bind fun x h => match x with
    | .int i => .exc 2 [.int i] h
    | _ => .bad
  | .tryT e c i s, σ, h => match evE C b e σ h with
    | .exc d fs h' => if isSub d c then
        ((evBl C b s (σ.set i (some (.exc d fs))) h').bind fun fl h => match fl with
          | .rt v => if v.low h.length then .ok (.rt v) h else .bad
          | _ => .bad).calm else .bad
    | .ok _ h' => .ok (.nx σ) h'
    | .bad => .bad
  | .tryX e c _, σ, h => match evE C b e σ h with
    | .exc d fs h' => if isSub d c then .ok (.rt (.exo d fs)) h' else .bad
    | .ok _ h' => .ok (.nx σ) h'
    | .bad => .bad
noncomputable def evBl (C : Calls) (b : Nat) : Bl → En → Hs → R Fl
  | .nil, σ, h => .ok (.nx σ) h
  | .cons s r, σ, h => (evS C b s σ h).bind fun fl h => match fl with
    | .nx σ' => evBl C b r σ' h
    | fl => .ok fl h
end
structure Fd where
  ar : Nat
  sz : Nat
  tr : Bool
  body : Bl
abbrev Pg := List (Nat × Fd)
def strt (n : Nat) (vs : List PV) : En := vs.map some ++ List.replicate (n - vs.length) none
noncomputable def callD (P : Pg) : Nat → Calls
  | 0, _, _, _, _ => .bad
  | d + 1, f, vs, h, b => match P.lookup f with
    | none => .bad
    | some fd => if vs.length = fd.ar then
        (if fd.tr then (match evBl (callD P d) h.length fd.body (strt fd.sz vs) h with
          | .ok (.rt v) h' => if v.low h.length then .ok v (h'.take h.length) else .bad
          | .ok (.nx _) h' => .ok .non (h'.take h.length)
          | .exc c fs h' => if PV.lows h.length fs then .exc c fs (h'.take h.length) else .bad
          | _ => .bad)
        else (evBl (callD P d) b fd.body (strt fd.sz vs) h).bind fun fl h' => match fl with
          | .rt v => .ok v h'
          | .nx _ => .ok .non h'
          | _ => .bad) else .bad
end Mi
end

section
set_option Elab.async false
set_option linter.all false
set_option maxRecDepth 100000
set_option maxHeartbeats 4000000
/-! SrT: sorted of tuples of ints, index in a tuple, the number of different ints -/
namespace Mi
open PySem PySem.Spec PyProof.Rows L2
section
variable {prog : Program} {w : World} {A : Around} {E : Value → Shared → Prop} {s : Shared}
theorem srtTup {l : Addr} {vs : List Value} {ns : List Int} {Q : Value → Shared → Prop} (ht : s.heap.IsTuple l vs.toArray) (hI : IntsAre vs ns) (hz : vs.length ≤ sizeLine)
    (k : ∀ (g : Heap) (out : List Value), (∀ b o, s.heap.get? b = some o → g.get? b = some o) → IntsAre out (out.map SrtO.iv) → (out.map SrtO.iv).Perm ns → (out.map SrtO.iv).Pairwise (· ≤ ·) →
      Q (.ref g.objs.size) { s with heap := sortedHeap (g.push (seqObj "list" vs.toArray 0)) g.objs.size vs out.toArray }) :
    wpAny (model prog w) A (call (.builtin "sorted") [.ref l]) Q E s := by
  refine (Calls.call_function_entry kind_sorted plain_sorted entry_sorted (args_sorted1 _) (by
    obtain ⟨o, ho, hc, n, hd⟩ := ht
    unfold Builtin.«sorted»
    refine wpAny_bind (m := checkCount "sorted" 1 1 _) (wpAny_pure (wpAny_bind (wpAny_collect_seq l (.inr rfl) ho hc hd (fun g hk => ?_) (by simpa using hz))))
    have hat : (g.push (seqObj "list" vs.toArray 0)).get? g.objs.size = some (seqObj "list" vs.toArray 0) := Heap.get?_push_size _ rfl
    simp only [List.toList_toArray]
    refine wpAny_bind (wpAny_newList (wpAny_bind (wpAny_holding (wpAny_call_entry slot_list_sort ⟨_, hat, rfl⟩ entry_list_sort (SrtO.list_sort_ord SrtO.swo_int hat hz (fun h2 => SrtO.ints_sortable hI h2) fun out u1 u2 => ⟨_, rfl, ?_⟩) (args_list_sort _)))) hz)
    obtain ⟨k1, k2, k3⟩ := SrtO.ints_out hI u1 u2
    exact wpAny_pure ⟨_, rfl, k g out hk k1 k2 k3⟩))
end
section
variable {X : Cx}
def rSrtT (K : PySem.W.Frag) : List V → Hp → VK → Prop := fun vs H Q => ∃ (a : Addr) (ns : List Int), vs = [V.ref a] ∧ (SqL K H a (ns.map V.int) ∨ SqT K H a (ns.map V.int)) ∧
  ∀ (ns' : List Int) (p : Addr), ns'.Perm ns → ns'.Pairwise (· ≤ ·) → H p = none → Q (.ref p) (upd H p (.lst (ns'.map V.int)))
theorem crSrtT : CallR X (.builtin "sorted") (rSrtT X.K) := by
  intro pins s σ H vs us Q I r h
  obtain ⟨a, ns, rfl, hs | hs, q⟩ := h
  · exact cr_sortedI pins s σ H _ us Q I r ⟨a, ns, rfl, hs, q⟩
  · obtain ⟨its, rv, hl, hz⟩ := I.tuple hs
    rw [Vals.ref1 r]
    have hi := rv.ints
    refine srtTup hl hi (by rw [← rv.length]; exact hz) fun g out hk k1 k2 k3 => ?_
    have I1 : Inv X pins σ H { s with heap := g } := I.kept (t' := s.toks) hk
    have hat : (g.push (seqObj "list" its.toArray 0)).get? g.objs.size = some (seqObj "list" its.toArray 0) := Heap.get?_push_size _ rfl
    obtain ⟨ep, he'⟩ := PyProof.Rows.sortedHeap_at (out := out.toArray) hat
    have ll : ((out.map SrtO.iv).map V.int).length ≤ sizeLine := by
      have := k2.length_eq
      rw [List.length_map] at hz ⊢
      rw [this]; exact hz
    have old : ∀ b u, g.get? b = some u → (sortedHeap (g.push (seqObj "list" its.toArray 0)) g.objs.size its out.toArray).get? b = some u := fun b u e => by
      have lt := Heap.lt_size e
      rw [PyProof.Rows.sortedHeap_old (Nat.ne_of_lt lt) (Nat.lt_trans lt (Heap.lt_size hat))]
      exact Heap.get?_push_of_some _ e
    exact ⟨.ref _, upd H g.objs.size (.lst ((out.map SrtO.iv).map V.int)), I1.laid (t' := s.toks) old (Nat.le_refl _) ⟨ll, out, ep, vals_of_ints k1, he'⟩, rfl, q _ _ k2 k3 (I1.hok.fresh (Nat.le_refl _))⟩
/-- index in a tuple of flat values -/
def rTix (K : PySem.W.Frag) : V → List V → Hp → VK → Prop := fun x xs H Q => ∃ (a : Addr) (ys : List V) (y : V) (j : Nat) (z : V), x = V.ref a ∧ xs = [y] ∧ SqT K H a ys ∧ flatV y = true ∧ ys.all flatV = true ∧ ys[j]? = some z ∧ eqV z y = true ∧
  (∀ (m : Nat) (t : V), m < j → ys[m]? = some t → eqV t y = false) ∧ Q (.int (j : Nat)) H
theorem mtTix : MtR X "tuple.index" (rTix X.K) := by
  intro pins s σ H x xs v us Q I rx rxs h
  obtain ⟨a, ys, y, j, z, rfl, rfl, hs, fy, fys, hz, hzj, hno, q⟩ := h
  cases rx
  match us, rxs with
  | [uy], .cons ry .nil =>
    obtain ⟨its, rv, ⟨⟨cls, dd, data, sl⟩, ho, hc, n, hd⟩, hlen⟩ := I.tuple hs
    dsimp only at hc hd
    subst hc hd
    obtain ⟨u, hu, ru⟩ := rv.get hz
    obtain ⟨hjl, hje⟩ := List.getElem?_eq_some_iff.mp hu
    have hj : j < its.toArray.size := by simpa using hjl
    refine call_meets PySem.F.slot_tuple_index ⟨_, ho, rfl⟩ PySem.F.entry_tuple_index (PySem.F.args_tuple_index_2 _ _) (TI.tuple_indexAt a its.toArray n dd sl uy (eqU y) j hj ?_ ?_)
      ⟨ho, fun w hw => mem_eqAt ry fy rv fys w (by simpa using hw), ⟨.int (j : Nat), H, I.tok _, ⟨_, rfl⟩, q⟩⟩
    · have e1 : its.toArray[j] = u := by simpa using hje
      rw [e1, eqU_of ru (flat_at fys hz), hzj]
    · intro m hm hmj
      have hmy : m < ys.length := by have := rv.length; have : m < its.length := by simpa using hm
                                     omega
      have hy' : ys[m]? = some ys[m] := List.getElem?_eq_getElem hmy
      obtain ⟨u2, hu2, ru2⟩ := rv.get hy'
      obtain ⟨_, hme⟩ := List.getElem?_eq_some_iff.mp hu2
      have e1 : its.toArray[m] = u2 := by simpa using hme
      rw [e1, eqU_of ru2 (flat_at fys hy'), hno m _ hmj hy']
theorem fmI_app : ∀ (l : List Int) (acc : List Int) (x : Int), fmI acc (l ++ [x]) = if (fmI acc l).any (· == x) then fmI acc l else fmI acc l ++ [x]
  | [], acc, x => by simp only [List.nil_append, fmI] <;> rfl
  | y :: r, acc, x => by
    rw [List.cons_append]
    unfold fmI
    split
    · exact fmI_app r acc x
    · exact fmI_app r _ x
theorem firstMet_fm {ns : List Int} : ∀ i, i ≤ ns.length → PyProof.Rows.firstMet (fun k => ns.getD k 0) i = fmI [] (ns.take i)
  | 0, _ => rfl
  | i + 1, hi => by
    have lt : i < ns.length := hi
    have e1 : ns.getD i 0 = ns[i] := by simp [lt]
    have e2 : ns.take (i + 1) = ns.take i ++ [ns[i]] := by simp [lt]
    rw [PyProof.Rows.firstMet_succ, firstMet_fm i (by omega), e2, fmI_app, e1]
    rfl
def tLset (K : PySem.W.Frag) (ta : TE) : TE := fun σ H Q => ta σ H fun x H1 => ∃ (a : Addr) (ns : List Int), x = .ref a ∧ (SqL K H1 a (ns.map V.int) ∨ SqT K H1 a (ns.map V.int)) ∧ ns.length ≤ 4000 ∧ Q (.int ((fmI [] ns).length : Nat)) H1
theorem fmI_mem {k : Int} : ∀ (l acc : List Int), k ∈ fmI acc l ↔ k ∈ acc ∨ k ∈ l
  | [], acc => by simp [fmI]
  | x :: r, acc => by
    unfold fmI
    split
    · rename_i c
      rw [fmI_mem r acc, List.mem_cons]
      obtain ⟨y, hy, e⟩ := List.any_eq_true.mp c
      have e : y = x := by simpa using e
      subst e
      constructor
      · rintro (z | z)
        · exact .inl z
        · exact .inr (.inr z)
      · rintro (z | z | z)
        · exact .inl z
        · subst z; exact .inl hy
        · exact .inr z
    · rw [fmI_mem r, List.mem_append, List.mem_singleton, List.mem_cons, or_assoc]
theorem fmI_nd : ∀ (l acc : List Int), acc.Nodup → (fmI acc l).Nodup
  | [], acc, h => h
  | x :: r, acc, h => by
    unfold fmI
    split
    · exact fmI_nd r acc h
    · rename_i c
      refine fmI_nd r _ (List.nodup_append.mpr ⟨h, by simp, fun a ha b hb => ?_⟩)
      rw [List.mem_singleton] at hb
      subst hb
      intro e
      subst e
      exact c (List.any_eq_true.mpr ⟨a, ha, by simp⟩)
/-- two lists without a double, with the same members -/
theorem nd_len {l m : List Int} (h1 : l.Nodup) (h2 : m.Nodup) (h : ∀ k, k ∈ l ↔ k ∈ m) : l.length = m.length :=
  ((List.perm_ext_iff_of_nodup h1 h2).mpr h).length_eq
theorem fmI_len : ∀ (l acc : List Int), (fmI acc l).length ≤ acc.length + l.length
  | [], acc => by simp [fmI]
  | x :: r, acc => by
    unfold fmI
    split
    · have := fmI_len r acc; simp; omega
    · have := fmI_len r (acc ++ [x]); simp at this ⊢; omega
theorem peLset {e : Expr} {ta : TE} {p1 p2 p3 pos : Pos} (hg : Gl X "len") (hm : X.mg "len" = none) (hg2 : Gl X "set") (hm2 : X.mg "set" = none) (he : PE X e ta) (hc : X.calm = true)
    (na : starEach [e] X.env = (false, eval e X.env) :: starEach [] X.env) : PE X (.Call (.Name "len" p1) [.Call (.Name "set" p2) [e] [] p3] [] pos) (tLset X.K ta) :=
  ⟨fun pins s σ H Q I h => Call_ (ld_blt I hg hm boot_len (PyProof.Rows.callWith_builtin1 (PyProof.Rows.args_cons (Call_ (ld_blt I hg2 hm2 boot_set (PyProof.Rows.callWith_type1 (PyProof.Rows.args_cons (thn (he.run pins s σ H _ I h) fun v s1 ⟨x, H1, I1, r1, q1⟩ => PyProof.Rows.args_nil (by
    obtain ⟨l, ns, rfl, hq, hl, q1⟩ := q1
    cases r1
    rcases hq with hq | hq
    case' inr =>
      obtain ⟨its, r, pl, hz⟩ := I1.tuple hq
      refine call_set_tupI ns (I1.ok.hd hc) pl (by simpa using RZ.intsAre_vals r) (by unfold scanBound; omega) fun h' tk c hS hc' hk => PyProof.Rows.args_nil ?_
      obtain ⟨o, es, ep, t, ho, hex, hd, _, nd, hm, hb, hf, hn, _⟩ := hS
      have I2 : Inv X pins σ H1 { s1 with heap := h', toks := tk } := I1.kept fun b o e => hk b o e
      have e1 : es.size = (fmI [] ns).length := by
        have e2 := nd_len nd (fmI_nd ns [] List.nodup_nil) fun k => by
          rw [← hm k, fmI_mem]; simp
        rw [List.length_map, Array.length_toList] at e2
        exact e2
      refine call_len_set ho hex hd hf (by omega) ⟨.int (fmI [] ns).length, H1, I2.tok _, ⟨_, by rw [e1]⟩, q1⟩
    obtain ⟨its, r, pl, hz⟩ := I1.list hq
    have sz : its.toArray.size = ns.length := by rw [List.size_toArray, ← r.length, List.length_map]
    refine call_set_list (I1.ok.hd hc) pl.isList (by simpa using RZ.intsAre_vals r) (by rw [sz]; unfold scanBound; omega) fun h' tk hS hk => PyProof.Rows.args_nil ?_
    have fl := fmI_len ns []
    rw [sz, firstMet_fm ns.length (Nat.le_refl _), List.take_length] at hS
    obtain ⟨o, es, ep, t, ho, hex, hd, _, _, _, hf, hn⟩ := hS
    have I2 : Inv X pins σ H1 { s1 with heap := h', toks := tk } := I1.kept fun b o e => hk b o (Heap.lt_size e) e
    simp only [List.length_nil, Nat.zero_add] at fl
    exact call_len_set ho hex hd hf (by rw [hn] <;> omega) ⟨.int (fmI [] ns).length, H1, I2.tok _, ⟨_, by rw [hn]⟩, q1⟩)) na) na rfl))) rfl) rfl rfl))⟩
end
end Mi
end

section
set_option Elab.async false
set_option linter.all false
set_option maxRecDepth 100000
set_option maxHeartbeats 4000000
/-! ZpN: zip of any number of sequences, each a list or a tuple -/
namespace Mi
open PySem PySem.Spec PyProof.Rows L2
structure ZI where
  k : Bool
  it : Addr
  a : Addr
  its : Array Value
structure ZSep (z TI TO : Addr) (l : List ZI) : Prop where
  TIz : TI ≠ z
  TOz : TO ≠ z
  TITO : TI ≠ TO
  ap : ∀ p ∈ l, p.it ≠ z ∧ p.it ≠ TI ∧ p.it ≠ TO ∧ p.a ≠ z ∧ p.a ≠ TO ∧ ∀ q ∈ l, p.a ≠ q.it
  pw : l.Pairwise fun p q => p.it ≠ q.it
abbrev TupIs (h : Heap) (T : Addr) (xs : List Value) : Prop := h.get? T = some { cls := .type "tuple", data := .seq xs.toArray }
def Ks (i : Nat) (h : Heap) (p : ZI) : Prop := ItK p.k h p.it p.a i ∧ IsK p.k h p.a p.its
inductive Zd (i : Nat) : List ZI → List Value → Prop
  | nil : Zd i [] []
  | cons {p : ZI} {l : List ZI} {x : Value} {xs : List Value} : p.its[i]? = some x → Zd i l xs → Zd i (p :: l) (x :: xs)
theorem Zd.snoc {i : Nat} {p : ZI} {x : Value} (e : p.its[i]? = some x) : ∀ {l : List ZI} {xs : List Value}, Zd i l xs → Zd i (l ++ [p]) (xs ++ [x])
  | _, _, .nil => .cons e .nil
  | _, _, .cons f z => .cons f (z.snoc e)
theorem Zd.len {i : Nat} : ∀ {l : List ZI} {xs : List Value}, Zd i l xs → xs.length = l.length
  | _, _, .nil => rfl
  | _, _, .cons _ z => by simp [z.len]
theorem IsK.at' {k : Bool} {h h' : Heap} {a : Addr} {its : Array Value} (x : IsK k h a its) (q : ∀ o, h.get? a = some o → h'.get? a = some o) : IsK k h' a its := by
  cases k
  · exact Heap.IsList.at x q
  · exact Heap.IsTuple.at x q
theorem Ks.at' {i : Nat} {h h' : Heap} {p : ZI} (x : Ks i h p) (q : ∀ c, c = p.it ∨ c = p.a → ∀ o, h.get? c = some o → h'.get? c = some o) : Ks i h' p :=
  ⟨x.1.at' (q _ (.inl rfl)), x.2.at' (q _ (.inr rfl))⟩
structure InvZ (h0 : Heap) (z TI TO : Addr) (l : List ZI) (i : Nat) (dn rest : List ZI) (h : Heap) : Prop where
  zp : IsZip h z TI TO .ellipsis
  to : ∃ xs os, TupIs h TO (xs ++ os) ∧ os.length = rest.length ∧ Zd i dn xs
  d1 : ∀ p ∈ dn, Ks (i + 1) h p
  d0 : ∀ p ∈ rest, Ks i h p
  sz : h.objs.size = h0.objs.size
  kp : ∀ c o, c ≠ z → c ≠ TO → (∀ p ∈ l, c ≠ p.it) → h0.get? c = some o → h.get? c = some o
def outZ (l : List ZI) (k : Nat) : List (Value × Nat) := (l.map fun p => Value.ref p.it).zipIdx k
section
variable {prog : Program} {w : World} {A : Around} {E : Value → Shared → Prop} {s : Shared} {z TI TO : Addr} {l : List ZI} {i : Nat} {as : List Value}
theorem zipN_next_item {Q : Value → Shared → Prop} (hh : A.handled = none) (S : ZSep z TI TO l) (ne : l ≠ [])
    (hz : IsZip s.heap z TI TO .none) (hTI : TupIs s.heap TI (l.map fun p => Value.ref p.it)) (hTO : TupIs s.heap TO as) (la : as.length = l.length) (ll : l.length ≤ 100) (st : ∀ p ∈ l, Ks i s.heap p) (hlt : ∀ p ∈ l, i < p.its.size)
    (hQ : ∀ xs h' tk, Zd i l xs → IsZip h' z TI TO (rawInt s.heap.objs.size) → TupIs h' TO xs → (∀ p ∈ l, Ks (i + 1) h' p) → TupIs h' s.heap.objs.size xs → h'.objs.size = s.heap.objs.size + 1 →
      (∀ c o, c ≠ z → c ≠ TO → (∀ p ∈ l, c ≠ p.it) → s.heap.get? c = some o → h'.get? c = some o) → Q (.ref s.heap.objs.size) { s with heap := h', toks := tk }) :
    wpAny (model prog w) A (Builtin.«zip.__next__» ⟨[.ref z], []⟩) (fun fin s' => ∃ v, fin = .done (.ret v) ∧ Q v s') E s := by
  obtain ⟨hp, g, d, tk0, os⟩ := s
  show wpAny _ _ (field (.ref z) 2 >>= _) _ _ _
  refine wpAny_bind (wpAny_field hz rfl (x := .bool false) rfl ?_)
  show wpAny _ _ (field (.ref z) 3 >>= _) _ _ _
  refine wpAny_bind (wpAny_field hz rfl (x := .ref TI) rfl ?_)
  refine wpAny_bind (wpAny_seqItems hTI rfl ?_)
  have em : ((l.map fun p => Value.ref p.it).toArray).isEmpty = false := by
    cases l with
    | nil => exact absurd rfl ne
    | cons p r => rfl
  simp only [em]
  show wpAny _ _ (Builtin.SmallTypes.ownedTupleIsFree (.ref z) >>= _) _ _ _
  refine wpAny_bind ?_
  unfold Builtin.SmallTypes.ownedTupleIsFree
  refine wpAny_bind (wpAny_field hz rfl (x := .none) rfl (wpAny_pure ?_))
  simp only [if_true]
  refine wpAny_bind (wpAny_rule ?_)
  refine wpAny_bind (wpAny_field hz rfl (x := .ref TO) rfl ?_)
  refine wpAny_bind (wpAny_setField_rec hz (by simp) fun g0 hz0 hs0 => ?_)
  replace hz0 : IsZip g0 z TI TO .ellipsis := hz0
  replace hs0 : Heap.SameBut z hp g0 := hs0
  refine wpAny_bind ?_
  have st0 : InvZ hp z TI TO l i [] l g0 := ⟨hz0, ⟨[], as, hs0.extBut _ _ S.TOz hTO, la, .nil⟩, fun p h => absurd h (by simp), fun p h => (st p h).at' fun c hc o e => hs0.extBut _ _ (by
      rcases hc with q | q
      · rw [q]; exact (S.ap p h).1
      · rw [q]; exact (S.ap p h).2.2.2.1) e, hs0.1, fun c o cz _ _ e => hs0.extBut _ _ cz e⟩
  refine wpAny_forIn_list _ (fun rest b s' => b = (none, ()) ∧ ∃ dn rs h' tk', dn ++ rs = l ∧ rest = outZ rs dn.length ∧ s' = ⟨h', g, d, tk', os⟩ ∧ InvZ hp z TI TO l i dn rs h') _ ?_ ?_ _ _ ⟨rfl, [], l, g0, tk0, rfl, rfl, rfl, st0⟩
  · intro x rest b s1 hI
    obtain ⟨eb, dn, rs, h1, tk1, el, er, es, V⟩ := hI
    cases rs with
    | nil => cases er
    | cons p r =>
      have ex : x = (Value.ref p.it, dn.length) ∧ rest = outZ r (dn.length + 1) := by
        unfold outZ at er
        rw [List.map_cons, List.zipIdx_cons] at er
        injection er with e1 e2
        exact ⟨e1, e2⟩
      obtain ⟨ex, er'⟩ := ex
      subst ex es eb
      have pm : p ∈ l := by rw [← el]; simp
      obtain ⟨a1, a2, a3, a4, a5, a6⟩ := S.ap p pm
      refine wpAny_bind (wpAny_onRaise ?_)
      show wpAny _ _ (Builtin.SmallTypes.nextOf (.ref p.it) >>= _) _ _ ⟨h1, g, d, tk1, os⟩
      obtain ⟨xs, os', t1, lo, zd⟩ := V.to
      have kp := V.d0 p (by simp)
      refine wpAny_bind ((drawK hh p.k p.it p.a (a6 p pm) p.its).item i _ _ _ (hlt p pm) kp fun x1 p1 tk2 hx1 sn1 hp1 => wpAny_pure ?_)
      replace hp1 : Heap.SameBut p.it h1 p1 := hp1
      cases os' with
      | nil => simp at lo
      | cons o0 os' =>
        have hU1 : TupIs p1 TO (xs ++ o0 :: os') := hp1.extBut _ _ a3.symm t1
        have lt : (xs ++ o0 :: os').length ≤ 100 := by
          have := zd.len
          have e := congrArg List.length el
          simp only [List.length_append, List.length_cons] at lo e ⊢
          omega
        refine wpAny_bind (wpAny_seqItems (s := ⟨p1, g, d, tk2, os⟩) hU1 rfl ?_)
        have eU : (xs ++ o0 :: os').toArray.setIfInBounds dn.length x1 = (xs ++ x1 :: os').toArray := by
          rw [← zd.len]
          simp
        have big : 100 ≤ sizeLine := by decide
        refine wpAny_bind (wpAny_updateSeq (s := ⟨p1, g, d, tk2, os⟩) hU1 rfl ?_ (by rw [List.size_toArray]; omega) (by rw [eU, List.size_toArray]; simp only [List.length_append, List.length_cons] at lt ⊢; omega))
        have hT1 : TupIs (p1.update TO (Obj.mapSeq fun x_2 => x_2.setIfInBounds dn.length x1)) TO (xs ++ x1 :: os') := by
          show Heap.get? _ _ = _
          rw [Heap.get?_update_self _ hU1 rfl]
          simp only [Obj.mapSeq, eU]
          simp
        have hs1 : Heap.SameBut TO p1 (p1.update TO (Obj.mapSeq fun x_2 => x_2.setIfInBounds dn.length x1)) := Heap.SameBut.update ..
        generalize p1.update TO (Obj.mapSeq fun x_2 => x_2.setIfInBounds dn.length x1) = g1 at *
        refine wpAny_bind (wpAny_letGo (wpAny_pure ?_))
        have pw := S.pw
        rw [← el] at pw
        obtain ⟨pw1, pw2, pw3⟩ := List.pairwise_append.mp pw
        obtain ⟨pw4, _⟩ := List.pairwise_cons.mp pw2
        have keep : ∀ q ∈ l, q.it ≠ p.it → ∀ c, c = q.it ∨ c = q.a → ∀ o, h1.get? c = some o → g1.get? c = some o := fun q hq ne c hc o e => by
          obtain ⟨b1, b2, b3, b4, b5, b6⟩ := S.ap q hq
          rcases hc with rfl | rfl
          · exact hs1.extBut _ _ b3 (hp1.extBut _ _ ne e)
          · exact hs1.extBut _ _ b5 (hp1.extBut _ _ (b6 p pm) e)
        have me : Ks (i + 1) g1 p := Ks.at' (h := p1) sn1 fun c hc o e => hs1.extBut _ _ (by
          rcases hc with q | q
          · rw [q]; exact a3
          · rw [q]; exact a5) e
        refine ⟨rfl, dn ++ [p], r, g1, tk2, by rw [← el]; simp, by rw [List.length_append]; exact er', rfl, ⟨hs1.extBut _ _ S.TOz.symm (hp1.extBut _ _ a1.symm V.zp), ⟨xs ++ [x1], os', by simpa using hT1, by simpa using lo, zd.snoc hx1⟩, ?_, ?_, by rw [hs1.1, hp1.1, V.sz], fun c o cz cT ci e => hs1.extBut _ _ cT (hp1.extBut _ _ (ci p pm) (V.kp c o cz cT ci e))⟩⟩
        · intro q hq
          rcases List.mem_append.mp hq with hq | hq
          · exact (V.d1 q hq).at' (keep q (by rw [← el]; simp [hq]) (pw3 q hq p (by simp)))
          · simp only [List.mem_cons, List.mem_nil_iff, or_false] at hq
            subst hq
            exact me
        · intro q hq
          exact (V.d0 q (by simp [hq])).at' (keep q (by rw [← el]; simp [hq]) (pw4 q hq).symm)
  · intro b s1 hI
    obtain ⟨eb, dn, rs, h1, tk1, el, er, es, V⟩ := hI
    have e0 : rs = [] := by
      cases rs with
      | nil => rfl
      | cons p r => unfold outZ at er; rw [List.map_cons, List.zipIdx_cons] at er; cases er
    subst e0 eb es
    rw [List.append_nil] at el
    subst el
    obtain ⟨xs, os', t1, lo, zd⟩ := V.to
    have e1 : os' = [] := by simpa using lo
    subst e1
    rw [List.append_nil] at t1
    show wpAny _ _ (seqItems? (Value.ref TO) >>= _) _ _ _
    refine wpAny_bind (wpAny_seqItems (s := ⟨h1, g, d, tk1, os⟩) t1 rfl ?_)
    have big : 100 ≤ sizeLine := by decide
    refine wpAny_bind (wpAny_newTuple ?_ (by have := zd.len; simp only [List.toList_toArray] at *; omega))
    rw [List.toList_toArray]
    show wpAny _ _ (Builtin.SmallTypes.ownedTupleHandOut (.ref z) (.ref h1.objs.size) >>= _) _ _ ⟨h1.push { cls := .type "tuple", data := .seq xs.toArray }, g, d, tk1, os⟩
    refine wpAny_bind ?_
    unfold Builtin.SmallTypes.ownedTupleHandOut
    have z6 : IsZip (h1.push { cls := .type "tuple", data := .seq xs.toArray }) z TI TO .ellipsis := Heap.get?_push_of_some _ V.zp
    have T6 : TupIs (h1.push { cls := .type "tuple", data := .seq xs.toArray }) h1.objs.size xs := Heap.get?_push_size _ rfl
    have k6 : ∀ c o, h1.get? c = some o → (h1.push { cls := .type "tuple", data := .seq xs.toArray }).get? c = some o := fun c o e => Heap.get?_push_of_some _ e
    have s6 : (h1.push { cls := .type "tuple", data := .seq xs.toArray }).objs.size = h1.objs.size + 1 := by rw [Heap.size_push]
    generalize h1.push { cls := .type "tuple", data := .seq xs.toArray } = h6 at *
    refine wpAny_bind (wpAny_setField_rec z6 (by simp) fun h7 z7 q7 => ?_)
    replace z7 : IsZip h7 z TI TO (rawInt h1.objs.size) := z7
    refine wpAny_setField_rec z7 (by simp) fun h8 z8 q8 => ?_
    replace z8 : IsZip h8 z TI TO (rawInt h1.objs.size) := z8
    replace q7 : Heap.SameBut z h6 h7 := q7
    replace q8 : Heap.SameBut z h7 h8 := q8
    have up : ∀ c o, c ≠ z → h6.get? c = some o → h8.get? c = some o := fun c o cz e => q8.extBut _ _ cz (q7.extBut _ _ cz e)
    have zl : z < h1.objs.size := Heap.lt_size V.zp
    have s8 : h8.objs.size = hp.objs.size + 1 := by rw [q8.1, q7.1, s6, V.sz]
    have sz1 : h1.objs.size = hp.objs.size := V.sz
    refine wpAny_pure ⟨_, rfl, ?_⟩
    show Q (.ref h1.objs.size) ⟨h8, g, d, tk1, os⟩
    have T8 := up _ _ (Nat.ne_of_gt zl) T6
    rw [sz1] at z8 T8 ⊢
    refine hQ xs h8 tk1 zd z8 (up _ _ S.TOz (k6 _ _ t1)) (fun p hp' => (V.d1 p hp').at' fun c hc o e => up c o (by
      rcases hc with q | q
      · rw [q]; exact (S.ap p hp').1
      · rw [q]; exact (S.ap p hp').2.2.2.1) (k6 _ _ e)) T8 s8 fun c o cz cT ci e => up c o cz (k6 _ _ (V.kp c o cz cT ci e))
theorem zipN_next_end {Q : Fin → Shared → Prop} (hh : A.handled = none) (S : ZSep z TI TO l) (ne : l ≠ [])
    (hz : IsZip s.heap z TI TO .none) (hTI : TupIs s.heap TI (l.map fun p => Value.ref p.it)) (hTO : TupIs s.heap TO as) (la : as.length = l.length) (ll : l.length ≤ 100) (st : ∀ p ∈ l, Ks i s.heap p) (hle : ∀ p ∈ l, i ≤ p.its.size) (hend : ∃ p ∈ l, i = p.its.size)
    (hE : ∀ h' tk e, (∀ c o, c ≠ z → c ≠ TO → (∀ p ∈ l, c ≠ p.it) → s.heap.get? c = some o → h'.get? c = some o) → (∃ o, h'.get? e = some o ∧ o.cls = .type "StopIteration") → E (.ref e) { s with heap := h', toks := tk }) :
    wpAny (model prog w) A (Builtin.«zip.__next__» ⟨[.ref z], []⟩) Q E s := by
  obtain ⟨hp, g, d, tk0, os⟩ := s
  show wpAny _ _ (field (.ref z) 2 >>= _) _ _ _
  refine wpAny_bind (wpAny_field hz rfl (x := .bool false) rfl ?_)
  show wpAny _ _ (field (.ref z) 3 >>= _) _ _ _
  refine wpAny_bind (wpAny_field hz rfl (x := .ref TI) rfl ?_)
  refine wpAny_bind (wpAny_seqItems hTI rfl ?_)
  have em : ((l.map fun p => Value.ref p.it).toArray).isEmpty = false := by
    cases l with
    | nil => exact absurd rfl ne
    | cons p r => rfl
  simp only [em]
  show wpAny _ _ (Builtin.SmallTypes.ownedTupleIsFree (.ref z) >>= _) _ _ _
  refine wpAny_bind ?_
  unfold Builtin.SmallTypes.ownedTupleIsFree
  refine wpAny_bind (wpAny_field hz rfl (x := .none) rfl (wpAny_pure ?_))
  simp only [if_true]
  refine wpAny_bind (wpAny_rule ?_)
  refine wpAny_bind (wpAny_field hz rfl (x := .ref TO) rfl ?_)
  refine wpAny_bind (wpAny_setField_rec hz (by simp) fun g0 hz0 hs0 => ?_)
  replace hz0 : IsZip g0 z TI TO .ellipsis := hz0
  replace hs0 : Heap.SameBut z hp g0 := hs0
  refine wpAny_bind ?_
  have st0 : InvZ hp z TI TO l i [] l g0 := ⟨hz0, ⟨[], as, hs0.extBut _ _ S.TOz hTO, la, .nil⟩, fun p h => absurd h (by simp), fun p h => (st p h).at' fun c hc o e => hs0.extBut _ _ (by
      rcases hc with q | q
      · rw [q]; exact (S.ap p h).1
      · rw [q]; exact (S.ap p h).2.2.2.1) e, hs0.1, fun c o cz _ _ e => hs0.extBut _ _ cz e⟩
  refine wpAny_forIn_list _ (fun rest b s' => b = (none, ()) ∧ ∃ dn rs h' tk', dn ++ rs = l ∧ rest = outZ rs dn.length ∧ s' = ⟨h', g, d, tk', os⟩ ∧ InvZ hp z TI TO l i dn rs h' ∧ ∃ p ∈ rs, i = p.its.size) _ ?_ ?_ _ _ ⟨rfl, [], l, g0, tk0, rfl, rfl, rfl, st0, hend⟩
  · intro x rest b s1 hI
    obtain ⟨eb, dn, rs, h1, tk1, el, er, es, V, hen⟩ := hI
    cases rs with
    | nil => cases er
    | cons p r =>
      have ex : x = (Value.ref p.it, dn.length) ∧ rest = outZ r (dn.length + 1) := by
        unfold outZ at er
        rw [List.map_cons, List.zipIdx_cons] at er
        injection er with e1 e2
        exact ⟨e1, e2⟩
      obtain ⟨ex, er'⟩ := ex
      subst ex es eb
      have pm : p ∈ l := by rw [← el]; simp
      obtain ⟨a1, a2, a3, a4, a5, a6⟩ := S.ap p pm
      refine wpAny_bind (wpAny_onRaise ?_)
      show wpAny _ _ (Builtin.SmallTypes.nextOf (.ref p.it) >>= _) _ _ ⟨h1, g, d, tk1, os⟩
      obtain ⟨xs, os', t1, lo, zd⟩ := V.to
      have kp := V.d0 p (by simp)
      by_cases hlt : i < p.its.size
      · refine wpAny_bind ((drawK hh p.k p.it p.a (a6 p pm) p.its).item i _ _ _ hlt kp fun x1 p1 tk2 hx1 sn1 hp1 => wpAny_pure ?_)
        replace hp1 : Heap.SameBut p.it h1 p1 := hp1
        cases os' with
        | nil => simp at lo
        | cons o0 os' =>
          have hU1 : TupIs p1 TO (xs ++ o0 :: os') := hp1.extBut _ _ a3.symm t1
          have lt : (xs ++ o0 :: os').length ≤ 100 := by
            have := zd.len
            have e := congrArg List.length el
            simp only [List.length_append, List.length_cons] at lo e ⊢
            omega
          refine wpAny_bind (wpAny_seqItems (s := ⟨p1, g, d, tk2, os⟩) hU1 rfl ?_)
          have eU : (xs ++ o0 :: os').toArray.setIfInBounds dn.length x1 = (xs ++ x1 :: os').toArray := by
            rw [← zd.len]
            simp
          have big : 100 ≤ sizeLine := by decide
          refine wpAny_bind (wpAny_updateSeq (s := ⟨p1, g, d, tk2, os⟩) hU1 rfl ?_ (by rw [List.size_toArray]; omega) (by rw [eU, List.size_toArray]; simp only [List.length_append, List.length_cons] at lt ⊢; omega))
          have hT1 : TupIs (p1.update TO (Obj.mapSeq fun x_2 => x_2.setIfInBounds dn.length x1)) TO (xs ++ x1 :: os') := by
            show Heap.get? _ _ = _
            rw [Heap.get?_update_self _ hU1 rfl]
            simp only [Obj.mapSeq, eU]
            simp
          have hs1 : Heap.SameBut TO p1 (p1.update TO (Obj.mapSeq fun x_2 => x_2.setIfInBounds dn.length x1)) := Heap.SameBut.update ..
          generalize p1.update TO (Obj.mapSeq fun x_2 => x_2.setIfInBounds dn.length x1) = g1 at *
          refine wpAny_bind (wpAny_letGo (wpAny_pure ?_))
          have pw := S.pw
          rw [← el] at pw
          obtain ⟨pw1, pw2, pw3⟩ := List.pairwise_append.mp pw
          obtain ⟨pw4, _⟩ := List.pairwise_cons.mp pw2
          have keep : ∀ q ∈ l, q.it ≠ p.it → ∀ c, c = q.it ∨ c = q.a → ∀ o, h1.get? c = some o → g1.get? c = some o := fun q hq ne c hc o e => by
            obtain ⟨b1, b2, b3, b4, b5, b6⟩ := S.ap q hq
            rcases hc with rfl | rfl
            · exact hs1.extBut _ _ b3 (hp1.extBut _ _ ne e)
            · exact hs1.extBut _ _ b5 (hp1.extBut _ _ (b6 p pm) e)
          have me : Ks (i + 1) g1 p := Ks.at' (h := p1) sn1 fun c hc o e => hs1.extBut _ _ (by
            rcases hc with q | q
            · rw [q]; exact a3
            · rw [q]; exact a5) e
          refine ⟨rfl, dn ++ [p], r, g1, tk2, by rw [← el]; simp, by rw [List.length_append]; exact er', rfl, ⟨hs1.extBut _ _ S.TOz.symm (hp1.extBut _ _ a1.symm V.zp), ⟨xs ++ [x1], os', by simpa using hT1, by simpa using lo, zd.snoc hx1⟩, ?_, ?_, by rw [hs1.1, hp1.1, V.sz], fun c o cz cT ci e => hs1.extBut _ _ cT (hp1.extBut _ _ (ci p pm) (V.kp c o cz cT ci e))⟩, ?_⟩
          · intro q hq
            rcases List.mem_append.mp hq with hq | hq
            · exact (V.d1 q hq).at' (keep q (by rw [← el]; simp [hq]) (pw3 q hq p (by simp)))
            · simp only [List.mem_cons, List.mem_nil_iff, or_false] at hq
              subst hq
              exact me
          · intro q hq
            exact (V.d0 q (by simp [hq])).at' (keep q (by rw [← el]; simp [hq]) (pw4 q hq).symm)
          · obtain ⟨q, hq, eq⟩ := hen
            rcases List.mem_cons.mp hq with e | hq
            · subst e; omega
            · exact ⟨q, hq, eq⟩
      · have ei : i = p.its.size := by have := hle p pm; omega
        refine wpAny_bind ((drawK hh p.k p.it p.a (a6 p pm) p.its).done ⟨h1, g, d, tk1, os⟩ _ _ (by rw [← ei]; exact kp) fun q e hq he => ?_)
        replace hq : Heap.ExtBut p.it h1 q := hq
        obtain ⟨oe, hoe, hce⟩ := he
        replace hoe : q.get? e = some oe := hoe
        have zq : IsZip q z TI TO .ellipsis := hq _ _ a1.symm V.zp
        have ez : e ≠ z := fun x => by subst x; rw [zq] at hoe; cases hoe; simp at hce
        refine wpAny_setField_rec (s := ⟨q, g, d, tk1, os⟩) zq (by simp) fun q' _ hq' => ?_
        replace hq' : Heap.SameBut z q q' := hq'
        exact hE q' tk1 e (fun c o cz cT ci x => hq'.extBut _ _ cz (hq _ _ (ci p pm) (V.kp c o cz cT ci x))) ⟨oe, hq'.extBut _ _ ez hoe, hce⟩
  · intro b s1 hI
    obtain ⟨eb, dn, rs, h1, tk1, el, er, es, V, p, hp', _⟩ := hI
    cases rs with
    | nil => cases hp'
    | cons p r => unfold outZ at er; rw [List.map_cons, List.zipIdx_cons] at er; cases er
end
end Mi
end

section
set_option Elab.async false
set_option linter.all false
set_option maxRecDepth 100000
set_option maxHeartbeats 4000000
/-! ZpN2: zip of four, begun -/
namespace Mi
open PySem PySem.Spec PyProof.Rows L2
def pu4 (h : Heap) (a b c d : PySem.Obj) : Heap := (((h.push a).push b).push c).push d
def tu4 (h : Heap) : PySem.Obj := { cls := .type "tuple", data := .seq #[.ref h.objs.size, .ref (h.objs.size + 1), .ref (h.objs.size + 2), .ref (h.objs.size + 3)] }
def no4 : PySem.Obj := { cls := .type "tuple", data := .seq #[.none, .none, .none, .none] }
def zi4 (h : Heap) : PySem.Obj := { cls := .type "zip", data := .fields #[.none, .bool false, .bool false, .ref (h.objs.size + 4), .ref (h.objs.size + 5)] }
def zh4 (h : Heap) (a b c d : PySem.Obj) : Heap := (((pu4 h a b c d).push (tu4 h)).push no4).push (zi4 h)
theorem chk_zip4 (a b c d : Value) : checkTypeCall "zip" ⟨[a, b, c, d], []⟩ = pure () := by kernel_rfl
theorem chk_zipnew4 (a b c d : Value) : checkBuiltinCall "zip.__new__" ⟨[.type "zip", a, b, c, d], []⟩ = pure () := by kernel_rfl
theorem args_init5 (obj a b c d : Value) : argsOk "object.__init__" ⟨[obj, a, b, c, d], []⟩ := by unfold argsOk; kernel_rfl
theorem new_zip4 {v1 v2 v3 v4 : Value} {o1 o2 o3 o4 : PySem.Obj} {H1 H2 H3 H4 : Heap → Prop} (B1 : Begins v1 o1 H1) (B2 : Begins v2 o2 H2) (B3 : Begins v3 o3 H3) (B4 : Begins v4 o4 H4) :
    Meets (Builtin.«zip.__new__» ⟨[.type "zip", v1, v2, v3, v4], []⟩) (fun _ R s => (H1 s.heap ∧ H2 s.heap ∧ H3 s.heap ∧ H4 s.heap) ∧
      R (.ok (.ret (.ref (s.heap.objs.size + 6)))) { s with heap := zh4 s.heap o1 o2 o3 o4 }) :=
  .of_wp fun prog w A R s h => by
    obtain ⟨hp, g, d, tk, os⟩ := s
    obtain ⟨⟨h1, h2, h3, h4⟩, h⟩ := h
    have hsub := sub_zip
    have q1 : ∀ {A' : Around} {E : Value → Shared → Prop} {Q : Value → Shared → Prop}, Q (.ref hp.objs.size) ⟨(hp.push o1), g, d, tk, os⟩ → wpAny (model prog w) A' (pyIter v1) Q E ⟨hp, g, d, tk, os⟩ :=
      fun q => B1.iter prog w _ _ ⟨hp, g, d, tk, os⟩ _ h1 q
    have q2 : ∀ {A' : Around} {E : Value → Shared → Prop} {Q : Value → Shared → Prop}, Q (.ref (hp.push o1).objs.size) ⟨((hp.push o1).push o2), g, d, tk, os⟩ → wpAny (model prog w) A' (pyIter v2) Q E ⟨(hp.push o1), g, d, tk, os⟩ :=
      fun q => B2.iter prog w _ _ ⟨(hp.push o1), g, d, tk, os⟩ _ (B2.keeps _ _ h2 fun b o' e => Heap.get?_push_of_some _ e) q
    have q3 : ∀ {A' : Around} {E : Value → Shared → Prop} {Q : Value → Shared → Prop}, Q (.ref ((hp.push o1).push o2).objs.size) ⟨(((hp.push o1).push o2).push o3), g, d, tk, os⟩ → wpAny (model prog w) A' (pyIter v3) Q E ⟨((hp.push o1).push o2), g, d, tk, os⟩ :=
      fun q => B3.iter prog w _ _ ⟨((hp.push o1).push o2), g, d, tk, os⟩ _ (B3.keeps _ _ h3 fun b o' e => Heap.get?_push_of_some _ (Heap.get?_push_of_some _ e)) q
    have q4 : ∀ {A' : Around} {E : Value → Shared → Prop} {Q : Value → Shared → Prop}, Q (.ref (((hp.push o1).push o2).push o3).objs.size) ⟨((((hp.push o1).push o2).push o3).push o4), g, d, tk, os⟩ → wpAny (model prog w) A' (pyIter v4) Q E ⟨(((hp.push o1).push o2).push o3), g, d, tk, os⟩ :=
      fun q => B4.iter prog w _ _ ⟨(((hp.push o1).push o2).push o3), g, d, tk, os⟩ _ (B4.keeps _ _ h4 fun b o' e => Heap.get?_push_of_some _ (Heap.get?_push_of_some _ (Heap.get?_push_of_some _ e))) q
    have e1 : (hp.push o1).objs.size = hp.objs.size + 1 := by rw [Heap.size_push]
    have e2 : ((hp.push o1).push o2).objs.size = hp.objs.size + 2 := by rw [Heap.size_push, e1]
    have e3 : (((hp.push o1).push o2).push o3).objs.size = hp.objs.size + 3 := by rw [Heap.size_push, e2]
    have e4 : ((((hp.push o1).push o2).push o3).push o4).objs.size = hp.objs.size + 4 := by rw [Heap.size_push, e3]
    wp_walk using q1, q2, q3, q4
    simp only [e1, e2, e3, e4, Heap.size_push]
    exact ⟨_, rfl, h⟩
end Mi
end

section
set_option Elab.async false
set_option linter.all false
set_option maxRecDepth 100000
set_option maxHeartbeats 4000000
/-! ZpN3: zip of four for the hand layer -/
namespace Mi
open PySem PySem.Spec PyProof.Rows L2
inductive SqA (K : PySem.W.Frag) (H : Hp) : List (Bool × Addr) → List (List V) → Prop
  | nil : SqA K H [] []
  | cons {k : Bool} {a : Addr} {xs : List V} {l : List (Bool × Addr)} {xss : List (List V)} : SqK k K H a xs → SqA K H l xss → SqA K H ((k, a) :: l) (xs :: xss)
inductive RowAt (i : Nat) : List (List V) → List V → Prop
  | nil : RowAt i [] []
  | cons {xs : List V} {x : V} {xss : List (List V)} {ys : List V} : xs[i]? = some x → RowAt i xss ys → RowAt i (xs :: xss) (x :: ys)
def ItzN (K : PySem.W.Frag) (l : List (Bool × Addr)) : It :=
  ⟨fun i H => ∃ xss, SqA K H l xss ∧ ∀ xs ∈ xss, i < xs.length,
    fun i H v H' => ∃ (T : Addr) (ob : PySem.Obj) (ys : List V), v = .ref T ∧ H T = none ∧ ob.dict = none ∧ H' = upd H T (.frz ob (.tup ys)) ∧ ∀ xss, SqA K H l xss → RowAt i xss ys,
    fun i H => ∃ xss, SqA K H l xss ∧ (∀ xs ∈ xss, i ≤ xs.length) ∧ ∃ xs ∈ xss, i = xs.length⟩
def ZI.key (p : ZI) : Bool × Addr := (p.k, p.a)
def ZI.ky (p : ZI) : Bool × Addr × Addr := (p.k, p.it, p.a)
theorem ky_mem {l l1 : List ZI} (e : l1.map ZI.ky = l.map ZI.ky) {p : ZI} (h : p ∈ l1) : ∃ q ∈ l, q.k = p.k ∧ q.it = p.it ∧ q.a = p.a := by
  have : p.ky ∈ l.map ZI.ky := by rw [← e]; exact List.mem_map.mpr ⟨p, h, rfl⟩
  obtain ⟨q, hq, eq⟩ := List.mem_map.mp this
  simp only [ZI.ky, Prod.mk.injEq] at eq
  exact ⟨q, hq, eq⟩
theorem ky_it {l l1 : List ZI} (e : l1.map ZI.ky = l.map ZI.ky) : (l1.map fun p => p.it) = l.map fun p => p.it := by
  have := congrArg (List.map fun q : Bool × Addr × Addr => q.2.1) e
  simpa [List.map_map, Function.comp_def, ZI.ky] using this
theorem ZSep.ky {z TI TO : Addr} {l l1 : List ZI} (S : ZSep z TI TO l) (e : l1.map ZI.ky = l.map ZI.ky) : ZSep z TI TO l1 where
  TIz := S.TIz
  TOz := S.TOz
  TITO := S.TITO
  ap := fun p hp => by
    obtain ⟨q, hq, e1, e2, e3⟩ := ky_mem e hp
    obtain ⟨a1, a2, a3, a4, a5, a6⟩ := S.ap q hq
    rw [← e2, ← e3]
    refine ⟨a1, a2, a3, a4, a5, fun r hr => ?_⟩
    obtain ⟨t, ht, f1, f2, f3⟩ := ky_mem e hr
    rw [← f2]
    exact a6 t ht
  pw := by
    have h := S.pw
    have : (l.map fun p => p.it).Pairwise (· ≠ ·) := List.pairwise_map.mpr h
    rw [← ky_it e] at this
    exact List.pairwise_map.mp this
section
variable {X : Cx} {pins : List (Addr × PySem.Obj)} {σ : L2.St} {H : Hp} {s : Shared}
/-- what the machine holds for the sequences -/
theorem sqA_at (I : Inv X pins σ H s) : ∀ {l : List ZI} {xss : List (List V)}, SqA X.K H (l.map ZI.key) xss → ∃ l1 : List ZI, l1.map ZI.ky = l.map ZI.ky ∧ (∀ p ∈ l1, IsK p.k s.heap p.a p.its) ∧ l1.length = xss.length ∧ ∀ (j : Nat) (p : ZI) (xs : List V), l1[j]? = some p → xss[j]? = some xs → ∃ its, Vals xs its ∧ p.its = its.toArray
  | [], xss, h => by
    cases h
    exact ⟨[], rfl, fun p hp => absurd hp (by simp), rfl, fun j p xs e => by simp at e⟩
  | q :: l, xss, h => by
    cases h with
    | cons a r =>
      obtain ⟨its, rv, p1, _⟩ := sqK_at I a
      obtain ⟨l1, e, f, g, k⟩ := sqA_at I r
      refine ⟨⟨q.k, q.it, q.a, its.toArray⟩ :: l1, by simp [ZI.ky, e] , ?_, by simp [g], ?_⟩
      · intro p hp
        rcases List.mem_cons.mp hp with h | h
        · subst h; exact p1
        · exact f p h
      · intro j p xs e1 e2
        cases j with
        | zero =>
          simp only [List.getElem?_cons_zero, Option.some.injEq] at e1 e2
          subst e1 e2
          exact ⟨its, rv, rfl⟩
        | succ j => exact k j p xs (by simpa using e1) (by simpa using e2)
theorem sqA_inj (I : Inv X pins σ H s) : ∀ {l : List (Bool × Addr)} {xss yss : List (List V)}, SqA X.K H l xss → SqA X.K H l yss → xss = yss
  | _, _, _, .nil, .nil => rfl
  | _, _, _, .cons a r, .cons b t => by rw [sqK_inj I a b, sqA_inj I r t]
end
theorem vals_back {xs : List V} {us : List Value} {i : Nat} {u : Value} (r : Vals xs us) (e : us[i]? = some u) : ∃ x, xs[i]? = some x ∧ RelV x u := by
  have l := r.length
  have h := (List.getElem?_eq_some_iff.mp e).1
  obtain ⟨w, e2, q⟩ := r.get (i := i) (x := xs[i]'(by omega)) (by simp)
  rw [e] at e2
  cases e2
  exact ⟨_, by simp, q⟩
theorem zd_row {i : Nat} : ∀ {l1 : List ZI} {xss : List (List V)} {us : List Value}, Zd i l1 us → l1.length = xss.length → (∀ (j : Nat) (p : ZI) (xs : List V), l1[j]? = some p → xss[j]? = some xs → ∃ its, Vals xs its ∧ p.its = its.toArray) → ∃ ys, RowAt i xss ys ∧ Vals ys us
  | _, xss, _, .nil, e, _ => by
    cases xss with
    | nil => exact ⟨[], .nil, .nil⟩
    | cons _ _ => simp at e
  | _, xss, _, .cons (p := p) (l := l) (x := u) (xs := us) hx z, e, k => by
    cases xss with
    | nil => simp at e
    | cons xs xss =>
      obtain ⟨its, rv, ei⟩ := k 0 p xs (by simp) (by simp)
      obtain ⟨ys, r, v⟩ := zd_row z (by simpa using e) (fun j q ys h1 h2 => k (j + 1) q ys (by simpa using h1) (by simpa using h2))
      rw [ei] at hx
      have hx : its[i]? = some u := by simpa using hx
      obtain ⟨x, ex, rx⟩ := vals_back rv hx
      exact ⟨x :: ys, .cons ex r, .cons rx v⟩

theorem row_sz {l1 : List ZI} {xss : List (List V)} (hl : l1.length = xss.length) (hk : ∀ (j : Nat) (p : ZI) (xs : List V), l1[j]? = some p → xss[j]? = some xs → ∃ its, Vals xs its ∧ p.its = its.toArray) {p : ZI} (hp : p ∈ l1) : ∃ xs ∈ xss, p.its.size = xs.length := by
  obtain ⟨j, hj⟩ := List.mem_iff_getElem?.mp hp
  have lj := (List.getElem?_eq_some_iff.mp hj).1
  have e : xss[j]? = some (xss[j]'(by omega)) := by simp
  obtain ⟨its, rv, ei⟩ := hk j p _ hj e
  exact ⟨_, List.mem_of_getElem? e, by rw [ei, List.size_toArray, ← rv.length]⟩
theorem row_sz' {l1 : List ZI} {xss : List (List V)} (hl : l1.length = xss.length) (hk : ∀ (j : Nat) (p : ZI) (xs : List V), l1[j]? = some p → xss[j]? = some xs → ∃ its, Vals xs its ∧ p.its = its.toArray) {xs : List V} (hx : xs ∈ xss) : ∃ p ∈ l1, p.its.size = xs.length := by
  obtain ⟨j, hj⟩ := List.mem_iff_getElem?.mp hx
  have lj := (List.getElem?_eq_some_iff.mp hj).1
  have e : l1[j]? = some (l1[j]'(by omega)) := by simp
  obtain ⟨its, rv, ei⟩ := hk j _ xs e hj
  exact ⟨_, List.mem_of_getElem? e, by rw [ei, List.size_toArray, ← rv.length]⟩
section
variable {prog : Program} {w : World} {A : Around} {E : Value → Shared → Prop} {s : Shared} {z TI TO : Addr} {l : List ZI} {i : Nat} {as : List Value}
theorem pyNext_zipN_item {Q : Option Value → Shared → Prop} (hh : A.in1.handled = none) (S : ZSep z TI TO l) (ne : l ≠ [])
    (hz : IsZip s.heap z TI TO .none) (hTI : TupIs s.heap TI (l.map fun p => Value.ref p.it)) (hTO : TupIs s.heap TO as) (la : as.length = l.length) (ll : l.length ≤ 100) (st : ∀ p ∈ l, Ks i s.heap p) (hlt : ∀ p ∈ l, i < p.its.size)
    (hQ : ∀ xs h' tk, Zd i l xs → IsZip h' z TI TO (rawInt s.heap.objs.size) → TupIs h' TO xs → (∀ p ∈ l, Ks (i + 1) h' p) → TupIs h' s.heap.objs.size xs → h'.objs.size = s.heap.objs.size + 1 →
      (∀ c o, c ≠ z → c ≠ TO → (∀ p ∈ l, c ≠ p.it) → s.heap.get? c = some o → h'.get? c = some o) → Q (some (.ref s.heap.objs.size)) { s with heap := h', toks := tk }) :
    wpAny (model prog w) A (pyNext (.ref z)) Q E s := by
  have hT : s.TypeIs (.ref z) "zip" := ⟨_, hz, rfl⟩
  unfold pyNext
  exact wpAny_bind (wpAny_attempt (wpAny_callSpecial?_slot (name := Str.ofString "__next__") hT F.slot_zip_next
    (wpAny_call_entry F.slot_zip_next hT F.entry_zip_next
      (zipN_next_item hh S ne hz hTI hTO la ll st hlt fun xs h' tk a b c d e f g => wpAny_pure (hQ xs h' tk a b c d e f g)) (F.args_zip_next_1 _))))
theorem pyNext_zipN_end {Q : Option Value → Shared → Prop} (hh : A.in1.handled = none) (S : ZSep z TI TO l) (ne : l ≠ [])
    (hz : IsZip s.heap z TI TO .none) (hTI : TupIs s.heap TI (l.map fun p => Value.ref p.it)) (hTO : TupIs s.heap TO as) (la : as.length = l.length) (ll : l.length ≤ 100) (st : ∀ p ∈ l, Ks i s.heap p) (hle : ∀ p ∈ l, i ≤ p.its.size) (hend : ∃ p ∈ l, i = p.its.size)
    (hQ : ∀ h' tk, (∀ c o, c ≠ z → c ≠ TO → (∀ p ∈ l, c ≠ p.it) → s.heap.get? c = some o → h'.get? c = some o) → Q none { s with heap := h', toks := tk }) :
    wpAny (model prog w) A (pyNext (.ref z)) Q E s := by
  have hT : s.TypeIs (.ref z) "zip" := ⟨_, hz, rfl⟩
  unfold pyNext
  refine wpAny_bind (wpAny_attempt (wpAny_callSpecial?_slot (name := Str.ofString "__next__") hT F.slot_zip_next
    (wpAny_call_entry F.slot_zip_next hT F.entry_zip_next (zipN_next_end hh S ne hz hTI hTO la ll st hle hend fun h' tk e hk he => ?_) (F.args_zip_next_1 _))))
  obtain ⟨o, ho, hc⟩ := he
  refine wpAny_bind (wpAny_isInstance (T := "StopIteration") (b := true) ⟨o, ho, hc⟩ isSubtype_stop ?_)
  exact wpAny_pure (hQ _ _ hk)
end
def fpN (z TI TO : Addr) (l : List ZI) : List Addr := z :: TI :: TO :: l.map fun p => p.it
theorem fpN_it {z TI TO : Addr} {l : List ZI} {p : ZI} (h : p ∈ l) : p.it ∈ fpN z TI TO l := by
  unfold fpN
  simp only [List.mem_cons]
  exact .inr (.inr (.inr (List.mem_map.mpr ⟨p, h, rfl⟩)))
def tnN (z TI TO : Addr) (l : List ZI) (i : Nat) (h : Heap) : Prop :=
  IsZip h z TI TO .none ∧ TupIs h TI (l.map fun p => Value.ref p.it) ∧ (∃ as, TupIs h TO as ∧ as.length = l.length) ∧ ∀ p ∈ l, ItK p.k h p.it p.a i
theorem turnZN {P : Program} {w : World} {K : PySem.W.Frag} {el : List Expr} {kk : Nat} {tp : Pos} {z TI TO : Addr} {l : List ZI} (S : ZSep z TI TO l) (ne : l ≠ []) (ll : l.length ≤ 100) :
    Turn P w K (.Tuple el kk tp) (ItzN K (l.map ZI.key)) (fpN z TI TO l) z (tnN z TI TO l) where
  mem := by simp [fpN]
  obj := fun i h st c hc => by
    obtain ⟨g0, g1, ⟨as, g2, _⟩, e⟩ := st
    simp only [fpN, List.mem_cons, List.mem_map] at hc
    rcases hc with rfl | rfl | rfl | ⟨p, hp, rfl⟩
    · exact ⟨_, g0, fun v q => nomatch q⟩
    · exact ⟨_, g1, fun v q => nomatch q⟩
    · exact ⟨_, g2, fun v q => nomatch q⟩
    · exact (e p hp).obj
  keep := fun i h h' st kp => by
    obtain ⟨g0, g1, ⟨as, g2, la⟩, e⟩ := st
    exact ⟨kp z (by simp [fpN]) _ g0, kp TI (by simp [fpN]) _ g1, ⟨as, kp TO (by simp [fpN]) _ g2, la⟩, fun p hp => (e p hp).at' fun o q => kp p.it (fpN_it hp) o q⟩
  item := by
    intro X hP hw hK hc i pins s σ H E I hf st hg
    subst hP hw hK
    obtain ⟨g0, g1, ⟨as, g2, la⟩, e⟩ := st
    obtain ⟨xss, ha, hlt⟩ := hg
    obtain ⟨l1, ek, fk, gl, kk'⟩ := sqA_at I ha
    have l0 : z < s.heap.objs.size := Heap.lt_size g0
    have hd : (X.A.in1).handled = none := I.ok.hd hc
    have S1 := S.ky ek
    have eit : (l1.map fun p => Value.ref p.it) = l.map fun p => Value.ref p.it := by
      have := congrArg (List.map Value.ref) (ky_it ek)
      simpa [List.map_map, Function.comp_def] using this
    have len1 : l1.length = l.length := by
      have := congrArg List.length ek
      simpa using this
    have ne1 : l1 ≠ [] := fun q => ne (by rw [q] at len1; exact List.length_eq_zero_iff.mp len1.symm)
    have st1 : ∀ p ∈ l1, Ks i s.heap p := fun p hp => by
      obtain ⟨q, hq, e1, e2, e3⟩ := ky_mem ek hp
      refine ⟨?_, fk p hp⟩
      rw [← e1, ← e2, ← e3]
      exact e q hq
    refine pyNext_zipN_item hd S1 ne1 g0 (by rw [eit]; exact g1) g2 (by omega) (by omega) st1 (fun p hp => by
      obtain ⟨xs, hx, ex⟩ := row_sz gl kk' hp
      rw [ex]; exact hlt xs hx) fun us h' tk zd z0 z2 d1 hT hsz hk => ?_
    obtain ⟨ys, row, vy⟩ := zd_row zd gl kk'
    have ul : us.length ≤ 100 := by rw [zd.len]; omega
    refine ⟨_, rfl, wpAny_letOwnedTupleGo_zip (s := { s with heap := h', toks := tk }) z0 fun h2 z0' sb => ?_⟩
    have hT2 : h2.get? s.heap.objs.size = some { cls := .type "tuple", data := .seq us.toArray } := (sb.2 _ (Nat.ne_of_gt l0)).trans hT
    have big : 100 ≤ sizeLine := by decide
    have new : ObjOk X.prog X.w (upd H s.heap.objs.size (.frz (tupO us) (.tup ys))) h2 s.heap.objs.size (.frz (tupO us) (.tup ys)) :=
      ⟨hT2, show ys.length ≤ sizeLine by rw [vy.length]; omega, us, vy, ⟨_, hT2, rfl, _, rfl⟩⟩
    have kz : ∀ c o, c ∉ fpN z TI TO l → s.heap.get? c = some o → h2.get? c = some o := fun c o nc q => by
      have cz : c ≠ z := fun z' => nc (by simp [fpN, z'])
      refine (sb.2 c cz).trans (hk c o cz (fun z' => nc (by simp [fpN, z'])) (fun p hp z' => ?_) q)
      obtain ⟨q', hq, e1, e2, e3⟩ := ky_mem ek hp
      exact nc (by rw [z', ← e2]; exact fpN_it hq)
    have I1 : Inv X pins σ (upd H s.heap.objs.size (.frz (tupO us) (.tup ys))) { s with heap := h2, toks := tk } :=
      I.turnedNew (t' := tk) (ch := fpN z TI TO l) kz hf (Nat.le_refl _) new
    refine ⟨.ref s.heap.objs.size, _, I1, rfl, ⟨_, _, ys, rfl, I.hok.fresh (Nat.le_refl _), rfl, rfl, fun l' hl => by rw [sqA_inj I hl ha]; exact row⟩, ⟨z0', ?_, ⟨us, (sb.2 _ S.TOz).trans z2, by rw [zd.len]; exact len1⟩, ?_⟩, fun c hcm => ?_⟩
    · refine (sb.2 _ S.TIz).trans (hk _ _ S.TIz S.TITO (fun p hp => ((S1.ap p hp).2.1).symm) g1)
    · intro p hp
      obtain ⟨q, hq, e1, e2, e3⟩ := ky_mem (l := l1) (l1 := l) ek.symm hp
      have := (d1 q hq).1
      rw [e1, e2, e3] at this
      exact this.at' fun o x => (sb.2 _ (S.ap p hp).1).trans x
    · have lt : c < s.heap.objs.size := by
        simp only [fpN, List.mem_cons, List.mem_map] at hcm
        rcases hcm with rfl | rfl | rfl | ⟨p, hp, rfl⟩
        · exact l0
        · exact Heap.lt_size g1
        · exact Heap.lt_size g2
        · obtain ⟨_, e', _⟩ := (e p hp).obj; exact Heap.lt_size e'
      rw [upd_ne (Nat.ne_of_lt lt)]
      exact (hf c hcm).1
  done := by
    intro X hP hw hK hc i pins s σ H E I hf st hg
    subst hP hw hK
    obtain ⟨g0, g1, ⟨as, g2, la⟩, e⟩ := st
    obtain ⟨xss, ha, hle, xe, hxe, eend⟩ := hg
    obtain ⟨l1, ek, fk, gl, kk'⟩ := sqA_at I ha
    have hd : (X.A.in1).handled = none := I.ok.hd hc
    have S1 := S.ky ek
    have eit : (l1.map fun p => Value.ref p.it) = l.map fun p => Value.ref p.it := by
      have := congrArg (List.map Value.ref) (ky_it ek)
      simpa [List.map_map, Function.comp_def] using this
    have len1 : l1.length = l.length := by
      have := congrArg List.length ek
      simpa using this
    have ne1 : l1 ≠ [] := fun q => ne (by rw [q] at len1; exact List.length_eq_zero_iff.mp len1.symm)
    have st1 : ∀ p ∈ l1, Ks i s.heap p := fun p hp => by
      obtain ⟨q, hq, e1, e2, e3⟩ := ky_mem ek hp
      refine ⟨?_, fk p hp⟩
      rw [← e1, ← e2, ← e3]
      exact e q hq
    refine pyNext_zipN_end hd S1 ne1 g0 (by rw [eit]; exact g1) g2 (by omega) (by omega) st1 (fun p hp => by
      obtain ⟨xs, hx, ex⟩ := row_sz gl kk' hp
      rw [ex]; exact hle xs hx) (by
      obtain ⟨p, hp, ep⟩ := row_sz' gl kk' hxe
      exact ⟨p, hp, by rw [ep]; exact eend⟩) fun h' tk hk => ⟨rfl, I.turnedL (t' := tk) (ch := fpN z TI TO l) (fun c o nc q =>
        hk c o (fun z' => nc (by simp [fpN, z'])) (fun z' => nc (by simp [fpN, z'])) (fun p hp z' => by
          obtain ⟨q', hq, e1, e2, e3⟩ := ky_mem ek hp
          exact nc (by rw [z', ← e2]; exact fpN_it hq)) q) hf⟩
  self := fun A i s Q E st h => wpAny_pyIter_zip st.1 h
end Mi
end

section
set_option Elab.async false
set_option linter.all false
set_option maxRecDepth 100000
set_option maxHeartbeats 4000000
/-! ZpN4: zip of four, the call -/
namespace Mi
open PySem PySem.Spec PyProof.Rows L2
section
variable {prog : Program} {w : World} {A : Around} {E : Value → Shared → Prop} {s : Shared}
theorem zip_begins4' {v1 v2 v3 v4 : Value} {o1 o2 o3 o4 : PySem.Obj} {H1 H2 H3 H4 : Heap → Prop} {Q : Value → Shared → Prop} (B1 : Begins v1 o1 H1) (B2 : Begins v2 o2 H2) (B3 : Begins v3 o3 H3) (B4 : Begins v4 o4 H4) (h1 : H1 s.heap) (h2 : H2 s.heap) (h3 : H3 s.heap) (h4 : H4 s.heap)
    (h : ∀ h', IsZip h' (s.heap.objs.size + 6) (s.heap.objs.size + 4) (s.heap.objs.size + 5) .none → TupIs h' (s.heap.objs.size + 4) [.ref s.heap.objs.size, .ref (s.heap.objs.size + 1), .ref (s.heap.objs.size + 2), .ref (s.heap.objs.size + 3)] →
      TupIs h' (s.heap.objs.size + 5) [.none, .none, .none, .none] → h'.get? s.heap.objs.size = some o1 → h'.get? (s.heap.objs.size + 1) = some o2 → h'.get? (s.heap.objs.size + 2) = some o3 → h'.get? (s.heap.objs.size + 3) = some o4 →
      (∀ c o, s.heap.get? c = some o → h'.get? c = some o) → Q (.ref (s.heap.objs.size + 6)) { s with heap := h' }) :
    wpAny (model prog w) A (call (.type "zip") [v1, v2, v3, v4]) Q E s := by
  refine callType_new F.called_zip (by decide) (chk_zip4 _ _ _ _) (chk_zipnew4 _ _ _ _) (fun obj => args_init5 obj _ _ _ _) F.entry_zip_new
    (new_zip4 B1 B2 B3 B4) ⟨⟨h1, h2, h3, h4⟩, ?_⟩
  obtain ⟨hp, g, d, tk, os⟩ := s
  have e1 : (hp.push o1).objs.size = hp.objs.size + 1 := by rw [Heap.size_push]
  have e2 : ((hp.push o1).push o2).objs.size = hp.objs.size + 2 := by rw [Heap.size_push, e1]
  have e3 : (((hp.push o1).push o2).push o3).objs.size = hp.objs.size + 3 := by rw [Heap.size_push, e2]
  have e4 : (pu4 hp o1 o2 o3 o4).objs.size = hp.objs.size + 4 := by unfold pu4; rw [Heap.size_push, e3]
  have e5 : ((pu4 hp o1 o2 o3 o4).push (tu4 hp)).objs.size = hp.objs.size + 5 := by rw [Heap.size_push, e4]
  have e6 : (((pu4 hp o1 o2 o3 o4).push (tu4 hp)).push no4).objs.size = hp.objs.size + 6 := by rw [Heap.size_push, e5]
  have up : ∀ c o, (pu4 hp o1 o2 o3 o4).get? c = some o → (zh4 hp o1 o2 o3 o4).get? c = some o := fun c o e => Heap.get?_push_of_some _ (Heap.get?_push_of_some _ (Heap.get?_push_of_some _ e))
  have gZ : (zh4 hp o1 o2 o3 o4).get? (hp.objs.size + 6) = some (zi4 hp) := by rw [← e6]; exact Heap.get?_push_size _ rfl
  have gO : (zh4 hp o1 o2 o3 o4).get? (hp.objs.size + 5) = some no4 := by rw [← e5]; exact Heap.get?_push_of_some _ (Heap.get?_push_size _ rfl)
  have gT : (zh4 hp o1 o2 o3 o4).get? (hp.objs.size + 4) = some (tu4 hp) := by rw [← e4]; exact Heap.get?_push_of_some _ (Heap.get?_push_of_some _ (Heap.get?_push_size _ rfl))
  have g4 : (zh4 hp o1 o2 o3 o4).get? (hp.objs.size + 3) = some o4 := by rw [← e3]; exact up _ _ (Heap.get?_push_size _ B4.free)
  have g3 : (zh4 hp o1 o2 o3 o4).get? (hp.objs.size + 2) = some o3 := by rw [← e2]; exact up _ _ (Heap.get?_push_of_some _ (Heap.get?_push_size _ B3.free))
  have g2 : (zh4 hp o1 o2 o3 o4).get? (hp.objs.size + 1) = some o2 := by rw [← e1]; exact up _ _ (Heap.get?_push_of_some _ (Heap.get?_push_of_some _ (Heap.get?_push_size _ B2.free)))
  have g1 : (zh4 hp o1 o2 o3 o4).get? hp.objs.size = some o1 := up _ _ (Heap.get?_push_of_some _ (Heap.get?_push_of_some _ (Heap.get?_push_of_some _ (Heap.get?_push_size _ B1.free))))
  exact ⟨⟨_, gZ, rfl⟩, h _ gZ gT gO g1 g2 g3 g4 fun c o e => up _ _ (Heap.get?_push_of_some _ (Heap.get?_push_of_some _ (Heap.get?_push_of_some _ (Heap.get?_push_of_some _ e))))⟩
end
def iZ4 (K : PySem.W.Frag) (ta : TA) : TI := fun σ H R => ta σ H fun vs H1 => ∃ (p q r t : Bool × Addr) (xss : List (List V)), vs = [.ref p.2, .ref q.2, .ref r.2, .ref t.2] ∧ SqA K H1 [p, q, r, t] xss ∧ R (ItzN K [p, q, r, t]) H1
section
variable {X : Cx} {pins : List (Addr × PySem.Obj)} {σ : L2.St} {H : Hp} {s : Shared}
theorem sqA_lt (I : Inv X pins σ H s) : ∀ {l : List (Bool × Addr)} {xss : List (List V)}, SqA X.K H l xss → ∀ p ∈ l, p.2 < s.heap.objs.size ∧ ∃ its, IsK p.1 s.heap p.2 its
  | _, _, .nil, p, h => absurd h (by simp)
  | _, _, .cons a r, p, h => by
    rcases List.mem_cons.mp h with e | h
    · subst e
      obtain ⟨its, _, p1, lt⟩ := sqK_at I a
      exact ⟨lt, _, p1⟩
    · exact sqA_lt I r p h
end
theorem sep4 {n : Nat} {l : List ZI} (a b c d : Bool × Addr) (hl : l = [⟨a.1, n, a.2, #[]⟩, ⟨b.1, (n + 1 : Nat), b.2, #[]⟩, ⟨c.1, (n + 2 : Nat), c.2, #[]⟩, ⟨d.1, (n + 3 : Nat), d.2, #[]⟩]) (la : a.2 < n) (lb : b.2 < n) (lc : c.2 < n) (ld : d.2 < n) : ZSep (n + 6 : Nat) (n + 4 : Nat) (n + 5 : Nat) l := by
  obtain ⟨k1, a⟩ := a
  obtain ⟨k2, b⟩ := b
  obtain ⟨k3, c⟩ := c
  obtain ⟨k4, d⟩ := d
  have la : (a : Nat) < n := la
  have lb : (b : Nat) < n := lb
  have lc : (c : Nat) < n := lc
  have ld : (d : Nat) < n := ld
  subst hl
  refine ⟨show (n + 4 : Nat) ≠ n + 6 by omega, show (n + 5 : Nat) ≠ n + 6 by omega, show (n + 4 : Nat) ≠ n + 5 by omega, ?_, ?_⟩
  · intro p hp
    have key : ∀ (i x : Nat), n ≤ i → i ≤ n + 3 → x < n → i ≠ n + 6 ∧ i ≠ n + 4 ∧ i ≠ n + 5 ∧ x ≠ n + 6 ∧ x ≠ n + 5 ∧ x ≠ n ∧ x ≠ n + 1 ∧ x ≠ n + 2 ∧ x ≠ n + 3 := fun i x h1 h2 h3 => by omega
    have mem : ∀ (x : Nat), x ≠ n ∧ x ≠ n + 1 ∧ x ≠ n + 2 ∧ x ≠ n + 3 → ∀ q ∈ ([⟨k1, n, a, #[]⟩, ⟨k2, (n + 1 : Nat), b, #[]⟩, ⟨k3, (n + 2 : Nat), c, #[]⟩, ⟨k4, (n + 3 : Nat), d, #[]⟩] : List ZI), (show Addr from x) ≠ q.it := fun x hx q hq => by
      simp only [List.mem_cons, List.mem_nil_iff, or_false] at hq
      rcases hq with rfl | rfl | rfl | rfl
      · exact hx.1
      · exact hx.2.1
      · exact hx.2.2.1
      · exact hx.2.2.2
    simp only [List.mem_cons, List.mem_nil_iff, or_false] at hp
    rcases hp with rfl | rfl | rfl | rfl
    · obtain ⟨q1, q2, q3, q4, q5, q6⟩ := key n a (by omega) (by omega) la
      exact ⟨q1, q2, q3, q4, q5, mem a q6⟩
    · obtain ⟨q1, q2, q3, q4, q5, q6⟩ := key (n + 1) b (by omega) (by omega) lb
      exact ⟨q1, q2, q3, q4, q5, mem b q6⟩
    · obtain ⟨q1, q2, q3, q4, q5, q6⟩ := key (n + 2) c (by omega) (by omega) lc
      exact ⟨q1, q2, q3, q4, q5, mem c q6⟩
    · obtain ⟨q1, q2, q3, q4, q5, q6⟩ := key (n + 3) d (by omega) (by omega) ld
      exact ⟨q1, q2, q3, q4, q5, mem d q6⟩
  · have m : List.Pairwise (fun x y : Nat => x ≠ y) [n, n + 1, n + 2, n + 3] := by
      simp
    exact (List.pairwise_map (f := fun p : ZI => (p.it : Nat))).mp m
theorem piZ4 {X : Cx} {e : List Expr} {ta : TA} {p pos tp : Pos} {el : List Expr} {kk : Nat} {y : Expr} {r : List Expr} (he : e = y :: r) (hg : Gl X "zip") (hm : X.mg "zip" = none) (ha : PA X e ta)
    (hs : starEach (y :: r) X.env = (false, eval y X.env) :: starEach r X.env) (hpl : (backTo pos (starEach r X.env)).any (·.1) = false) : PI X (.Tuple el kk tp) (.Call (.Name "zip" p) e [] pos) (iZ4 X.K ta) := by
  subst he
  refine ⟨fun pins s σ H R I h => Call_ (ld_blt I hg hm PyProof.Rows.boot_zip (PyProof.Rows.callWith_type1 (thn (ha.run pos pins s σ H _ I h) fun us s1 ⟨vs, H1, I1, r1, q1⟩ => ?_) hs hpl))⟩
  obtain ⟨a, b, c, d, xss, ex, sq, q⟩ := q1
  subst ex
  cases r1 with
  | cons ra r1 => cases r1 with | cons rb r1 => cases r1 with | cons rc r1 => cases r1 with | cons rd r1 =>
    cases r1
    cases ra
    cases rb
    cases rc
    cases rd
    obtain ⟨la, i1, p1⟩ := sqA_lt I1 sq a (by simp)
    obtain ⟨lb, i2, p2⟩ := sqA_lt I1 sq b (by simp)
    obtain ⟨lc, i3, p3⟩ := sqA_lt I1 sq c (by simp)
    obtain ⟨ld, i4, p4⟩ := sqA_lt I1 sq d (by simp)
    refine zip_begins4' (begK a.1 a.2 i1) (begK b.1 b.2 i2) (begK c.1 c.2 i3) (begK d.1 d.2 i4) p1 p2 p3 p4 fun h' g0 g1 g2 o1 o2 o3 o4 hk => wpAny_pyIter_zip g0 ?_
    have I2 : Inv X pins σ H1 { s1 with heap := h' } := I1.kept (t' := s1.toks) hk
    obtain ⟨l, hl⟩ : ∃ l : List ZI, l = [⟨a.1, s1.heap.objs.size, a.2, #[]⟩, ⟨b.1, s1.heap.objs.size + 1, b.2, #[]⟩, ⟨c.1, s1.heap.objs.size + 2, c.2, #[]⟩, ⟨d.1, s1.heap.objs.size + 3, d.2, #[]⟩] := ⟨_, rfl⟩
    have S := sep4 (n := s1.heap.objs.size) a b c d hl la lb lc ld
    have fresh : ∀ x, x ∈ fpN (s1.heap.objs.size + 6) (s1.heap.objs.size + 4) (s1.heap.objs.size + 5) l → FpOk X pins H1 x := fun x hx => by
      have le : s1.heap.objs.size ≤ x := by
        rw [hl] at hx
        simp only [fpN, List.map_cons, List.map_nil, List.mem_cons, List.mem_nil_iff, or_false] at hx
        rcases hx with z | z | z | z | z | z | z <;> (rw [z]; first | exact Nat.le_refl _ | exact Nat.le_add_right _ _)
      exact I1.fpOk le (I1.hok.fresh le)
    have kl : l.map ZI.key = [a, b, c, d] := by rw [hl]; rfl
    have tn : tnN (s1.heap.objs.size + 6) (s1.heap.objs.size + 4) (s1.heap.objs.size + 5) l 0 h' := by
      refine ⟨g0, ?_, ⟨_, g2, by rw [hl]; rfl⟩, fun p hp => ?_⟩
      · rw [hl]; exact g1
      · rw [hl] at hp
        simp only [List.mem_cons, List.mem_nil_iff, or_false] at hp
        rcases hp with rfl | rfl | rfl | rfl
        · exact ItK.new o1
        · exact ItK.new o2
        · exact ItK.new o3
        · exact ItK.new o4
    have TT := turnZN (P := X.prog) (w := X.w) (K := X.K) (el := el) (kk := kk) (tp := tp) S (by rw [hl]; simp) (by rw [hl]; simp)
    rw [kl] at TT
    exact ⟨_, fpN (s1.heap.objs.size + 6) (s1.heap.objs.size + 4) (s1.heap.objs.size + 5) l, tnN (s1.heap.objs.size + 6) (s1.heap.objs.size + 4) (s1.heap.objs.size + 5) l, _, H1, rfl, I2, TT, tn, fresh, q⟩
end Mi
end

section
set_option Elab.async false
set_option linter.all false
set_option maxRecDepth 100000
set_option maxHeartbeats 2000000
/-! TeA: super() in a def of an imported module -/
namespace PySem
open Sem (wp)
section
variable {prog : Program} {w : World} {A : Around} {E : Value → Shared → Prop} {s : Shared} {env : Env}
theorem te_super_base {body : List Stmt} {p0 p1 : Pos} {attr : Str} {whole : Sem Value} {f cc : Addr} {of oc : Obj} {fd : FuncData} {ar : Arg} {vs : Array Value} {file : Str} {tf : Tok} {Q : Value → Shared → Prop}
    (hks : env.kindOf "super" = some .globalImplicit) (hkc : env.kindOf "__class__" = some .free) (hat : (attr == ("__class__" : Str)) = false) (hfu : env.func = some f) (hf : s.heap.get? f = some of) (hfd : of.data = .func fd)
    (hp : (fd.params.posonlyargs ++ fd.params.args).head? = some ar) (hco : env.code = .ref cc) (hcc : s.heap.get? cc = some oc) (hoc : oc.data = .fields vs) (hvs : vs[2]? = some (.str file tf))
    (top : _) (hfile : (if (prog.main.file == file) = true then some prog.main else (prog.modules.find? fun (n, _, m) => m.file == file || ("<frozen " ++ n ++ ">" : Str) == file).map (·.2.2)) = some top) (htop : (top.scope.names.lookup ("super" : Str)).isSome = false)
    (h : wpAny (model prog w) A (loadName env "super") (fun g s₁ => g = .type "super" ∧ wpAny (model prog w) A (loadName env "__class__") (fun cls s₂ => wpAny (model prog w) A (loadName env ar.arg) (fun self s₃ =>
      wpAny (model prog w) A (isType cls) (fun b s₄ => b = true ∧ wpAny (model prog w) A (call (.type "super") [cls, self]) Q E s₄) E s₃) E s₂) E s₁) E s) :
    wpAt (model prog w) A (.func body env) (attributeBase (.Call (.Name "super" p0) [] [] p1) attr env whole) Q E s := by
  unfold attributeBase
  simp only [bne_self_eq_false, hat, hks, hkc, hfu, hco, Bool.or_false, Bool.or_self, Bool.false_eq_true, if_false, Option.isSome_some, if_true, pure_bind]
  unfold funcData
  refine wpAt_bind (wpAt_of_wpAny (wpAny_bind (wpAny_load hf ?_)))
  rw [hfd]
  refine wpAny_pure ?_
  simp only [hp]
  refine wpAt_bind (wpAt_of_wpAny (wpAny_askSetting ?_))
  refine wpAt_bind (wpAt_of_wpAny (wpAny_field hcc hoc hvs ?_))
  have hfile' : (if ((model prog w).prog.main.file == file) = true then some (model prog w).prog.main else ((model prog w).prog.modules.find? fun (n, _, m) => m.file == file || ("<frozen " ++ n ++ ">" : Str) == file).map (·.2.2)) = some top := hfile
  have htop' : (List.lookup (Str.ofString "super") top.scope.names).isSome = false := htop
  simp only [hfile', htop', if_true, Bool.false_eq_true, if_false]
  refine wpAt_bind (wpAt_of_wpAny (wpAny_rule ?_))
  refine wpAt_bind (wpAt_of_wpAny (wpAny_standAt ?_))
  refine wpAt_bind (wpAt_of_wpAny (wpAny_mono h (fun g s₁ h₁ => ?_) fun _ _ z => z))
  obtain ⟨rfl, h₁⟩ := h₁
  refine wpAt_bind (wpAt_of_wpAny (wpAny_mono h₁ (fun cls s₂ h₂ => ?_) fun _ _ z => z))
  refine wpAt_bind (ks_wpAt_noComps ?_)
  show wpAt _ _ _ (loadName env ar.arg >>= _) _ _ _
  refine wpAt_bind (wpAt_of_wpAny (wpAny_mono h₂ (fun self s₃ h₃ => ?_) fun _ _ z => z))
  refine wpAt_bind (wpAt_of_wpAny (wpAny_mono h₃ (fun b s₄ h₄ => ?_) fun _ _ z => z))
  obtain ⟨rfl, h₄⟩ := h₄
  exact wpAt_of_wpAny h₄
end
end PySem
end

section
set_option Elab.async false
set_option linter.all false
set_option maxRecDepth 100000
set_option maxHeartbeats 2000000
/-! TeB: super().__init__(message) in an own exception's __init__ -/
namespace PySem
open Sem (wp)
open PySem.W PySem.Calls PyProof.Rows
section
variable {prog : Program} {w : World} {A : Around} {E : Value → Shared → Prop} {env : Env} {hp : Heap} {g : Array GenState} {d : Drawn} {t : Nat} {os : OsState}
/-- what super() finds -/
theorem te_super {K : W.Frag} {body : List Stmt} {p0 p1 : Pos} {attr : Str} {whole : Sem Value} {f cc c x C : Addr} {of oc ox : Obj} {fd : FuncData} {ar : Arg} {vs : Array Value} {file : Str} {tf : Tok} {m : Str → Option Value} {cd : ClassData} {Q : Value → Shared → Prop}
    (X : K.In hp) (hks : env.kindOf "super" = some .globalImplicit) (hkc : env.kindOf "__class__" = some .free) (hkf : env.scope.kind = .function) (hat : (attr == ("__class__" : Str)) = false) (hfu : env.func = some f) (hf : hp.get? f = some of) (hfd : of.data = .func fd)
    (hpar : (fd.params.posonlyargs ++ fd.params.args).head? = some ar) (hco : env.code = .ref cc) (hcc : hp.get? cc = some oc) (hoc : oc.data = .fields vs) (hvs : vs[2]? = some (.str file tf))
    (top : _) (hfile : (if (prog.main.file == file) = true then some prog.main else (prog.modules.find? fun (n, _, m) => m.file == file || ("<frozen " ++ n ++ ">" : Str) == file).map (·.2.2)) = some top) (htop : (top.scope.names.lookup ("super" : Str)).isSome = false)
    (hsup : ∀ (t : Nat) (Q : Value → Shared → Prop), Q (.type "super") ⟨hp, g, d, t, os⟩ → wpAny (model prog w) A (loadName env "super") Q E ⟨hp, g, d, t, os⟩)
    (hcl : env.cells.lookup ("__class__" : Str) = some c) (hcell : hp.IsCell c (some (.ref C))) (hns : hp.Ns env.locals m) (hself : m ar.arg = some (.ref x)) (hka : env.kindOf ar.arg = some .local)
    (hx : hp.get? x = some ox) (hxc : ox.cls = .ref C) (hxf : ∃ fs, ox.data = .fields fs) (hC : clsIn K C = some cd) (hsub : mroIn K C (.ref C) = some true)
    (hq : ∀ h' so t', hp.objs.size ≤ so → h'.get? so = some { cls := .type "super", dict := none, data := .fields #[.ref C, .ref x, .ref C], slots := #[] } → (∀ y o, hp.get? y = some o → h'.get? y = some o) → Q (.ref so) ⟨h', g, d, t', os⟩) :
    wpAt (model prog w) A (.func body env) (attributeBase (.Call (.Name "super" p0) [] [] p1) attr env whole) Q E ⟨hp, g, d, t, os⟩ := by
  obtain ⟨oD, hD1, hD2⟩ : ∃ oD, hp.get? C = some oD ∧ oD.data = .cls cd := by
    unfold clsIn at hC
    split at hC
    · rename_i c d cd' sl ho
      cases hC
      exact ⟨_, X _ _ ho, rfl⟩
    · cases hC
  refine te_super_base hks hkc hat hfu hf hfd hpar hco hcc hoc hvs top hfile htop ?_
  refine hsup _ _ ⟨rfl, ?_⟩
  refine wpAny_loadName_free hkf hkc hcl hcell ?_
  refine wpAny_loadName_local hkf hka hns hself ?_
  refine ks_wpAny_isType_cls hD1 hD2 ⟨rfl, ?_⟩
  refine ks_wpAny_call_super hD1 hD2 hx hxc (fun c e => ?_) (looks_mroIn X hsub) (fun h' e k => ?_)
  · obtain ⟨fs, hfs⟩ := hxf
    rw [hfs] at e
    cases e
  · exact hq _ _ _ (Nat.le_refl _) e k
end
end PySem
end

section
set_option Elab.async false
set_option linter.all false
set_option maxRecDepth 100000
set_option maxHeartbeats 2000000
/-! TeC: the bound ValueError.__init__ called -/
namespace PySem
open Sem (wp)
open PySem.W PySem.Calls PyProof.Rows
section
variable {prog : Program} {w : World} {A : Around} {E : Value → Shared → Prop} {h : Heap} {g : Array GenState} {d : Drawn} {t : Nat} {os : OsState}
variable {nm q : Str} {C N : Addr} {bs bm : List Value} {hdct : Bool} {sn : List Str} {sub : List Value} {ab : Bool} {col : Option Bool} {dd : Option Addr} {k0 k1 k2 k3 k5 : Option Value}
theorem te_call_mw {u e t0 : Addr} {rest : List Value} {Q : Value → Shared → Prop}
    (hC : h.get? C = some (excClassObj nm q C N bs bm hdct sn sub ab col dd k0 k1 k2 k3 k5 "ValueError.__new__")) (he : h.get? e = some (HandSPX.excO C t0)) (hu : h.get? u = some (kxs_mw "ValueError.__init__" e)) (hrest : rest.length ≤ sizeLine)
    (hq : ∀ h' t1, (∀ b o, b ≠ e → h.get? b = some o → h'.get? b = some o) → h'.get? e = some (HandSPX.excO C t1) → Q .none ⟨h', g, d, t, os⟩) :
    wpAny (model prog w) A (call (.ref u) rest) Q E ⟨h, g, d, t, os⟩ := by
  refine wpAny_call (codeAny_of_tree ?_)
  show wpAny _ A.in1 (callAny (.ref u) ⟨rest, []⟩) _ _ _
  simp only [callAny]
  refine wpAny_bind (wpAny_load hu ?_)
  simp only [kxs_mw, show (Value.type "method-wrapper" == Value.type "method" || Value.type "method-wrapper" == Value.type "builtin_function_or_method" || Value.type "method-wrapper" == Value.type "method-wrapper") = true by decide, if_true]
  refine W.KFB.if_so (by decide) ?_
  refine wpAny_bind (ESX.check_bound F.excBase_ValueError hC he rfl ?_)
  refine wpAny_bind (wpAny_pure (wpAny_pure ?_))
  refine ⟨Code.quiet_builtin _ (by decide +kernel), codeAny_builtin F.excBase_ValueError.initEntry ?_⟩
  rw [Around.under_plainId F.excBase_ValueError.init.plain _]
  wp_walk
  refine hq _ h.objs.size (fun b o hb ho => ?_) ?_
  · rw [Heap.get?_update_other _ _ (Ne.symm hb)]
    exact Heap.get?_push_of_some _ ho
  · rw [Heap.get?_update_self _ (Heap.get?_push_of_some _ he) rfl]
    rfl
end
end PySem
end

section
set_option Elab.async false
set_option linter.all false
set_option maxRecDepth 100000
set_option maxHeartbeats 2000000
/-! TeD: the two statements of an own __init__ that says super().__init__(message); self.line = line -/
namespace PySem
open Sem (wp)
open PySem.W PySem.Calls PyProof.Rows
section
variable {prog : Program} {w : World} {A : Around} {E : Value → Shared → Prop} {env : Env} {hp : Heap} {g : Array GenState} {d : Drawn} {t : Nat} {os : OsState}
/-- super().__init__(message) -/
theorem te_stmt {K : W.Frag} {body : List Stmt} {p0 p1 p2 p3 p4 : Pos} {f cc c x C t1 : Addr} {of oc : Obj} {fd : FuncData} {ar : Arg} {vs : Array Value} {file : Str} {tf : Tok} {m : Str → Option Value} {cd : ClassData} {um : Value} {Q : Value → Shared → Prop}
    {nm q : Str} {N : Addr} {bs bm : List Value} {hdct : Bool} {sn : List Str} {sub : List Value} {ab : Bool} {col : Option Bool} {dd : Option Addr} {k0 k1 k2 k3 k5 : Option Value}
    (X : K.In hp) (hks : env.kindOf "super" = some .globalImplicit) (hkc : env.kindOf "__class__" = some .free) (hkf : env.scope.kind = .function) (hfu : env.func = some f) (hf : hp.get? f = some of) (hfd : of.data = .func fd)
    (hpar : (fd.params.posonlyargs ++ fd.params.args).head? = some ar) (hco : env.code = .ref cc) (hcc : hp.get? cc = some oc) (hoc : oc.data = .fields vs) (hvs : vs[2]? = some (.str file tf))
    (top : _) (hfile : (if (prog.main.file == file) = true then some prog.main else (prog.modules.find? fun (n, _, m) => m.file == file || ("<frozen " ++ n ++ ">" : Str) == file).map (·.2.2)) = some top) (htop : (top.scope.names.lookup ("super" : Str)).isSome = false)
    (hsup : ∀ (t : Nat) (Q : Value → Shared → Prop), Q (.type "super") ⟨hp, g, d, t, os⟩ → wpAny (model prog w) A (loadName env "super") Q E ⟨hp, g, d, t, os⟩)
    (hcl : env.cells.lookup ("__class__" : Str) = some c) (hcell : hp.IsCell c (some (.ref C))) (hns : hp.Ns env.locals m) (hself : m ar.arg = some (.ref x)) (hka : env.kindOf ar.arg = some .local)
    (hmsg : m "message" = some um) (hkm : env.kindOf "message" = some .local)
    (hx : hp.get? x = some (HandSPX.excO C t1)) (hCo : hp.get? C = some (excClassObj nm q C N bs bm hdct sn sub ab col dd k0 k1 k2 k3 k5 "ValueError.__new__"))
    (hC : clsIn K C = some cd) (hmro : mroIn K C (.ref C) = some true) (ho : nsIn K cStatics "thirdparty.any" = some none) (hal : alongIn K "__init__" ((cd.mro.dropWhile (· != .ref C)).drop 1) = some (some (.builtin "ValueError.__init__")))
    (hpos : (p2.endLine == p4.line) = true) (hve : subIn K (.ref C) (.type "ValueError") = some true) (hxC : x ≠ C)
    (hq : ∀ h' t' t2, hp.objs.size ≤ h'.objs.size → (∀ b o, b ≠ x → hp.get? b = some o → h'.get? b = some o) → h'.get? x = some (HandSPX.excO C t2) → Q .none ⟨h', g, d, t', os⟩) :
    wpAt (model prog w) A (.func body env) (eval (.Call (.Attribute (.Call (.Name "super" p0) [] [] p1) "__init__" p2) [.Name "message" p3] [] p4) env) Q E ⟨hp, g, d, t, os⟩ := by
  have he : eval (.Call (.Attribute (.Call (.Name "super" p0) [] [] p1) "__init__" p2) [.Name "message" p3] [] p4) env = (do
      let ov ← attributeBase (.Call (.Name "super" p0) [] [] p1) "__init__" env (eval (.Call (.Name "super" p0) [] [] p1) env)
      standAt p2.atName
      let (f, first) ← holding [ov] (getMethod ov "__init__" (pure false))
      callWith p4 f first (backTo p4 (starEach [.Name "message" p3] env)) []) := by
    have e0 : eval (.Call (.Attribute (.Call (.Name "super" p0) [] [] p1) "__init__" p2) [.Name "message" p3] [] p4) env = (do
      let ov ← attributeBase (.Call (.Name "super" p0) [] [] p1) "__init__" env (eval (.Call (.Name "super" p0) [] [] p1) env)
      standAt p2.atName
      methodCall (.Call (.Name "super" p0) [] [] p1) "__init__" p2 p4 env ov 1 (backTo p4 (starEach [.Name "message" p3] env)) []) := by rfl
    have e1 : methodCallPos true (.Call (.Name "super" p0) [] [] p1) env p2 p4 = pure p4 := by
      unfold methodCallPos
      rw [if_pos (by simp [hpos])]
    have e2 : ∀ ov : Value, methodCall (.Call (.Name "super" p0) [] [] p1) "__init__" p2 p4 env ov 1 (backTo p4 (starEach [.Name "message" p3] env)) [] = (do
      let (f, first) ← holding [ov] (getMethod ov "__init__" (pure false))
      callWith p4 f first (backTo p4 (starEach [.Name "message" p3] env)) []) := fun ov => by
      have e3 : methodCall (.Call (.Name "super" p0) [] [] p1) "__init__" p2 p4 env ov 1 (backTo p4 (starEach [.Name "message" p3] env)) [] = (do
        let (f, first) ← holding [ov] (getMethod ov "__init__" (pure false))
        let callPos ← methodCallPos true (.Call (.Name "super" p0) [] [] p1) env p2 p4
        callWith callPos f first (backTo p4 (starEach [.Name "message" p3] env)) []) := by rfl
      rw [e3, e1]
      rfl
    rw [e0]
    simp only [e2]
  refine ks_wpAt_MethodCall (pl := pure false) ?_ he
  refine te_super (x := x) (C := C) (cd := cd) X hks hkc hkf (by decide) hfu hf hfd hpar hco hcc hoc hvs top hfile htop hsup hcl hcell hns hself hka hx rfl ⟨_, rfl⟩ hC hmro fun h1 so t' lso hso k1 => ?_
  have X1 : K.In h1 := X.keeps k1
  have hx1 := k1 _ _ hx
  have hI : Looks (model prog w) h1 (isInstance (.ref x) (.type "ValueError")) true := (InstAt.type (C := C) (od := none) ⟨hx1, rfl, rfl, trivial⟩).andThen (looks_subIn X1 hve)
  refine kxs_getMethod kxs_ValueError hso (looks_opaque X1 ho) (l₀ := cd.mro) ?_ rfl X1 hal hI hxC (by decide) ?_
  · exact fun A Q E s k q => wpAny_bind ((looks_clsIn X1 hC) A _ E s k (wpAny_pure q))
  · have hu : (h1.push (kxs_mw "ValueError.__init__" x)).get? h1.objs.size = some (kxs_mw "ValueError.__init__" x) := Heap.get?_push_at rfl rfl
    have k2 : ∀ b o, h1.get? b = some o → (h1.push (kxs_mw "ValueError.__init__" x)).get? b = some o := fun b o e => Heap.get?_push_of_some _ e
    have hns2 : (h1.push (kxs_mw "ValueError.__init__" x)).Ns env.locals m := (hns.keeps k1).keeps k2
    refine kxs_callWith (i := "ValueError.__init__") (x := x) (by rfl) ?_
    show wpAny _ _ (evalArgs (.ref h1.objs.size) true ((false, eval (.Name "message" p3) env) :: []) []) _ _ _
    refine evalArgs_plain (spliced_cons (wpAny_Name (wpAny_loadName_local hkf hkm hns2 hmsg ?_) (by decide)))
    refine spliced_nil ⟨hu, ?_⟩
    show wpAny _ _ (call (.ref h1.objs.size) [um]) _ _ _
    refine te_call_mw (k2 _ _ (k1 _ _ hCo)) (k2 _ _ hx1) hu (by simp [sizeLine_eq]) fun h3 t3 k3 hx3 => ?_
    have l1 := Heap.lt_size hso
    have l3 := Heap.lt_size (k3 _ _ (fun z : h1.objs.size = x => by
      have := Heap.lt_size hx1
      rw [z] at this
      exact Nat.lt_irrefl _ this) hu)
    exact hq h3 _ t3 (Nat.le_trans lso (Nat.le_trans (Nat.le_of_lt l1) (Nat.le_of_lt l3))) (fun b o hb e => k3 b o hb (k2 b o (k1 b o e))) hx3
end
end PySem
end

section
set_option Elab.async false
set_option linter.all false
set_option maxRecDepth 100000
set_option maxHeartbeats 2000000
/-! TeE: TextError's own __init__ keeps its promise -/
namespace L2
open PySem PySem.Spec PySem.W PySem.Calls PyProof.Rows
/-- what the written part says of TextError and its __init__ -/
structure TextK (P : Program) (K : PySem.W.Frag) (C fI : Addr) (fd : FuncData) : Prop where
  T : OexC K C
  iC : PySem.W.findIn K (.ref C) "__init__" = some (some (.ref fI))
  tI : PySem.W.typeIn K (.ref fI) = some (.type "function")
  lk : ∃ oc od osl, K.lookup fI = some ⟨oc, od, .func fd, osl⟩
  body : ∃ p0 p1 p2 p3 p4 p5 p6 p7 p8 p9 : Pos, fd.body = .stmts [.Expr (.Call (.Attribute (.Call (.Name "super" p0) [] [] p1) "__init__" p2) [.Name "message" p3] [] p4) p5, .Assign [.Attribute (.Name "self" p6) "line" p7] (.Name "line" p8) p9] ∧ (p2.endLine == p4.line) = true
  par : ∃ ar, (fd.params.posonlyargs ++ fd.params.args).head? = some ar ∧ ar.arg = "self"
  nms : fd.scope.names = [(("self" : Str), NameKind.local), (("message" : Str), NameKind.local), (("line" : Str), NameKind.local), (("__class__" : Str), NameKind.free), (("super" : Str), NameKind.globalImplicit)]
  kind : fd.scope.kind = .function
  co : fd.scope.isCoroutine = false
  gen : fd.scope.isGenerator = false
  glob : fd.globals = mainGlobals
  blt : fd.builtins = builtinsNs
  clo : ∃ cl oc, fd.closure.lookup ("__class__" : Str) = some cl ∧ K.lookup cl = some oc ∧ oc.data = .cell (some (.ref C))
  code : ∃ cc oc vs file tf, fd.code = .ref cc ∧ K.lookup cc = some oc ∧ oc.data = .fields vs ∧ vs[2]? = some (.str file tf) ∧ (P.main.file == file) = true
  cr : PySem.W.codeIn K fd.code fd.qualname = true
  top : (P.main.scope.names.lookup ("super" : Str)).isSome = false
  mro : PySem.W.mroIn K C (.ref C) = some true
  thp : PySem.W.nsIn K cStatics "thirdparty.any" = some none
  al : ∃ cd, PySem.W.clsIn K C = some cd ∧ PySem.W.alongIn K "__init__" ((cd.mro.dropWhile (· != .ref C)).drop 1) = some (some (.builtin "ValueError.__init__"))
  ve : PySem.W.subIn K (.ref C) (.type "ValueError") = some true
  ln : PySem.W.findIn K (.ref C) "line" = some none
/-- __init__(self, message, line): the exception gets its line -/
theorem te_run {P : Program} {w : World} {K : PySem.W.Frag} {mg : Str → Option Value} {base : Heap} {A : Around} {outer : List Env} {s : Shared} {H : Hp} {args : Args} {C fI a : Addr} {fd : FuncData} {um ul : Value} {l : V} {R : Result → Shared → Prop} (T : TextK P K C fI fd) (hm : mg "super" = none)
    (hr : A.depth < recursionLimit) (e0 : Env0 P w K mg base A outer s H) (hb : BindsTo s fd args [("self", .ref a), ("message", um), ("line", ul)]) (rl : RelV l ul) (haC : a ≠ C) (ha : H a = some (exo a C none))
    (q : ∀ dx s', H dx = none → dx ≠ a → s'.os = s.os → AllBare s'.gens → Un (frs outer) [] H (upd (upd H dx (exd dx [("line", l)])) a (exo a C (some dx))) s.heap s'.heap → HOk P w (upd (upd H dx (exd dx [("line", l)])) a (exo a C (some dx))) s'.heap → R (.ok (.ret .none)) s') :
    codeAny (model P w) A (.call (.ref fI) args) R s := by
  have kb : ∀ b o, base.get? b = some o → s.heap.get? b = some o := fun b o e => (e0.bs b o e).1
  have KX : K.In s.heap := e0.mod.kin.keeps kb
  have lim : s.heap.NoLimit := e0.mod.nolimit.keeps kb
  obtain ⟨oc, od, osl, lk⟩ := T.lk
  obtain ⟨p0, p1, p2, p3, p4, p5, p6, p7, p8, p9, hbody, hpos⟩ := T.body
  obtain ⟨ar, hpar, har⟩ := T.par
  obtain ⟨cl, ocl, hcl, lcl, dcl⟩ := T.clo
  obtain ⟨cc, occ, vcc, file, tf, hco, lcc, dcc, hvs, hfile⟩ := T.code
  obtain ⟨cd, hcd, hal⟩ := T.al
  obtain ⟨nm, qn, N, bs, bm, sn, sub, ab, col, dd, k0, k1, k2, k3, k5, hC, hbm⟩ := T.T.cls
  have hcl2 : PySem.W.clsIn K C = some { name := nm, bases := bs, mro := .ref C :: bm, ns := N, qualname := qn, hasDict := true, slotNames := sn, subclasses := sub, abstract := ab, collection := col, hasDel := false } := by unfold PySem.W.clsIn; rw [hC] <;> rfl
  obtain ⟨t1, hoa⟩ := exo_at e0.hok ha
  have hbind : BindsTo s fd args [("self", .ref a), ("message", um), ("line", ul)] := hb
  obtain ⟨hp, g, d, t, os⟩ := s
  obtain ⟨mb, hb1, hb2⟩ := e0.mod.blt
  refine ks_codeAny_call_defAt hr (KX _ _ lk) rfl lim (PySem.W.codeRec_of KX T.cr) hbody hbind ?_ ?_ ?_ T.co T.gen T.kind
  · rw [T.nms]
    decide
  · rw [T.nms]
    intro x hx
    simp only [List.mem_cons, List.mem_nil_iff, or_false] at hx
    rcases hx with rfl | rfl | rfl <;> rfl
  · intro h0 hn0 kp0
    have Kh0 : K.In h0 := KX.keeps kp0
    have kof : ∀ x, (callEnv fd hp.objs.size fI).kindOf x = fd.scope.names.lookup x := fun x => rfl
    refine ks_wpAt_execs_cons (ks_wpAt_Expr_any ?_ (by unfold interactive; simp [callEnv, newEnv, T.kind]))
    refine te_stmt (um := um) (c := cl) (cc := cc) (x := a) (C := C) (fd := fd) (ar := ar) Kh0 ?_ ?_ T.kind rfl (kp0 _ _ (KX _ _ lk)) rfl hpar hco (Kh0 _ _ lcc) dcc hvs P.main ?_ T.top ?_ hcl ⟨_, Kh0 _ _ lcl, dcl⟩ hn0 ?_ ?_ ?_ ?_ (kp0 _ _ hoa) (Kh0 _ _ hC) hcd T.mro T.thp hal hpos T.ve haC ?_
    · rw [kof, T.nms]; rfl
    · rw [kof, T.nms]; rfl
    · rw [if_pos hfile]
    · intro t Q hq
      have hk : (callEnv fd hp.objs.size fI).kindOf "super" = some .globalImplicit := by rw [kof, T.nms]; rfl
      have hkk : (callEnv fd hp.objs.size fI).scope.kind = .function := T.kind
      unfold loadName
      simp only [Env.blockKind, hkk, hk, ScopeKind.isAnnotationScope, Bool.false_and, Bool.false_eq_true, if_false]
      refine loadGlobal_builtin (mg := mg) (mb := mb) ?_ hm ?_ ((hb2 _ (by decide)).trans ?_) hq
      · show h0.Ns fd.globals mg
        rw [T.glob]
        exact (e0.mod.glob.keeps kb).keeps kp0
      · show h0.Ns fd.builtins mb
        rw [T.blt]
        exact (hb1.keeps kb).keeps kp0
      · first | rfl | decide
    · rw [har]; rfl
    · rw [har, kof, T.nms]; rfl
    · rfl
    · rw [kof, T.nms]; rfl
    · intro h3 t3 t2 lz kp3 hx3
      have kp : ∀ b o, b ≠ a → hp.get? b = some o → h3.get? b = some o := fun b o n e => kp3 b o n (kp0 b o e)
      have K3 : K.In h3 := fun b o e => by
        have z := KX b o e
        by_cases hba : b = a
        · subst hba
          exfalso
          have hh := (e0.bs b o (e0.mod.kin b o e)).2
          rw [ha] at hh
          cases hh
        · exact kp b o hba z
      have hns3 : h3.Ns hp.objs.size (fun x => [(("self" : Str), Value.ref a), ("message", um), ("line", ul)].reverse.lookup x) := hn0.at fun o e => kp3 _ o (fun z => by
        have := Heap.lt_size hoa
        rw [← z] at this
        exact absurd this (Nat.lt_irrefl _)) e
      refine ks_wpAt_execs_cons (ks_wpAt_Assign_Attr ?_)
      refine wpAt_of_wpAny (wpAny_Name (wpAny_loadName_local T.kind (by rw [kof, T.nms]; rfl) hns3 (v := ul) rfl ?_) (by decide))
      refine wpAny_Name (wpAny_loadName_local T.kind (by rw [kof, T.nms]; rfl) hns3 (v := .ref a) rfl ?_) (by decide)
      refine PySem.W.set_plain K3 (ox := { cls := .ref C, dict := none, data := .fields #[.ref t2, .none, .none, .none, .bool false, .none] }) (od := none) ⟨hx3, rfl, rfl, trivial⟩ T.T.sa ?_
      refine PySem.HandSPX.exc_osa K3 hx3 hcl2 (show PySem.HandSPX.refsVE (.ref C :: bm) = true from hbm) rfl T.ln (fun h4 tk4 dx k4 dn dne hx4 hn4 => ?_)
      have dn : h3.objs.size ≤ dx := dn
      have lz : h0.objs.size ≤ h3.objs.size := lz
      have kk : ∀ b o, b ≠ a → hp.get? b = some o → h4.get? b = some o := fun b o n e => k4 b o n (kp b o n e)
      have nd : ∀ {b : Addr} {o : PySem.Obj}, hp.get? b = some o → b ≠ dx := fun {b o} e z => by
        by_cases hba : b = a
        · exact dne (by rw [← z, hba])
        · have := Heap.lt_size (kp b o hba e)
          rw [z] at this
          exact Nat.not_lt.mpr dn this
      have l0 : hp.objs.size ≤ h0.objs.size := by
        obtain ⟨o, _, _, ho, _⟩ := hn0
        exact Nat.le_of_lt (Heap.lt_size ho)
      have hnd : H dx = none := e0.hok.fresh (show hp.objs.size ≤ dx by omega)
      have ea := ha
      have na : ∀ {b : Addr}, H b = none → b ≠ a := fun {b} n z => by
        rw [z, ea] at n
        cases n
      refine wpAt_of_wpAny ?_
      rw [execs_nil]
      refine wpAny_pure ?_
      show R (.ok (.ret .none)) ⟨h4, g, d, tk4, os⟩
      refine q dx _ hnd dne rfl e0.bare ?_ fun b o z => ?_
      · exact {
          keep := fun b o z n _ _ => kk b o (na n) z
          slot := fun b o z n _ _ => ⟨o.slots, kk b o (na n) z⟩
          free := fun b o z n _ => by rw [upd_ne (na n), upd_ne (nd z)]; exact n
          there := fun b o z _ => by
            by_cases hb : b = a
            · exact ⟨_, by rw [hb]; exact hx4⟩
            · exact ⟨o, kk b o hb z⟩
          tups := fun b xs z => by rw [upd_ne (at_ne ea z exo_tup), upd_ne (ne_of_none z hnd)]; exact z
          frzs := fun b o v z => by rw [upd_ne (at_ne ea z exo_frz), upd_ne (ne_of_none z hnd)]; exact z
          tbls := fun b ps z => ⟨#[], by rw [upd_ne (at_ne ea z exo_tbl), upd_ne (ne_of_none z hnd), z]; simp⟩ }
      · by_cases hb : b = a
        · subst hb
          rw [upd_same] at z
          cases z
          exact exo_ok hx4
        · rw [upd_ne hb] at z
          by_cases hd : b = dx
          · subst hd
            rw [upd_same] at z
            cases z
            exact exd_ok hn4 (relO_put (fs := []) rl fun g => True.intro)
          · rw [upd_ne hd] at z
            exact (e0.hok b o z).stay (fun c v hc y => kk c v (by
                rcases hc with hc | hc
                · rw [hc]
                  exact hb
                · exact at_ne ea hc exo_own) y)
              (fun c hc => by rw [upd_ne (at_ne ea hc exo_own), upd_ne (ne_of_none hc hnd)]; exact hc) (fun c xs hc => by rw [upd_ne (at_ne ea hc exo_tup), upd_ne (ne_of_none hc hnd)]; exact hc)
/-- TextError(message, line) -/
def tMkT (C : Addr) (ta : TA) : St → Hp → XK → Prop := fun σ H Q => ta σ H fun vs H1 => ∃ m l, vs = [m, l] ∧ ∀ d, H1 d = none → Q (.ref C) (some d) (upd H1 d (.xd [("line", l)]))
theorem pmk_text {X : Cx} {x : Str} {C fI : Addr} {fd : FuncData} {e : Expr} {es : List Expr} {ta : TA} {p pos : Pos} (T : TextK X.prog X.K C fI fd) (hs : X.mg "super" = none) (hr : X.A.depth + 1 < recursionLimit)
    (hb : Binds X.K fd ["self", "message", "line"] []) (hg : Gl X x) (hm : X.mg x = some (.ref C)) (ha : PA X (e :: es) ta)
    (hdb : (x == ("__debug__" : Str)) = false := by decide) (he : starEach (e :: es) X.env = (false, eval e X.env) :: starEach es X.env := by rfl) (hpl : (backTo pos (starEach es X.env)).any (·.1) = false := by rfl) :
    PMk X (.Call (.Name x p) (e :: es) [] pos) (tMkT C ta) := by
  intro pins s σ H Q I h
  obtain ⟨nm, q, N, bs, bm, sn, sub, ab, col, dd, k0, k1, k2, k3, k5, hC, hbm⟩ := T.T.cls
  refine wpAny_Call_Name_kw (ld_glob I hg hm ?_ hdb)
  refine PySem.W.callWith_K (h₀ := X.base) I.ok.mod.kin T.T.kC (thn (ha.run pos pins s σ H _ I h) fun us s1 ⟨vs, H1, I1, r1, m, l, ev, q1⟩ => ⟨I1.kIn, ?_⟩) he hpl
  subst ev
  show wpAny _ _ (call (.ref C) us) _ _ _
  obtain ⟨hp, g, dr, tk, os⟩ := s1
  have hsz : hp.objs.size ≤ hp.objs.size + 1 := Nat.le_succ _
  have hn : H1 (hp.objs.size + 1) = none := I1.hok.fresh hsz
  have kk : ∀ b o, hp.get? b = some o → ((hp.push (PySem.W.kdv_tup us)).push (PySem.HandSPX.excO C hp.objs.size)).get? b = some o := fun b o e => Heap.get?_push_of_some _ (Heap.get?_push_of_some _ e)
  have hget : ((hp.push (PySem.W.kdv_tup us)).push (PySem.HandSPX.excO C hp.objs.size)).get? (hp.objs.size + 1) = some (PySem.HandSPX.excO C hp.objs.size) := by heap_get
  have I2 : Inv X pins σ (upd H1 (hp.objs.size + 1) (exo (hp.objs.size + 1) C none)) ⟨(hp.push (PySem.W.kdv_tup us)).push (PySem.HandSPX.excO C hp.objs.size), g, dr, tk, os⟩ :=
    I1.laid (t' := tk) (a := hp.objs.size + 1) (o := exo (hp.objs.size + 1) C none) (h' := (hp.push (PySem.W.kdv_tup us)).push (PySem.HandSPX.excO C hp.objs.size)) kk hsz (exo_ok hget)
  have hus : us.length ≤ sizeLine := by
    rw [← Paired.length r1, sizeLine_eq]
    simp
  have hl : (Value.ref (hp.objs.size + 1) :: us ++ []).length = (["self", "message", "line"] : List Str).length := by
    rw [List.append_nil, List.length_cons, ← Paired.length r1]
    rfl
  have hbt := hb ⟨(hp.push (PySem.W.kdv_tup us)).push (PySem.HandSPX.excO C hp.objs.size), g, dr, tk, os⟩ (Value.ref (hp.objs.size + 1) :: us) I2.kIn hl
  cases r1 with
  | @cons _ um _ ur rm r2 =>
  cases r2 with
  | @cons _ ul _ ur2 rl r3 =>
  cases r3
  have hCs := Heap.lt_size (I1.kIn _ _ hC)
  refine wpAny_call (PySem.HandSPX.call_own F.excBase_ValueError (fun Y => PySem.HandSPX.refsVE_contains Y bm hbm) (I1.kIn _ _ hC) (PySem.W.looks_findIn I1.kIn T.iC) (fun self => PySem.W.bind_fn I1.kIn self T.tI) hus
    (te_run (a := hp.objs.size + 1) (um := um) (ul := ul) (l := l) T hs (by rw [make_depth]; exact hr) (I2.env0.make C [um, ul] []) hbt rl (fun z => by
      have z : hp.objs.size + 1 = C := z
      rw [← z] at hCs
      exact absurd hCs (Nat.not_lt.mpr (Nat.le_succ _))) upd_same fun dx s' hdn hda hos hba un2 hok2 => ?_))
  obtain ⟨h2, g2, d2, t2, os'⟩ := s'
  have hd1 : H1 dx = none := by
    rw [upd_ne hda] at hdn
    exact hdn
  refine ⟨rfl, mk_end (d := dx) (fs := [("line", l)]) (raises_own T.T.exC T.T.tyC) I1 hsz kk un2 hok2 hos hba upd_same (by rw [upd_ne hda, upd_same]) hd1 ?_⟩
  have eH : upd (del (upd (upd (upd H1 (hp.objs.size + 1) (exo (hp.objs.size + 1) C none)) dx (exd dx [("line", l)])) (hp.objs.size + 1) (exo (hp.objs.size + 1) C (some dx))) (hp.objs.size + 1)) dx (.xd [("line", l)]) = upd H1 dx (.xd [("line", l)]) := by
    funext b
    by_cases h1 : b = dx
    · rw [h1, upd_same, upd_same]
    · rw [upd_ne h1, upd_ne h1]
      by_cases h2 : b = hp.objs.size + 1
      · rw [h2, del_same, hn]
      · rw [del_ne h2, upd_ne h2, upd_ne h1, upd_ne h2]
  rw [eH]
  exact q1 dx hd1
end L2
end

section
set_option Elab.async false
set_option linter.all false
set_option maxRecDepth 100000
set_option maxHeartbeats 2000000
/-! TeF: the check of TextError; isinstance and .line of a caught one -/
namespace L2
open PySem PySem.Spec PySem.W PySem.Calls PyProof.Rows
open He (eqO eqO_ok)
def bodyTeB : FuncBody → Bool
  | .stmts [.Expr (.Call (.Attribute (.Call (.Name s p0) [] [] p1) i p2) [.Name m p3] [] p4) p5, .Assign [.Attribute (.Name a p6) l p7] (.Name l2 p8) p9] =>
    decide (s = "super") && decide (i = "__init__") && decide (m = "message") && decide (a = "self") && decide (l = "line") && decide (l2 = "line") && (p2.endLine == p4.line)
  | _ => false
def parTeB (p : Arguments) : Bool := match p.posonlyargs, p.args, p.vararg, p.kwonlyargs, p.kw_defaults, p.kwarg with
  | [], [x, y, z], none, [], [], none => decide (x.arg = "self") && decide (y.arg = "message") && decide (z.arg = "line")
  | _, _, _, _, _, _ => false
def fdTeB (K : PySem.W.Frag) (C : Addr) (file : Str) (fd : FuncData) : Bool :=
  bodyTeB fd.body && parTeB fd.params && decide (fd.scope.names = [(("self" : Str), NameKind.local), (("message" : Str), NameKind.local), (("line" : Str), NameKind.local), (("__class__" : Str), NameKind.free), (("super" : Str), NameKind.globalImplicit)]) &&
  decide (fd.scope.kind = .function) && !fd.scope.isCoroutine && !fd.scope.isGenerator && decide (fd.globals = mainGlobals) && decide (fd.builtins = builtinsNs) && (match fd.defaults with | .none => true | _ => false) &&
  (match fd.closure.lookup ("__class__" : Str) with
    | some cl => (match K.lookup cl with
      | some oc => (match oc.data with | .cell (some (.ref D)) => D == C | _ => false)
      | none => false)
    | none => false) &&
  (match fd.code with
    | .ref cc => (match K.lookup cc with
      | some oc => (match oc.data with
        | .fields vs => (match (vs[2]? : Option Value) with | some (.str f _) => f == file | _ => false)
        | _ => false)
      | none => false)
    | _ => false) && PySem.W.codeIn K fd.code fd.qualname
def clsTeB (K : PySem.W.Frag) (C : Addr) : Bool := match K.lookup C with
  | some ⟨.type t, _, .cls cd, sl⟩ => decide (t = "type") && (match cd.mro, sl.toList with
    | .ref C' :: bm, [_, _, _, _, some (.builtin n), _] => C' == C && n == "ValueError.__new__" && !cd.hasDel && cd.hasDict && PySem.HandSPX.refsVE bm &&
      eqO (PySem.W.alongIn K "__init__" ((cd.mro.dropWhile (· != .ref C)).drop 1)) (some (some (.builtin "ValueError.__init__")))
    | _, _ => false)
  | _ => false
/-- all that is asked of TextError -/
def textB (K : PySem.W.Frag) (C : Addr) (file : Str) : Bool :=
  clsTeB K C && eqO (PySem.W.findIn K (.ref C) "__setattr__") (some (some (.builtin "object.__setattr__"))) && decide (PySem.W.subIn K (.ref C) (.type "BaseException") = some true) && decide (PySem.W.typeIn K (.ref C) = some (.type "type")) && PySem.W.keepIn K (.ref C) &&
  decide (PySem.W.mroIn K C (.ref C) = some true) && eqO (PySem.W.nsIn K cStatics "thirdparty.any") (some none) && decide (PySem.W.subIn K (.ref C) (.type "ValueError") = some true) && eqO (PySem.W.findIn K (.ref C) "line") (some none) &&
  (match PySem.W.findIn K (.ref C) "__init__" with
    | some (some (.ref fI)) => decide (PySem.W.typeIn K (.ref fI) = some (.type "function")) && (match K.lookup fI with
      | some ⟨_, _, .func fd, _⟩ => fdTeB K C file fd
      | _ => false)
    | _ => false)
theorem bodyTe_ok {b : FuncBody} (h : bodyTeB b = true) : ∃ p0 p1 p2 p3 p4 p5 p6 p7 p8 p9 : Pos, b = .stmts [.Expr (.Call (.Attribute (.Call (.Name "super" p0) [] [] p1) "__init__" p2) [.Name "message" p3] [] p4) p5, .Assign [.Attribute (.Name "self" p6) "line" p7] (.Name "line" p8) p9] ∧ (p2.endLine == p4.line) = true := by
  unfold bodyTeB at h
  split at h
  · simp only [Bool.and_eq_true, decide_eq_true_eq] at h
    obtain ⟨⟨⟨⟨⟨⟨rfl, rfl⟩, rfl⟩, rfl⟩, rfl⟩, rfl⟩, hp⟩ := h
    exact ⟨_, _, _, _, _, _, _, _, _, _, rfl, hp⟩
  · cases h
theorem parTe_ok {p : Arguments} (h : parTeB p = true) : ∃ x y z ds, p = ⟨[], [x, y, z], none, [], [], none, ds⟩ ∧ x.arg = "self" ∧ y.arg = "message" ∧ z.arg = "line" := by
  obtain ⟨a, b, c, d, e, f, ds⟩ := p
  unfold parTeB at h
  split at h
  · rename_i x y z h1 h2 h3 h4 h5 h6
    simp only [Bool.and_eq_true, decide_eq_true_eq] at h
    obtain ⟨⟨e1, e2⟩, e3⟩ := h
    dsimp only at h1 h2 h3 h4 h5 h6
    subst h1 h2 h3 h4 h5 h6
    exact ⟨x, y, z, ds, rfl, e1, e2, e3⟩
  · cases h
theorem bindTe {fd : FuncData} (h : parTeB fd.params = true) (hd : fd.defaults = .none) : ∀ us : List Value, us.length = 3 → bindArgs fd ⟨us, []⟩ = pure ((["self", "message", "line"] : List Str).zip us) := by
  intro us hl
  obtain ⟨x, y, z, ds, e, e1, e2, e3⟩ := parTe_ok h
  obtain ⟨nm, qn, pr, bd, sc, gl, cl, df, kd, dc, pm, an, co, ct, bl⟩ := fd
  dsimp only at e hd
  subst e hd
  obtain ⟨xa, xn, xp⟩ := x
  obtain ⟨ya, yn, yp⟩ := y
  obtain ⟨za, zn, zp⟩ := z
  dsimp only at e1 e2 e3
  subst e1 e2 e3
  match us, hl with
  | [_, _, _], _ => rfl
theorem text_ok {P : Program} {K : PySem.W.Frag} {C : Addr} {file : Str} (h : textB K C file = true) (hf : (P.main.file == file) = true) (ht : (P.main.scope.names.lookup ("super" : Str)).isSome = false) :
    ∃ fI fd, TextK P K C fI fd ∧ Binds K fd ["self", "message", "line"] [] := by
  unfold textB at h
  simp only [Bool.and_eq_true, decide_eq_true_eq] at h
  obtain ⟨⟨⟨⟨⟨⟨⟨⟨⟨h1, h2⟩, h3⟩, h4⟩, h5⟩, h6⟩, h7⟩, h8⟩, h9⟩, h10⟩ := h
  split at h10
  · rename_i fI hi
    simp only [Bool.and_eq_true, decide_eq_true_eq] at h10
    obtain ⟨ti, h10⟩ := h10
    split at h10
    · rename_i oc od fd osl lk
      unfold fdTeB at h10
      simp only [Bool.and_eq_true, decide_eq_true_eq, Bool.not_eq_true'] at h10
      obtain ⟨⟨⟨⟨⟨⟨⟨⟨⟨⟨⟨g1, g2⟩, g3⟩, g4⟩, g5⟩, g6⟩, g7⟩, g8⟩, g9⟩, g10⟩, g11⟩, g12⟩ := h10
      have hdf : fd.defaults = .none := by
        cases e : fd.defaults <;> rw [e] at g9 <;> first | rfl | cases g9
      have hclo : ∃ cl oc, fd.closure.lookup ("__class__" : Str) = some cl ∧ K.lookup cl = some oc ∧ oc.data = .cell (some (.ref C)) := by
        split at g10
        · rename_i cl hcl
          split at g10
          · rename_i oc hoc
            split at g10
            · rename_i D hD
              have : D = C := by simpa using g10
              subst this
              exact ⟨cl, oc, hcl, hoc, hD⟩
            · cases g10
          · cases g10
        · cases g10
      have hcode : ∃ cc oc vs file tf, fd.code = .ref cc ∧ K.lookup cc = some oc ∧ oc.data = .fields vs ∧ vs[2]? = some (.str file tf) ∧ (P.main.file == file) = true := by
        split at g11
        · rename_i cc hcc
          split at g11
          · rename_i oc hoc
            split at g11
            · rename_i vs hvs
              split at g11
              · rename_i f tf hfl
                have : f = file := by simpa using g11
                subst this
                exact ⟨cc, oc, vs, f, tf, hcc, hoc, hvs, hfl, hf⟩
              · cases g11
            · cases g11
          · cases g11
        · cases g11
      have hC : (∃ nm q N bs bm sn sub ab col dd k0 k1 k2 k3 k5, K.lookup C = some (excClassObj nm q C N bs bm true sn sub ab col dd k0 k1 k2 k3 k5 "ValueError.__new__") ∧ PySem.HandSPX.refsVE bm = true) ∧
          ∃ cd, PySem.W.clsIn K C = some cd ∧ PySem.W.alongIn K "__init__" ((cd.mro.dropWhile (· != .ref C)).drop 1) = some (some (.builtin "ValueError.__init__")) := by
        unfold clsTeB at h1
        split at h1
        · rename_i t dd cd sl lkC
          simp only [Bool.and_eq_true, decide_eq_true_eq] at h1
          obtain ⟨et, h1⟩ := h1
          subst et
          split at h1
          · rename_i C' bm k0 k1 k2 k3 n k5 hm hs
            simp only [Bool.and_eq_true, beq_iff_eq, Bool.not_eq_true'] at h1
            obtain ⟨⟨⟨⟨⟨e1, e2⟩, e3⟩, e4⟩, e5⟩, e6⟩ := h1
            subst e1
            subst e2
            obtain ⟨nm, bs, mro, ns, qn, hdct, sn, sb, ab, col, del⟩ := cd
            dsimp only at hm e3 e4 e6
            subst hm
            subst e3
            subst e4
            have esl : sl = #[k0, k1, k2, k3, some (.builtin "ValueError.__new__"), k5] := by
              apply Array.toList_inj.mp
              rw [hs]
            subst esl
            refine ⟨⟨nm, qn, ns, bs, bm, sn, sb, ab, col, dd, k0, k1, k2, k3, k5, lkC, e5⟩, _, by unfold PySem.W.clsIn; rw [lkC] <;> rfl, eqO_ok e6⟩
          · cases h1
        · cases h1
      obtain ⟨hC1, hC2⟩ := hC
      obtain ⟨x, y, z, ds, ep, e1, e2, e3⟩ := parTe_ok g2
      exact ⟨fI, fd, {
        T := ⟨hC1, eqO_ok h2, h3, h4, h5⟩
        iC := hi
        tI := ti
        lk := ⟨_, _, _, lk⟩
        body := bodyTe_ok g1
        par := ⟨x, by rw [ep]; rfl, e1⟩
        nms := g3
        kind := g4
        co := g5
        gen := g6
        glob := g7
        blt := g8
        clo := hclo
        code := hcode
        cr := g12
        top := ht
        mro := h6
        thp := eqO_ok h7
        al := hC2
        ve := h8
        ln := eqO_ok h9 }, Binds.all fun us hl => bindTe g2 hdf us hl⟩
    · cases h10
  · cases h10
end L2
end

section
set_option Elab.async false
set_option linter.all false
set_option maxRecDepth 100000
set_option maxHeartbeats 2000000
/-! TeG: isinstance and .line of the exception that a suite holds, with its dict -/
namespace L2
open PySem PySem.Spec PyProof.Rows
/-- isinstance(e, c), e the exception that the suite holds; its dict, if any, stands -/
def rIsD (K : PySem.W.Frag) (D a : Addr) (d : Option Addr) : List V → Hp → VK → Prop := fun xs H Q => (∀ dd, d = some dd → ∃ fs, H dd = some (.xd fs)) ∧ rIsE K D a xs H Q
theorem call_isD {X : Cx} {a D : Addr} {d : Option Addr} {oe : Obj} {pn : List (Addr × Obj)} (C : ExcC X.K D) (hz : Zc (.ref D) d oe) (hf : ∃ vs, oe.data = .fields vs) : CallR (X.suite a ((a, oe) :: pn)) (.builtin "isinstance") (rIsD X.K D a d) := by
  cases d with
  | none => exact fun pins s σ H xs us Q I r h => call_isE C hz hf pins s σ H xs us Q I r h.2
  | some dd =>
    intro pins s σ H xs us Q I r ⟨hd, c, cv, b, ex, hcv, e, q⟩
    subst ex
    obtain ⟨fs, hdd⟩ := hd dd rfl
    have hx : ObjOk X.prog X.w H s.heap dd (.xd fs) := I.hok dd _ hdd
    obtain ⟨mA, hns, _⟩ := hx
    obtain ⟨od, ho, _⟩ := lookIn_ns hns
    match r with
    | .cons rx (.cons rt .nil) =>
      have ec := hcv _ rt
      subst ec
      cases rx
      have J : PySem.W.InstAt s.heap a oe D (some od) :=
        ⟨(I.pin (a, oe) (List.mem_append_left _ List.mem_cons_self)).1, hz.1, by unfold PySem.W.notCls; obtain ⟨vs, hv⟩ := hf; rw [hv] <;> rfl, by rw [hz.2]; exact ho⟩
      have isC : (PySem.W.clsIn X.K D).isSome = true := by
        have := C.hd
        unfold PySem.W.hasDictIn at this
        cases z : PySem.W.clsIn X.K D with
        | some cd => rfl
        | none => rw [z] at this; cases this
      exact PySem.W.kia_one (PySem.W.kitx_exc isC C.hg C.hk C.hs C.ha C.hn C.ht C.hm) I.kIn J e (fun z => nomatch z) fun tk => ⟨.bl b, H, I.kept (t' := tk) fun _ _ z => z, rfl, q⟩
end L2
end

section
set_option Elab.async false
set_option linter.all false
set_option maxRecDepth 100000
set_option maxHeartbeats 2000000
/-! TeH: try with a first clause that bears a name and takes the exception, whatever clauses follow -/
namespace L2
open PySem PySem.Spec PyProof.Rows
/-- the first clause's wish: it takes the exception -/
def wFst (K : PySem.W.Frag) (c : Value) (i : Nat) (ts : Addr → Value → Option Addr → TS) (D : Ends) : WX := fun cls d σ H =>
  PySem.W.exmOne K cls c = some true ∧ ∀ a, H a = none → ts a cls d { nx := fun τ G => D.nx (τ.set i none) G, rt := D.rt, bk := fun τ G => D.bk (τ.set i none) G, ct := fun τ G => D.ct (τ.set i none) G } (σ.set i (some (.ref a))) H
section
variable {X : Cx} {x n : Str} {c : Value} {i : Nat} {body su : List Stmt} {b1 : Stmt} {np pos pos' : Pos} {tb : WX → TS} {ts : Addr → Value → Option Addr → TS} {more : List ExceptHandler}
/-- no frame's slots are an exception -/
theorem fly_off {B h : Heap} {a : Addr} {o : Obj} {vs : Array Value} (ff : h.FunFrames B (X.env :: X.outer)) (e : h.get? a = some o) (dd : o.data = .fields vs) : a ∉ frs (X.env :: X.outer) := fun hm =>
  match ff.mem hm with
  | ⟨_, o', e', z⟩ => by
    cases e.symm.trans e'
    exact z _ dd
theorem ps_try_fst (hs : X.stack = X.env :: X.outer) (hf : X.env.frame = some X.env.locals) (hN : X.N.Nodup) (hi : X.N[i]? = some n) (hln : X.env.kindOf n = some .local) (hg : Gl X x) (hdb : (x == ("__debug__" : Str)) = false) (hm : X.mg x = some c)
    (hb : ∀ (W : WX) (pn : List (Addr × Obj)) (xe : Value → Shared → Prop), Takes (X.tr pn xe) W → PassesOwn (model X.prog X.w) X.A X.env xe → PSs (X.tr pn xe) body (tb W))
    (hsu : ∀ (a : Addr) (oe : Obj) (cls : Value) (d : Option Addr) (pn : List (Addr × Obj)), Zc cls d oe → (∃ vs, oe.data = .fields vs) → PSs (X.suite a ((a, oe) :: pn)) (b1 :: su) (ts a cls d)) :
    PS X (.Try body (.ExceptHandler (some (.Name x np)) (some n) (b1 :: su) pos' :: more) [] [] pos) (fun D σ H => tb (wFst X.K c i ts D) D σ H) := by
  constructor
  intro pins s σ H D I h
  have frm : X.A.frames = some (X.env :: X.outer) := I.ok.frames.trans (congrArg some hs)
  refine wpAny_Try_except (wpAny_mono ((hb (wFst X.K c i ts D) (X.pn ++ pins) _ (fun u s' z => ?_) PassesOwn.looking).run [] s σ H D (I.toTry _) h) (fun f s1 q => ?_) fun _ _ z => z)
  · obtain ⟨a, B, sI, _, τ, G, cls, d, rfl, J0, nb, up, sky, na, os, ag, em, go⟩ := z
    have J := J0.ofTry I.ok
    rw [show (X.tr (X.pn ++ pins) _).stack = X.env :: X.outer from hs] at sky
    show wpAny (model X.prog X.w) X.A (noteFrame (.ref a) X.env) _ _ _
    refine Sky.land Zc.steady frm hf sky fun h3 fl3 up3 => ?_
    obtain ⟨o3, v3, e3, z3, d3⟩ := fl3.there
    have off := fly_off (X := X) fl3.2.2.1 e3 d3
    have nL : a ≠ X.env.locals := fun z => off (List.mem_filterMap.mpr ⟨X.env, List.mem_cons_self, hf.trans (congrArg some z.symm)⟩)
    have nF : a ∉ X.fs := fun hm => off (by
      obtain ⟨e, he, q⟩ := List.mem_filterMap.mp hm
      exact List.mem_filterMap.mpr ⟨e, List.mem_cons_of_mem _ he, q⟩)
    have L3 : Inv X pins τ G { s' with heap := h3 } := J.landed nb fl3.1 (up.trans up3) os ag
    have S3 := L3.suite e3 d3 na nL nF
    refine wpAny_handleBy_cons (codeAny_handlers_test (ld_glob (X := X.suite a ((a, o3) :: (X.pn ++ pins))) S3 hg hm ((PySem.W.exm_one (M := model X.prog X.w) S3.kIn (fun A Q E s k q => wpAny_typeOf_ref (k _ _ e3) (by rw [z3.1]; exact q)) em).here ?_) hdb)) (by intro q; cases q)
    refine codeAny_handlers_suite_as (HandSPX.lands_againZ fl3 fun h4 fl4 up4 => ?_)
    obtain ⟨o4, v4, e4, z4, d4⟩ := fl4.there
    have L4 : Inv X pins τ G { s' with heap := h4 } := J.landed nb fl4.1 ((up.trans up3).trans up4) os ag
    have S4 := L4.suite e4 d4 na nL nF
    refine store_ok (X := X.suite a ((a, o4) :: (X.pn ++ pins))) (v := .ref a) S4 hN hi (.inl hln) rfl (fun s5 S5 => ?_) (.inr hln)
    refine wpAny_mono ((hsu a o4 cls d (X.pn ++ pins) z4 ⟨_, d4⟩).run [] s5 _ G _ S5 (go a na)) (fun f s6 q => ?_) fun _ _ z => z.elim
    cases f with
    | ret u => obtain ⟨v, ρ, F, S6, r, q⟩ := q; exact gone_ok (S6.unsuite I.ok) hN hi hln fun s7 J7 => ⟨_, _, _, J7, r, q⟩
    | next => obtain ⟨ρ, F, S6, q⟩ := q; exact gone_ok (S6.unsuite I.ok) hN hi hln fun s7 J7 => ⟨_, _, J7, q⟩
    | brk => obtain ⟨ρ, F, S6, q⟩ := q; exact gone_ok (S6.unsuite I.ok) hN hi hln fun s7 J7 => ⟨_, _, J7, q⟩
    | cont => obtain ⟨ρ, F, S6, q⟩ := q; exact gone_ok (S6.unsuite I.ok) hN hi hln fun s7 J7 => ⟨_, _, J7, q⟩
  · cases f with
    | ret u => obtain ⟨v, τ, G, J, r, q⟩ := q; exact ⟨v, τ, G, J.ofTry I.ok, r, q⟩
    | next => obtain ⟨τ, G, J, q⟩ := q; exact wpAny_execs_nil ⟨τ, G, J.ofTry I.ok, q⟩
    | brk => obtain ⟨τ, G, J, q⟩ := q; exact ⟨τ, G, J.ofTry I.ok, q⟩
    | cont => obtain ⟨τ, G, J, q⟩ := q; exact ⟨τ, G, J.ofTry I.ok, q⟩
end
end L2
end

section
set_option Elab.async false
set_option linter.all false
set_option maxRecDepth 100000
set_option maxHeartbeats 2000000
/-! TeI: an exception that a clause hands on as a value -/
namespace L2
open PySem PySem.Spec PyProof.Rows
/-- an exception object that nobody handles any more -/
def exH (C : Addr) (d : Option Addr) (a : Addr) : HO := .ext fun h => ∃ (oe : PySem.Obj) (vs : Array Value), h.get? a = some oe ∧ Zc (.ref C) d oe ∧ oe.data = .fields vs
theorem exH_ok {P : Program} {w : World} {H : Hp} {h : Heap} {a C : Addr} {d : Option Addr} {oe : Obj} {vs : Array Value} (e : h.get? a = some oe) (z : Zc (.ref C) d oe) (dd : oe.data = .fields vs) : ObjOk P w H h a (exH C d a) :=
  ⟨⟨oe, vs, e, z, dd⟩, ⟨oe, e⟩, fun _ _ ⟨o, v, q, r⟩ k => ⟨o, v, k o q, r⟩⟩
theorem exH_at {P : Program} {w : World} {H : Hp} {h : Heap} {a C : Addr} {d : Option Addr} (hok : HOk P w H h) (e : H a = some (exH C d a)) : ∃ (oe : Obj) (vs : Array Value), h.get? a = some oe ∧ Zc (.ref C) d oe ∧ oe.data = .fields vs := by
  have x : ObjOk P w H h a (.ext fun h => ∃ (oe : PySem.Obj) (vs : Array Value), h.get? a = some oe ∧ Zc (.ref C) d oe ∧ oe.data = .fields vs) := hok a _ e
  exact x.1
section
variable {X : Cx} {pins : List (Addr × Obj)} {σ : St} {H : Hp} {s : Shared}
/-- an object that was pinned is tracked from now on -/
theorem Inv.track {a : Addr} {oe : Obj} {o : HO} (I : Inv X ((a, oe) :: pins) σ H s) (n0 : X.s_0.heap.get? a = none) (hp : ∀ p ∈ X.pn ++ pins, p.1 ≠ a) (new : ObjOk X.prog X.w (upd H a o) s.heap a o) : Inv X pins σ (upd H a o) s := by
  obtain ⟨ha, na, nL, nF, nc⟩ := I.pin (a, oe) (List.mem_append_right _ List.mem_cons_self)
  have ne : ∀ {b : Addr} {u : Obj}, X.s_0.heap.get? b = some u → b ≠ a := fun {b u} e z => by
    rw [z, n0] at e
    cases e
  exact {
    ok := I.ok
    os := I.os
    bare := I.bare
    base := {
      keep := I.base.keep
      slot := I.base.slot
      free := fun b u e n hx => by rw [upd_ne (ne e)]; exact I.base.free b u e n hx
      there := I.base.there
      tups := fun b xs e => by
        have q := I.base.tups b xs e
        rw [upd_ne (fun z => by rw [z, na] at q; cases q)]
        exact q
      frzs := fun b u v e => by
        have q := I.base.frzs b u v e
        rw [upd_ne (fun z => by rw [z, na] at q; cases q)]
        exact q
      tbls := fun b ps e => by
        obtain ⟨m, q⟩ := I.base.tbls b ps e
        exact ⟨m, by rw [upd_ne (fun z => by rw [z, na] at q; cases q)]; exact q⟩ }
    loc := I.loc
    cell := I.cell
    free := by rw [upd_ne (Ne.symm nL)]; exact I.free
    freeC := fun x c e => by
      rw [upd_ne]
      · exact I.freeC x c e
      · intro z
        obtain ⟨v, oc, ho, hd⟩ := I.cell x c e
        rw [z, ha] at ho
        cases ho
        exact nc v hd
    pin := fun p hq => by
      obtain ⟨e, n, r⟩ := I.pin p (by
        rcases List.mem_append.mp hq with q | q
        · exact List.mem_append_left _ q
        · exact List.mem_append_right _ (List.mem_cons_of_mem _ q))
      exact ⟨e, by rw [upd_ne (hp p hq)]; exact n, r⟩
    hok := fun b u e => by
      by_cases hb : b = a
      · subst hb
        rw [upd_same] at e
        cases e
        exact new
      · rw [upd_ne hb] at e
        exact (I.hok b u e).stay (fun c v _ q => q) (fun c q => by rw [upd_ne (fun z => by rw [z, na] at q; cases q)]; exact q) fun c xs q => by rw [upd_ne (fun z => by rw [z, na] at q; cases q)]; exact q
    len := I.len }
/-- the suite is left, its exception still pinned -/
theorem Inv.unsuiteP {a : Addr} {q : Addr × Obj} {pn' : List (Addr × Obj)} (I : Inv (X.suite a (q :: (X.pn ++ pins))) pn' σ H s) (ok : X.Ok) : Inv X (q :: pins) σ H s :=
  ⟨ok, I.os, I.bare, I.base, I.loc, I.cell, I.free, I.freeC, fun p hp => I.pin p (List.mem_append_left _ (by
    rcases List.mem_append.mp hp with z | z
    · exact List.mem_cons_of_mem _ (List.mem_append_left _ z)
    · rcases List.mem_cons.mp z with rfl | z
      · exact List.mem_cons_self
      · exact List.mem_cons_of_mem _ (List.mem_append_right _ z))), I.hok, I.len⟩
end
/-- the clause's wish: it takes the exception and hands it on -/
def wKeep (K : PySem.W.Frag) (c : Value) (D : Ends) : WX := fun cls d _ H => PySem.W.exmOne K cls c = some true ∧ ∃ C, cls = .ref C ∧ ∀ a, H a = none → D.rt (.ref a) (upd H a (exH C d a))
section
variable {X : Cx} {x n : Str} {c : Value} {i : Nat} {body : List Stmt} {np np2 rp pos pos' : Pos} {tb : WX → TS}
theorem ps_try_keep (hs : X.stack = X.env :: X.outer) (hf : X.env.frame = some X.env.locals) (hex : X.ex = []) (hN : X.N.Nodup) (hi : X.N[i]? = some n) (hln : X.env.kindOf n = some .local) (hv : Vis X.env.scope n) (hdn : (n == ("__debug__" : Str)) = false) (hcd : (n == ("__classdict__" : Str)) = false)
    (hg : Gl X x) (hdb : (x == ("__debug__" : Str)) = false) (hm : X.mg x = some c)
    (hb : ∀ (W : WX) (pn : List (Addr × Obj)) (xe : Value → Shared → Prop), Takes (X.tr pn xe) W → PassesOwn (model X.prog X.w) X.A X.env xe → PSs (X.tr pn xe) body (tb W)) :
    PS X (.Try body [.ExceptHandler (some (.Name x np)) (some n) [.Return (some (.Name n np2)) rp] pos'] [] [] pos) (fun D σ H => tb (wKeep X.K c D) D σ H) := by
  constructor
  intro pins s σ H D I h
  have frm : X.A.frames = some (X.env :: X.outer) := I.ok.frames.trans (congrArg some hs)
  refine wpAny_Try_except (wpAny_mono ((hb (wKeep X.K c D) (X.pn ++ pins) _ (fun u s' z => ?_) PassesOwn.looking).run [] s σ H D (I.toTry _) h) (fun f s1 q => ?_) fun _ _ z => z)
  · obtain ⟨a, B, sI, pj, τ, G, cls, d, rfl, J0, nb, up, sky, na, os, ag, em, C, ecl, go⟩ := z
    have J := J0.ofTry I.ok
    rw [show (X.tr (X.pn ++ pins) _).stack = X.env :: X.outer from hs] at sky
    show wpAny (model X.prog X.w) X.A (noteFrame (.ref a) X.env) _ _ _
    refine Sky.land Zc.steady frm hf sky fun h3 fl3 up3 => ?_
    obtain ⟨o3, v3, e3, z3, d3⟩ := fl3.there
    have off := fly_off (X := X) fl3.2.2.1 e3 d3
    have nL : a ≠ X.env.locals := fun z => off (List.mem_filterMap.mpr ⟨X.env, List.mem_cons_self, hf.trans (congrArg some z.symm)⟩)
    have nF : a ∉ X.fs := fun hm => off (by
      obtain ⟨e, he, q⟩ := List.mem_filterMap.mp hm
      exact List.mem_filterMap.mpr ⟨e, List.mem_cons_of_mem _ he, q⟩)
    have nI : sI.heap.get? a = none := by
      cases z : sI.heap.get? a with
      | none => rfl
      | some o => exact absurd (nb a o z (by rw [show (X.tr (X.pn ++ pins) _).stack = X.env :: X.outer from hs]; exact off)) (by rw [fl3.2.1]; exact fun z => nomatch z)
    have n0 : X.s_0.heap.get? a = none := by
      cases z : X.s_0.heap.get? a with
      | none => rfl
      | some o =>
        obtain ⟨o', z'⟩ := J.base.there a o z (by rw [hex]; exact fun z => nomatch z)
        rw [nI] at z'
        cases z'
    have hpn : ∀ p ∈ X.pn ++ pins, p.1 ≠ a := fun p hp z => by
      have := (J.pin p hp).1
      rw [z, nI] at this
      cases this
    have L3 : Inv X pins τ G { s' with heap := h3 } := J.landed nb fl3.1 (up.trans up3) os ag
    have S3 := L3.suite e3 d3 na nL nF
    refine wpAny_handleBy_cons (codeAny_handlers_test (ld_glob (X := X.suite a ((a, o3) :: (X.pn ++ pins))) S3 hg hm ((PySem.W.exm_one (M := model X.prog X.w) S3.kIn (fun A Q E s k q => wpAny_typeOf_ref (k _ _ e3) (by rw [z3.1]; exact q)) em).here ?_) hdb)) (by intro q; cases q)
    refine codeAny_handlers_suite_as (HandSPX.lands_againZ fl3 fun h4 fl4 up4 => ?_)
    obtain ⟨o4, v4, e4, z4, d4⟩ := fl4.there
    have L4 : Inv X pins τ G { s' with heap := h4 } := J.landed nb fl4.1 ((up.trans up3).trans up4) os ag
    have S4 := L4.suite e4 d4 na nL nF
    refine store_ok (X := X.suite a ((a, o4) :: (X.pn ++ pins))) (v := .ref a) S4 hN hi (.inl hln) rfl (fun s5 S5 => ?_) (.inr hln)
    have hlen : i < τ.length := by
      have := L4.len
      rw [this]
      exact (List.getElem?_eq_some_iff.mp hi).1
    have rd : PSs (X.suite a ((a, o4) :: (X.pn ++ pins))) [.Return (some (.Name n np2)) rp] (tRet (tVar i)) := pss_one (ps_ret (pe_var hi hv hdn hcd))
    refine wpAny_mono (rd.run [] s5 _ G ⟨fun _ _ => False, fun v F => v = .ref a ∧ F = G, fun _ _ => False, fun _ _ => False⟩ S5 ⟨.ref a, by rw [List.getElem?_set_self hlen], rfl, rfl⟩) (fun f s6 q => ?_) fun _ _ z => z.elim
    cases f with
    | ret u =>
      obtain ⟨v, ρ, F, S6, r, ev, eF⟩ := q
      subst ev
      subst eF
      refine gone_ok (S6.unsuiteP I.ok) hN hi hln fun s7 J7 => ?_
      obtain ⟨e7, _⟩ := J7.pin (a, o4) (List.mem_append_right _ List.mem_cons_self)
      subst ecl
      exact ⟨_, _, _, J7.track n0 hpn (exH_ok e7 z4 d4), r, go a na⟩
    | next => obtain ⟨_, _, _, q⟩ := q; exact q.elim
    | brk => obtain ⟨_, _, _, q⟩ := q; exact q.elim
    | cont => obtain ⟨_, _, _, q⟩ := q; exact q.elim
  · cases f with
    | ret u => obtain ⟨v, τ, G, J, r, q⟩ := q; exact ⟨v, τ, G, J.ofTry I.ok, r, q⟩
    | next => obtain ⟨τ, G, J, q⟩ := q; exact wpAny_execs_nil ⟨τ, G, J.ofTry I.ok, q⟩
    | brk => obtain ⟨τ, G, J, q⟩ := q; exact ⟨τ, G, J.ofTry I.ok, q⟩
    | cont => obtain ⟨τ, G, J, q⟩ := q; exact ⟨τ, G, J.ofTry I.ok, q⟩
end
/-- isinstance(e, c), e an exception object that was handed on -/
def rIsO (K : PySem.W.Frag) : List V → Hp → VK → Prop := fun xs H Q => ∃ (a D : Addr) (d : Option Addr) (c : V) (cv : Value) (b : Bool), xs = [.ref a, c] ∧ ExcC K D ∧ H a = some (exH D d a) ∧ (∀ dd, d = some dd → ∃ fs, H dd = some (.xd fs)) ∧ (∀ u, RelV c u → u = cv) ∧ PySem.W.kitOne K (.ref D) cv = some b ∧ Q (.bl b) H
theorem call_isO {X : Cx} : CallR X (.builtin "isinstance") (rIsO X.K) := by
  intro pins s σ H xs us Q I r ⟨a, D, d, c, cv, b, ex, C, ha, hd, hcv, e, q⟩
  subst ex
  match r with
  | .cons rx (.cons rt .nil) =>
    have ec := hcv _ rt
    subst ec
    cases rx
    obtain ⟨oe, vs, ho, hz, hv⟩ := exH_at I.hok ha
    have isC : (PySem.W.clsIn X.K D).isSome = true := by
      have := C.hd
      unfold PySem.W.hasDictIn at this
      cases z : PySem.W.clsIn X.K D with
      | some cd => rfl
      | none => rw [z] at this; cases this
    have fin : ∀ od, PySem.W.InstAt s.heap a oe D od → wpAny (model X.prog X.w) X.A (call (.builtin "isinstance") [.ref a, _]) (EP X pins σ Q) X.xe s := fun od J =>
      PySem.W.kia_one (PySem.W.kitx_exc isC C.hg C.hk C.hs C.ha C.hn C.ht C.hm) I.kIn J e (fun z => nomatch z) fun tk => ⟨.bl b, H, I.kept (t' := tk) fun _ _ z => z, rfl, q⟩
    have nc : PySem.W.notCls oe = true := by unfold PySem.W.notCls; rw [hv] <;> rfl
    cases d with
    | none => exact fin none ⟨ho, hz.1, nc, by rw [hz.2]; trivial⟩
    | some dd =>
      obtain ⟨fs, hdd⟩ := hd dd rfl
      have hx : ObjOk X.prog X.w H s.heap dd (.xd fs) := I.hok dd _ hdd
      obtain ⟨mA, hns, _⟩ := hx
      obtain ⟨od, ho2, _⟩ := lookIn_ns hns
      exact fin (some od) ⟨ho, hz.1, nc, by rw [hz.2]; exact ho2⟩
end L2
end

section
set_option Elab.async false
set_option linter.all false
set_option maxRecDepth 100000
set_option maxHeartbeats 4000000
/-! Snd1: how the small language's states stand for the machine's; the frame of the soundness proof -/
namespace Mi
open PySem PySem.Spec PyProof.Rows L2

/-- the places of the small heap: where each lives; the lists that are never changed again -/
structure Mu where
  l : List (Option Addr)
  F : Addr → Prop
/-- the script: locked, or written -/
def ScrAt (K : PySem.W.Frag) (H : Hp) (a : Addr) (ns : List Int) : Prop := (∃ o, H a = some (.frz o (.lst (ns.map V.int)))) ∨
  ∃ (o : PySem.Obj) (its : Array Value) (n : Nat), K.lookup a = some o ∧ o.cls = .type "list" ∧ o.dict = none ∧ o.data = .seq its n ∧ its.size ≤ sizeLine ∧ Vals (ns.map V.int) its.toList
/-- the fields of an exception with the dict d -/
def XF (H : Hp) (d : Option Addr) (fs : List PV) : Prop := match d with
  | none => fs = []
  | some dd => ∃ i : Int, fs = [.int i] ∧ H dd = some (.xd [("line", .int i)])
mutual
inductive RV (K : PySem.W.Frag) (fa : Nat → Addr) (es : List (Addr × Nat × Option Addr)) (μ : Mu) (H : Hp) : PV → V → Prop
  | non : RV K fa es μ H .non .non
  | bl (b : Bool) : RV K fa es μ H (.bl b) (.bl b)
  | int (i : Int) : RV K fa es μ H (.int i) (.int i)
  | str (z : Str) : RV K fa es μ H (.str z.cps.toList) (.str z)
  | tup {a : Addr} {vs : List V} {xs : List PV} : SqB K H a vs → RVs K fa es μ H xs vs → RV K fa es μ H (.tup xs) (.ref a)
  | lst {a : Addr} {vs : List V} {xs : List PV} : H a = some (.lst vs) → μ.F a → RVs K fa es μ H xs vs → RV K fa es μ H (.lst xs) (.ref a)
  | ref {n : Nat} {a : Addr} : n < μ.l.length → (∀ a', μ.l[n]? = some (some a') → a' = a) → RV K fa es μ H (.ref n) (.ref a)
  | fn (f : Nat) : RV K fa es μ H (.fn f) (.ref (fa f))
  | exc {a : Addr} {c : Nat} {d : Option Addr} {fs : List PV} : (a, c, d) ∈ es → XF H d fs → RV K fa es μ H (.exc c fs) (.ref a)
  | scr {a : Addr} {ns : List Int} : ScrAt K H a ns → RV K fa es μ H (.scr (ns.map PV.int)) (.ref a)
  | rng {a : Addr} {lo hi : Int} : H a = some (.rng lo hi) → RV K fa es μ H (.rng lo hi) (.ref a)
  | exo {a : Addr} {c : Nat} {d : Option Addr} {fs : List PV} : fa (1001 + 2 * c) = 1 → H a = some (exH (fa (1000 + 2 * c)) d a) → μ.F a → XF H d fs → RV K fa es μ H (.exo c fs) (.ref a)
  | dct {a : Addr} {o : PySem.Obj} {l : List (Int × Int)} : H a = some (.frz o (.dK (l.map fun p => ((.inl p.1 : Key), V.int p.2)))) → RV K fa es μ H (.dct l) (.ref a)
inductive RVs (K : PySem.W.Frag) (fa : Nat → Addr) (es : List (Addr × Nat × Option Addr)) (μ : Mu) (H : Hp) : List PV → List V → Prop
  | nil : RVs K fa es μ H [] []
  | cons {x : PV} {v : V} {xs : List PV} {vs : List V} : RV K fa es μ H x v → RVs K fa es μ H xs vs → RVs K fa es μ H (x :: xs) (v :: vs)
end
section
variable {K : PySem.W.Frag} {fa : Nat → Addr} {es : List (Addr × Nat × Option Addr)} {μ μ' : Mu} {H H' : Hp}
theorem RVs.length : ∀ {xs : List PV} {vs : List V}, RVs K fa es μ H xs vs → xs.length = vs.length
  | _, _, .nil => rfl
  | _, _, .cons _ r => by rw [List.length_cons, List.length_cons, RVs.length r]
theorem RVs.get : ∀ {xs : List PV} {vs : List V} {i : Nat} {x : PV}, RVs K fa es μ H xs vs → xs[i]? = some x → ∃ v, vs[i]? = some v ∧ RV K fa es μ H x v
  | _, _, _, _, .nil, e => by simp at e
  | _, _, 0, _, .cons r _, e => by simp at e; subst e; exact ⟨_, rfl, r⟩
  | _, _, i + 1, x, .cons _ t, e => by
    obtain ⟨u, h1, h2⟩ := RVs.get (i := i) (x := x) t (by simpa using e)
    exact ⟨u, by simpa using h1, h2⟩
theorem RVs.append : ∀ {xs ys : List PV} {us ws : List V}, RVs K fa es μ H xs us → RVs K fa es μ H ys ws → RVs K fa es μ H (xs ++ ys) (us ++ ws)
  | _, _, _, _, .nil, s => s
  | _, _, _, _, .cons r t, s => .cons r (RVs.append t s)
theorem RVs.take : ∀ {xs : List PV} {us : List V} (n : Nat), RVs K fa es μ H xs us → RVs K fa es μ H (xs.take n) (us.take n)
  | _, _, 0, _ => by simp; exact .nil
  | _, _, _ + 1, .nil => .nil
  | _, _, n + 1, .cons r t => .cons r (RVs.take n t)
theorem RVs.drop : ∀ {xs : List PV} {us : List V} (n : Nat), RVs K fa es μ H xs us → RVs K fa es μ H (xs.drop n) (us.drop n)
  | _, _, 0, r => r
  | _, _, _ + 1, .nil => .nil
  | _, _, n + 1, .cons _ t => RVs.drop n t
theorem RVs.set {x : PV} {u : V} (r : RV K fa es μ H x u) : ∀ {xs : List PV} {us : List V} (i : Nat), RVs K fa es μ H xs us → RVs K fa es μ H (xs.set i x) (us.set i u)
  | _, _, _, .nil => .nil
  | _, _, 0, .cons _ t => .cons r t
  | _, _, i + 1, .cons q t => .cons q (RVs.set r i t)
theorem RVs.erase : ∀ {xs : List PV} {us : List V} (n : Nat), RVs K fa es μ H xs us → RVs K fa es μ H (xs.eraseIdx n) (us.eraseIdx n)
  | _, _, _, .nil => .nil
  | _, _, 0, .cons _ t => t
  | _, _, n + 1, .cons r t => .cons r (RVs.erase n t)
theorem RVs.rep {xs : List PV} {us : List V} (r : RVs K fa es μ H xs us) : ∀ n : Nat, RVs K fa es μ H (List.replicate n xs).flatten (List.replicate n us).flatten
  | 0 => .nil
  | n + 1 => by
    rw [List.replicate_succ, List.replicate_succ, List.flatten_cons, List.flatten_cons]
    exact r.append (RVs.rep r n)
theorem RVs.reverse : ∀ {xs : List PV} {us : List V}, RVs K fa es μ H xs us → RVs K fa es μ H xs.reverse us.reverse
  | _, _, .nil => .nil
  | _, _, .cons r t => by rw [List.reverse_cons, List.reverse_cons]; exact (RVs.reverse t).append (.cons r .nil)

/-- what may be changed -/
def isMu : HO → Bool
  | .lst _ => true
  | .dK _ => true
  | .dT _ => true
  | .ins _ _ _ => true
  | .ext _ => true
  | _ => false
/-- the live places stand for objects that may be changed -/
def MuOk (μ : Mu) (H : Hp) : Prop := ∀ (n : Nat) (a : Addr), μ.l[n]? = some (some a) → (∃ o, H a = some o ∧ isMu o = true) ∧ ¬ μ.F a
/-- a later state -/
structure Le (μ : Mu) (H : Hp) (μ' : Mu) (H' : Hp) : Prop where
  keep : ∀ a o, H a = some o → (∃ n : Nat, μ.l[n]? = some (some a)) ∨ H' a = some o
  dom : ∀ a o, H a = some o → ∃ o', H' a = some o'
  liv : ∀ (n : Nat) a, μ'.l[n]? = some (some a) → μ.l[n]? = some (some a) ∨ (μ.l.length ≤ n ∧ H a = none)
  len : μ.l.length ≤ μ'.l.length
  fz : ∀ a, μ.F a → μ'.F a
  nf : ∀ a, μ'.F a → μ.F a ∨ H a = none ∨ ∃ n : Nat, μ.l[n]? = some (some a)
theorem Le.refl : Le μ H μ H := ⟨fun _ _ e => .inr e, fun _ o e => ⟨o, e⟩, fun _ _ e => .inl e, Nat.le_refl _, fun _ h => h, fun _ h => .inl h⟩
theorem Le.none {a : Addr} (p : Le μ H μ' H') (n : H' a = none) : H a = none := by
  cases y : H a with
  | none => rfl
  | some o =>
    obtain ⟨o1, e1⟩ := p.dom a o y
    rw [e1] at n; cases n
theorem Le.trans {μ1 : Mu} {H1 : Hp} (p : Le μ H μ1 H1) (q : Le μ1 H1 μ' H') : Le μ H μ' H' where
  keep := fun a o e => by
    rcases p.keep a o e with x | x
    · exact .inl x
    · rcases q.keep a o x with ⟨n, y⟩ | y
      · rcases p.liv n a y with z | ⟨_, z⟩
        · exact .inl ⟨n, z⟩
        · rw [e] at z; cases z
      · exact .inr y
  dom := fun a o e => by
    obtain ⟨o1, e1⟩ := p.dom a o e
    exact q.dom a o1 e1
  liv := fun n a e => by
    rcases q.liv n a e with x | ⟨l, x⟩
    · exact p.liv n a x
    · exact .inr ⟨Nat.le_trans p.len l, p.none x⟩
  len := Nat.le_trans p.len q.len
  fz := fun a h => q.fz a (p.fz a h)
  nf := fun a h => by
    rcases q.nf a h with x | x | ⟨n, x⟩
    · exact p.nf a x
    · exact .inr (.inl (p.none x))
    · rcases p.liv n a x with z | ⟨_, z⟩
      · exact .inr (.inr ⟨n, z⟩)
      · exact .inr (.inl z)
theorem MuOk.not_live {a : Addr} {o : HO} (m : MuOk μ H) (e : H a = some o) (i : isMu o = false) : ∀ n : Nat, μ.l[n]? ≠ some (some a) := fun n q => by
  obtain ⟨⟨o', e', i'⟩, _⟩ := m n a q
  rw [e] at e'; cases e'
  rw [i] at i'; cases i'
theorem Le.rd {a : Addr} {o : HO} (p : Le μ H μ' H') (m : MuOk μ H) (r : Rd H a o) (n : ∀ n : Nat, μ.l[n]? ≠ some (some a)) : Rd H' a o := by
  rcases r with r | ⟨ob, r⟩
  · rcases p.keep a _ r with ⟨k, z⟩ | z
    · exact absurd z (n k)
    · exact .inl z
  · rcases p.keep a _ r with ⟨k, z⟩ | z
    · exact absurd z (n k)
    · exact .inr ⟨ob, z⟩
theorem Le.sqt {a : Addr} {vs : List V} (p : Le μ H μ' H') (m : MuOk μ H) (r : SqT K H a vs) : SqT K H' a vs := by
  rcases r with r | r
  · refine .inl (p.rd m r fun n z => ?_)
    rcases r with r | ⟨ob, r⟩
    · exact m.not_live r rfl n z
    · exact m.not_live r rfl n z
  · exact .inr r
theorem Le.sqb {a : Addr} {vs : List V} (p : Le μ H μ' H') (m : MuOk μ H) (r : SqB K H a vs) : SqB K H' a vs := by
  rcases r with ⟨o, h, d⟩ | r
  · rcases p.keep a _ h with ⟨k, z⟩ | z
    · exact absurd z (m.not_live h rfl k)
    · exact .inl ⟨o, z, d⟩
  · exact .inr r
theorem Le.xf {d : Option Addr} {fs : List PV} (p : Le μ H μ' H') (m : MuOk μ H) (h : XF H d fs) : XF H' d fs := by
  cases d with
  | none => exact h
  | some dd =>
    obtain ⟨i, e, z⟩ := h
    exact ⟨i, e, (p.keep _ _ z).resolve_left fun ⟨n, q⟩ => m.not_live z rfl n q⟩
mutual
theorem RV.mono (p : Le μ H μ' H') (m : MuOk μ H) : ∀ {x : PV} {v : V}, RV K fa es μ H x v → RV K fa es μ' H' x v
  | _, _, .non => .non
  | _, _, .bl b => .bl b
  | _, _, .int i => .int i
  | _, _, .str z => .str z
  | _, _, .tup s r => .tup (p.sqb m s) (RVs.mono p m r)
  | _, _, .lst (a := a) s n r => .lst ((p.keep a _ s).elim (fun ⟨k, z⟩ => absurd n (m k a z).2) id) (p.fz a n) (RVs.mono p m r)
  | _, _, .ref (n := k) l e => .ref (Nat.lt_of_lt_of_le l p.len) (fun a' q => by
      rcases p.liv k a' q with y | ⟨y, _⟩
      · exact e a' y
      · exact absurd l (Nat.not_lt.mpr y))
  | _, _, .fn f => .fn f
  | _, _, .exc h x => .exc h (p.xf m x)
  | _, _, .scr h => .scr (by
      rcases h with ⟨o, h⟩ | h
      · rcases p.keep _ _ h with ⟨n, z⟩ | z
        · exact absurd z (m.not_live h rfl n)
        · exact .inl ⟨o, z⟩
      · exact .inr h)
  | _, _, .rng h => .rng ((p.keep _ _ h).resolve_left fun ⟨n, z⟩ => m.not_live h rfl n z)
  | _, _, .exo (a := a) f s n x => .exo f ((p.keep a _ s).elim (fun ⟨k, z⟩ => absurd n (m k a z).2) id) (p.fz a n) (p.xf m x)
  | _, _, .dct h => .dct ((p.keep _ _ h).resolve_left fun ⟨n, z⟩ => m.not_live h rfl n z)
theorem RVs.mono (p : Le μ H μ' H') (m : MuOk μ H) : ∀ {x : List PV} {v : List V}, RVs K fa es μ H x v → RVs K fa es μ' H' x v
  | _, _, .nil => .nil
  | _, _, .cons r t => .cons (RV.mono p m r) (RVs.mono p m t)
end
mutual
/-- cut back: what has no reference beyond n -/
theorem RV.cut (n : Nat) : ∀ {x : PV} {v : V}, RV K fa es μ H x v → x.low n = true → RV K fa es ⟨μ.l.take n, μ.F⟩ H x v
  | _, _, .non, _ => .non
  | _, _, .bl b, _ => .bl b
  | _, _, .int i, _ => .int i
  | _, _, .str z, _ => .str z
  | _, _, .tup s r, l => .tup s (RVs.cut n r (by simpa [PV.low] using l))
  | _, _, .lst s m r, l => .lst s m (RVs.cut n r (by simpa [PV.low] using l))
  | _, _, .ref (n := k) q e, l => by
      have hk : k < n := by simpa [PV.low] using l
      refine .ref (by show k < (μ.l.take n).length; rw [List.length_take]; omega) (fun a' z => e a' ?_)
      have z : (μ.l.take n)[k]? = some (some a') := z
      rw [List.getElem?_take, if_pos hk] at z
      exact z
  | _, _, .fn f, _ => .fn f
  | _, _, .exc _ _, l => by simp [PV.low] at l
  | _, _, .scr h, l => .scr h
  | _, _, .rng h, l => .rng h
  | _, _, .exo f s m x, l => .exo f s m x
  | _, _, .dct h, l => .dct h
theorem RVs.cut (n : Nat) : ∀ {x : List PV} {v : List V}, RVs K fa es μ H x v → PV.lows n x = true → RVs K fa es ⟨μ.l.take n, μ.F⟩ H x v
  | _, _, .nil, _ => .nil
  | _, _, .cons r t, l => by
    have h := (Bool.and_eq_true_iff.mp l)
    exact .cons (RV.cut n r h.1) (RVs.cut n t h.2)
end
mutual
/-- more lists are known never to change -/
theorem RV.wide {F' : Addr → Prop} (w : ∀ a, μ.F a → F' a) : ∀ {x : PV} {v : V}, RV K fa es μ H x v → RV K fa es ⟨μ.l, F'⟩ H x v
  | _, _, .non => .non
  | _, _, .bl b => .bl b
  | _, _, .int i => .int i
  | _, _, .str z => .str z
  | _, _, .tup s r => .tup s (RVs.wide w r)
  | _, _, .lst s m r => .lst s (w _ m) (RVs.wide w r)
  | _, _, .ref q e => .ref q e
  | _, _, .fn f => .fn f
  | _, _, .exc h x => .exc h x
  | _, _, .scr h => .scr h
  | _, _, .rng h => .rng h
  | _, _, .exo f s m x => .exo f s (w _ m) x
  | _, _, .dct h => .dct h
theorem RVs.wide {F' : Addr → Prop} (w : ∀ a, μ.F a → F' a) : ∀ {x : List PV} {v : List V}, RVs K fa es μ H x v → RVs K fa es ⟨μ.l, F'⟩ H x v
  | _, _, .nil => .nil
  | _, _, .cons r t => .cons (RV.wide w r) (RVs.wide w t)
end
mutual
/-- no exception object within: the known ones do not matter -/
theorem RV.noex (n : Nat) {es' : List (Addr × Nat × Option Addr)} : ∀ {x : PV} {v : V}, RV K fa es μ H x v → x.low n = true → RV K fa es' μ H x v
  | _, _, .non, _ => .non
  | _, _, .bl b, _ => .bl b
  | _, _, .int i, _ => .int i
  | _, _, .str z, _ => .str z
  | _, _, .tup s r, l => .tup s (RVs.noex n r (by simpa [PV.low] using l))
  | _, _, .lst s m r, l => .lst s m (RVs.noex n r (by simpa [PV.low] using l))
  | _, _, .ref q e, _ => .ref q e
  | _, _, .fn f, _ => .fn f
  | _, _, .exc _ _, l => by simp [PV.low] at l
  | _, _, .scr h, l => .scr h
  | _, _, .rng h, l => .rng h
  | _, _, .exo f s m x, l => .exo f s m x
  | _, _, .dct h, l => .dct h
theorem RVs.noex (n : Nat) {es' : List (Addr × Nat × Option Addr)} : ∀ {x : List PV} {v : List V}, RVs K fa es μ H x v → PV.lows n x = true → RVs K fa es' μ H x v
  | _, _, .nil, _ => .nil
  | _, _, .cons r t, l => by
    have h := (Bool.and_eq_true_iff.mp l)
    exact .cons (RV.noex n r h.1) (RVs.noex n t h.2)
end
mutual
theorem RV.lowB : ∀ {x : PV} {v : V}, RV K fa [] μ H x v → x.low μ.l.length = true
  | _, _, .non => rfl
  | _, _, .bl _ => rfl
  | _, _, .int _ => rfl
  | _, _, .str _ => rfl
  | _, _, .tup _ r => by simp only [PV.low]; exact RVs.lowB r
  | _, _, .lst _ _ r => by simp only [PV.low]; exact RVs.lowB r
  | _, _, .ref l _ => by simp only [PV.low, decide_eq_true_eq]; exact l
  | _, _, .fn _ => rfl
  | _, _, .scr _ => rfl
  | _, _, .rng _ => rfl
  | _, _, .exo _ _ _ _ => rfl
  | _, _, .dct _ => rfl
theorem RVs.lowB : ∀ {x : List PV} {v : List V}, RVs K fa [] μ H x v → PV.lows μ.l.length x = true
  | _, _, .nil => rfl
  | _, _, .cons r t => Bool.and_eq_true_iff.mpr ⟨RV.lowB r, RVs.lowB t⟩
end
end
/-! ### the small heap -/
def kPV : Key → PV
  | .inl i => .int i
  | .inr s => .str s.cps.toList
/-- tuples of ints as keys; the object of a dict whose keys they are -/
def tupI (l : List Int) : PV := .tup (l.map .int)
def tHash (l : List Int) : Int := reduceHash (Builtin.Tuple.tupleHashOf (l.map hashInt))
def tdE (x : List Int × Addr × Value) : DictEntry := ⟨tHash x.1, .ref x.2.1, x.2.2⟩
def tdP (a : Addr) (xs : List (List Int × Addr × Value)) (h : Heap) : Prop := (a == sysModules) = false ∧ xs.length ≤ sizeLine ∧
  ∃ o es ep, h.get? a = some o ∧ o.ExactDict ∧ o.data = .dict es ep ∧ es.toList = xs.map tdE ∧ (xs.map (·.1)).Nodup
def TdO (a : Addr) (xs : List (List Int × Addr × Value)) : HO := .ext (tdP a xs)
theorem lows_tupI {n : Nat} : ∀ {ks : List (List Int)}, PV.lows n (ks.map tupI) = true
  | [] => rfl
  | l :: r => by
    rw [List.map_cons]
    refine Bool.and_eq_true_iff.mpr ⟨?_, lows_tupI⟩
    show PV.lows n (l.map .int) = true
    induction l with
    | nil => rfl
    | cons a t ih => exact ih
def Obj.low (n : Nat) : Obj → Bool
  | .lst xs => PV.lows n xs
  | .dic kvs => kvs.all fun p => p.1.low n && p.2.low n
  | .dit _ => true
  | .diu _ => true
  | .dead => true
section
variable (K : PySem.W.Frag) (fa : Nat → Addr)
def OR (μ : Mu) (H : Hp) (a : Addr) : Obj → Prop
  | .lst xs => ∃ vs, H a = some (.lst vs) ∧ RVs K fa [] μ H xs vs
  | .dic kvs => ∃ ks : List (Key × V), H a = some (.dK ks) ∧ kvs.map (·.1) = ks.map (fun q => kPV q.1) ∧ RVs K fa [] μ H (kvs.map (·.2)) (ks.map (·.2))
  | .dit ks => ∃ xs : List (List Int × Addr × Value), H a = some (TdO a xs) ∧ ks = xs.map (·.1) ∧ RVs K fa [] μ H (ks.map tupI) (xs.map fun x => V.ref x.2.1)
  | .diu kvs => ∃ xs : List (List Int × Addr × Value), H a = some (TdO a xs) ∧ (kvs.map (·.1) = xs.map (·.1) ∧ Vals (kvs.map fun q => V.int q.2) (xs.map fun x => x.2.2)) ∧ RVs K fa [] μ H ((kvs.map (·.1)).map tupI) (xs.map fun x => V.ref x.2.1)
  | .dead => True
structure HR (B : Nat → Prop) (h : Hs) (μ : Mu) (H : Hp) : Prop where
  mu : MuOk μ H
  len : h.length = μ.l.length
  obj : ∀ (n : Nat) o, h[n]? = some o → o ≠ .dead → ∃ a, μ.l[n]? = some (some a) ∧ OR K fa μ H a o
  inj : ∀ (n m : Nat) a, μ.l[n]? = some (some a) → μ.l[m]? = some (some a) → n = m
  fd : ∀ a, μ.F a → ∃ o, H a = some o
  lows : ∀ c, B c → ∀ (n : Nat) o, n < c → h[n]? = some o → o.low c = true
def EnvR (es : List (Addr × Nat × Option Addr)) (μ : Mu) (H : Hp) (σ : En) (s : L2.St) : Prop :=
  σ.length = s.length ∧ ∀ (i : Nat) x, σ[i]? = some (some x) → ∃ v, s[i]? = some (some v) ∧ RV K fa es μ H x v
end
section
variable {K : PySem.W.Frag} {fa : Nat → Addr} {es : List (Addr × Nat × Option Addr)} {μ μ' : Mu} {H H' : Hp} {B : Nat → Prop}
theorem EnvR.mono {σ : En} {s : L2.St} (p : Le μ H μ' H') (m : MuOk μ H) (e : EnvR K fa es μ H σ s) : EnvR K fa es μ' H' σ s :=
  ⟨e.1, fun i x q => let ⟨v, a, r⟩ := e.2 i x q; ⟨v, a, r.mono p m⟩⟩
theorem EnvR.set {σ : En} {s : L2.St} {x : PV} {v : V} (e : EnvR K fa es μ H σ s) (r : RV K fa es μ H x v) (i : Nat) : EnvR K fa es μ H (σ.set i (some x)) (s.set i (some v)) := by
  refine ⟨by simpa using e.1, fun j y q => ?_⟩
  by_cases hj : i = j
  · subst hj
    by_cases hl : i < σ.length
    · rw [List.getElem?_set_self hl] at q
      cases q
      exact ⟨v, by rw [List.getElem?_set_self (e.1 ▸ hl)], r⟩
    · rw [List.getElem?_eq_none (by simpa using hl)] at q; cases q
  · rw [List.getElem?_set_ne hj] at q
    obtain ⟨w, a, b⟩ := e.2 j y q
    exact ⟨w, by rw [List.getElem?_set_ne hj]; exact a, b⟩
theorem EnvR.unset {σ : En} {s : L2.St} (e : EnvR K fa es μ H σ s) (i : Nat) : EnvR K fa es μ H (σ.set i none) (s.set i none) := by
  refine ⟨by simpa using e.1, fun j y q => ?_⟩
  by_cases hj : i = j
  · subst hj
    by_cases hl : i < σ.length
    · rw [List.getElem?_set_self hl] at q; cases q
    · rw [List.getElem?_eq_none (by simpa using hl)] at q; cases q
  · rw [List.getElem?_set_ne hj] at q
    obtain ⟨w, a, b⟩ := e.2 j y q
    exact ⟨w, by rw [List.getElem?_set_ne hj]; exact a, b⟩
theorem EnvR.wipe {σ : En} {s : L2.St} (e : EnvR K fa es μ H σ s) : ∀ vs : List Nat, EnvR K fa es μ H (Mi.wipe σ vs) (L2.wipe s vs)
  | [] => e
  | v :: vs => (EnvR.wipe e vs).unset v

/-! ### what a run must come to -/
abbrev KA (α : Type) := α → Hs → Mu → Hp → Prop
abbrev KX := Nat → List PV → Hs → Mu → Hp → Prop
def Post (K : PySem.W.Frag) (fa : Nat → Addr) (B : Nat → Prop) (μ : Mu) (H : Hp) {α : Type} (r : R α) (k : KA α) (x : KX) : Prop := match r with
  | .ok a h => ∀ μ' H', Le μ H μ' H' → HR K fa B h μ' H' → k a h μ' H'
  | .exc c fs h => ∀ μ' H', Le μ H μ' H' → HR K fa B h μ' H' → x c fs h μ' H'
  | .bad => False
theorem Post.bind {α β : Type} {r : R α} {f : α → Hs → R β} {k : KA β} {x : KX} (p : Post K fa B μ H (r.bind f) k x) : Post K fa B μ H r (fun a h μ1 H1 => Post K fa B μ1 H1 (f a h) k x) x := by
  cases r with
  | bad => exact p
  | exc c fs h => exact p
  | ok a h =>
    intro μ1 H1 l1 g1
    have p : Post K fa B μ H (f a h) k x := p
    show Post K fa B μ1 H1 (f a h) k x
    cases q : f a h with
    | bad => rw [q] at p; exact p
    | ok b h' => rw [q] at p; exact fun μ2 H2 l2 g2 => p μ2 H2 (l1.trans l2) g2
    | exc c fs h' => rw [q] at p; exact fun μ2 H2 l2 g2 => p μ2 H2 (l1.trans l2) g2
theorem Post.mono {α : Type} {r : R α} {k k' : KA α} {x x' : KX} (p : Post K fa B μ H r k x) (hk : ∀ a h μ' H', Le μ H μ' H' → HR K fa B h μ' H' → k a h μ' H' → k' a h μ' H')
    (hx : ∀ c fs h μ' H', Le μ H μ' H' → HR K fa B h μ' H' → x c fs h μ' H' → x' c fs h μ' H') : Post K fa B μ H r k' x' := by
  cases r with
  | bad => exact p
  | ok a h => exact fun μ' H' l g => hk _ _ _ _ l g (p μ' H' l g)
  | exc c fs h => exact fun μ' H' l g => hx _ _ _ _ _ l g (p μ' H' l g)
theorem Post.of {α : Type} {o : Option α} {h : Hs} {k : KA α} {x : KX} (p : Post K fa B μ H (R.of o h) k x) : ∃ a, o = some a ∧ ∀ μ' H', Le μ H μ' H' → HR K fa B h μ' H' → k a h μ' H' := by
  cases o with
  | none => exact p.elim
  | some a => exact ⟨a, rfl, p⟩
end
end Mi
end

section
set_option Elab.async false
set_option linter.all false
set_option maxRecDepth 100000
set_option maxHeartbeats 4000000
/-! Snd2: contexts, readings, the rules of sequence -/
namespace Mi
open PySem PySem.Spec PyProof.Rows L2

structure Tb where
  fns : List (Nat × Str × Nat)
  cons : List (Str × PV)
  dics : List (Str × List Str × List (List Nat × PV))
  clss : List (Nat × Str)
  gcd : Bool
  exc : Bool
  comb : Bool := false
  txt : Bool := false
/-- what the check knows of the place: the slots' names, the scope's names, whether nothing is being handled -/
structure Cy where
  tb : Tb
  N : List Str
  sc : List (Str × NameKind)
  calm : Bool
  top : Bool
  cap : List Str
def isGlob (cy : Cy) (x : Str) : Bool := cy.sc.lookup x == some .globalImplicit && !(x == ("__debug__" : Str)) && !(x == ("__name__" : Str))
/-- a def of the text keeps the promise of its function in the small language -/
def ExR (ca : Nat → Addr) (cl : List Nat) (H : Hp) (c : Nat) (fs : List PV) (cls : Value) (d : Option Addr) : Prop := cls = .ref (ca c) ∧ XF H d fs ∧ cl.contains c = true
def spC (K : PySem.W.Frag) (fa ca : Nat → Addr) (cl : List Nat) (C : Calls) (f : Nat) (n : Nat) : Sp := fun vs H Q E => vs.length = n ∧ ∃ (B : Nat → Prop) (b : Nat) (xs : List PV) (h : Hs) (μ : Mu),
  (∀ c, B c → c ≤ b) ∧ b ≤ μ.l.length ∧ HR K fa B h μ H ∧ RVs K fa [] μ H xs vs ∧
  Post K fa B μ H (C f xs h b) (fun x _ μ' H' => ∀ v, RV K fa [] μ' H' x v → Q v H') (fun c fs _ _ H' => ∀ cls d, ExR ca cl H' c fs cls d → E cls d H')
structure Pk where
  fa : Nat → Addr
  ca : Nat → Addr
  cls : List Nat
  d : Nat
  C : Calls
/-- what the context must bear -/
structure Good (X : Cx) (p : Pk) (cy : Cy) (es : List (Addr × Nat × Option Addr)) (W : WX) : Prop where
  N : X.N = cy.N
  nd : X.N.Nodup
  sc : X.env.scope.names = cy.sc
  kind : X.env.scope.kind = .function
  fn : ∀ x, cy.sc.lookup x = some .cell → cy.cap.contains x = false → X.fn x = true
  calm : cy.calm = true → X.calm = true ∧ es = []
  room : cy.calm = true → Room p.d X.A
  top : cy.top = true → X.stack = X.env :: X.outer ∧ X.env.frame = some X.env.locals ∧ X.ex = []
  un : X.A.units + 65 < cLine
  tk : Takes X W
  po : PassesOwn (model X.prog X.w) X.A X.env X.xe
  fns : ∀ f x n, cy.tb.fns.lookup f = some (x, n) → ∃ fd ps, ps.length = n ∧ X.mg x = some (.ref (p.fa f)) ∧ PySem.W.keepIn X.K (.ref (p.fa f)) = true ∧ Binds X.K fd ps [] ∧
    FnOk X.prog X.w X.K X.mg X.base (CX X.prog X.w) p.d (p.fa f) fd ps (spC X.K p.fa p.ca p.cls p.C f n)
  cons : ∀ (i : Nat) x v, cy.tb.cons[i]? = some (x, v) → ∃ u w, X.mg x = some u ∧ RelV w u ∧ ∀ es μ H, RV X.K p.fa es μ H v w
  dics : ∀ (i : Nat) x ks kvs, cy.tb.dics[i]? = some (x, ks, kvs) → ∃ d, X.mg x = some (.ref d) ∧ ∀ (z : Str) v, kvs.lookup z.cps.toList = some v → ∃ w, KDct X.K X.w d z w ∧ ∀ es μ H, RV X.K p.fa es μ H v w
  blt : ∀ x, x ∈ (["len", "abs", "int", "tuple", "all", "any", "range", "enumerate", "zip", "list", "isinstance", "min", "max", "str", "sorted", "bool", "set", "sum"] : List Str) → X.mg x = none
  gcd : ∀ v, X.mg "gcd" = some v → v = .builtin "math.gcd"
  hasgcd : cy.tb.gcd = true → X.mg "gcd" = some (.builtin "math.gcd")
  hascmb : cy.tb.comb = true → X.mg "combinations" = some (.type "itertools.combinations")
  exm : ∀ c d x, cy.tb.clss.lookup d = some x → p.cls.contains c = true → X.mg x = some (.ref (p.ca d)) ∧ PySem.W.exmOne X.K (.ref (p.ca c)) (.ref (p.ca d)) = some (isSub c d) ∧ PySem.W.kitOne X.K (.ref (p.ca c)) (.ref (p.ca d)) = some (isSub c d)
  exv : ∀ c, p.cls.contains c = true → cy.tb.exc = true → ExcC X.K (p.ca c) ∧ PySem.W.kitOne X.K (.ref (p.ca c)) (.type "ValueError") = some true ∧ X.mg "ValueError" = none
  mkx : ∀ c x, cy.tb.clss.lookup c = some x → p.cls.contains c = true ∧ (c ≠ 2 → ∃ (B newId initId : String) (bm : List Value), ExcBaseFacts B newId initId bm ∧ PySem.W.excIn X.K (p.ca c) bm newId = true ∧ PySem.W.keepIn X.K (.ref (p.ca c)) = true ∧ Raises X (.ref (p.ca c)))
  mkt : cy.tb.txt = true → p.cls.contains 2 = true ∧ X.mg "super" = none ∧ ∃ fI fd, TextK X.prog X.K (p.ca 2) fI fd ∧ Binds X.K fd ["self", "message", "line"] []
  fac : ∀ c, (p.fa (1001 + 2 * c) = 1 ↔ p.cls.contains c = true) ∧ p.fa (1000 + 2 * c) = p.ca c
  exu : ∀ x ∈ es, ∀ y ∈ es, x = y
  exi : ∀ a c d, (a, c, d) ∈ es → p.cls.contains c = true ∧ CallR X (.builtin "isinstance") (rIsD X.K (p.ca c) a d)
  exf : cy.tb.txt = true → ∀ a dd, (a, 2, some dd) ∈ es → ∀ (e : Expr) (te : TE) (pos : Pos), PE X e te → attributeBase e "line" X.env (eval e X.env) = eval e X.env → PE X (.Attribute e "line" pos) (tXf a (.ref (p.ca 2)) (some dd) (p.ca 2) "line" te)

variable {X : Cx} {p : Pk} {cy : Cy} {es : List (Addr × Nat × Option Addr)} {W : WX}
structure Stt (K : PySem.W.Frag) (p : Pk) (es : List (Addr × Nat × Option Addr)) (B : Nat → Prop) (b : Nat) (σ : En) (h : Hs) (μ : Mu) (s : L2.St) (H : Hp) : Prop where
  bB : ∀ c, B c → c ≤ b
  bl : b ≤ μ.l.length
  env : EnvR K p.fa es μ H σ s
  hr : HR K p.fa B h μ H
theorem Stt.next {B : Nat → Prop} {b : Nat} {σ : En} {h h' : Hs} {μ μ' : Mu} {s : L2.St} {H H' : Hp} (st : Stt X.K p es B b σ h μ s H) (l : Le μ H μ' H') (g : HR X.K p.fa B h' μ' H') : Stt X.K p es B b σ h' μ' s H' :=
  ⟨st.bB, Nat.le_trans st.bl l.len, st.env.mono l st.hr.mu, g⟩

/-- an exception leaves an expression: the slots are as they were -/
def XW (p : Pk) (W : WX) (s : L2.St) : KX := fun c fs _ _ H' => ∀ cls d, ExR p.ca p.cls H' c fs cls d → W cls d s H'
def KE' (X : Cx) (p : Pk) (es : List (Addr × Nat × Option Addr)) (Q : VK) : KA PV := fun x _ μ' H' => ∀ v, RV X.K p.fa es μ' H' x v → Q v H'
def RdE (X : Cx) (p : Pk) (es : List (Addr × Nat × Option Addr)) (W : WX) (m : E) : TE := fun s H Q => ∃ (B : Nat → Prop) (b : Nat) (σ : En) (h : Hs) (μ : Mu), Stt X.K p es B b σ h μ s H ∧
  Post X.K p.fa B μ H (evE p.C b m σ h) (KE' X p es Q) (XW p W s)
def RdT (X : Cx) (p : Pk) (es : List (Addr × Nat × Option Addr)) (W : WX) (m : E) : TT := fun s H Q => ∃ (B : Nat → Prop) (b : Nat) (σ : En) (h : Hs) (μ : Mu), Stt X.K p es B b σ h μ s H ∧
  Post X.K p.fa B μ H (evE p.C b m σ h) (fun x _ _ H' => ∃ c, x = .bl c ∧ Q c H') (XW p W s)
def RdA (X : Cx) (p : Pk) (es : List (Addr × Nat × Option Addr)) (W : WX) (m : Es) : TA := fun s H Q => ∃ (B : Nat → Prop) (b : Nat) (σ : En) (h : Hs) (μ : Mu), Stt X.K p es B b σ h μ s H ∧
  Post X.K p.fa B μ H (evEs p.C b m σ h) (fun xs _ μ' H' => ∀ vs, RVs X.K p.fa es μ' H' xs vs → Q vs H') (XW p W s)
def KF (X : Cx) (p : Pk) (es : List (Addr × Nat × Option Addr)) (H : Hp) (Q : VK) : KA (List PV) := fun xs _ μ' H' => ∀ a vs, H a = none → H' a = some (.lst vs) → (∀ n : Nat, μ'.l[n]? ≠ some (some a)) → ¬ μ'.F a → RVs X.K p.fa es μ' H' xs vs → Q (.ref a) H'
def RdF (X : Cx) (p : Pk) (es : List (Addr × Nat × Option Addr)) (W : WX) (m : F) : TE := fun s H Q => ∃ (B : Nat → Prop) (b : Nat) (σ : En) (h : Hs) (μ : Mu), Stt X.K p es B b σ h μ s H ∧
  Post X.K p.fa B μ H (evF p.C b m σ h) (KF X p es H Q) (XW p W s)
def RdO (X : Cx) (p : Pk) (es : List (Addr × Nat × Option Addr)) (W : WX) (m : Oe) : L2.TO := fun s H Q => ∃ (B : Nat → Prop) (b : Nat) (σ : En) (h : Hs) (μ : Mu), Stt X.K p es B b σ h μ s H ∧
  Post X.K p.fa B μ H (evO p.C b m σ h) (fun x _ _ H' => Q x H') (XW p W s)
/-- items are what the walk gives -/
structure ItR (K : PySem.W.Frag) (fa : Nat → Addr) (es : List (Addr × Nat × Option Addr)) (μ : Mu) (H : Hp) (J : It) (xs : List PV) : Prop where
  lim : xs.length ≤ sizeLine
  stop : ∀ μ1 H1, Le μ H μ1 H1 → J.stop xs.length H1
  go : ∀ (i : Nat) x μ1 H1, Le μ H μ1 H1 → xs[i]? = some x → J.go i H1
  yld : ∀ (i : Nat) x v μ1 H1 H', Le μ H μ1 H1 → MuOk μ1 H1 → xs[i]? = some x → J.yld i H1 v H' → Same H1 H' ∧ RV K fa es μ1 H' x v
def RdI (X : Cx) (p : Pk) (es : List (Addr × Nat × Option Addr)) (W : WX) (m : I) : TI := fun s H R => ∃ (B : Nat → Prop) (b : Nat) (σ : En) (h : Hs) (μ : Mu), Stt X.K p es B b σ h μ s H ∧
  Post X.K p.fa B μ H (evI p.C b m σ h) (fun xs _ μ' H' => ∀ J, ItR X.K p.fa es μ' H' J xs → R J H') (XW p W s)

theorem _root_.L2.PE.imp {e : Expr} {t t' : TE} (h : PE X e t) (i : ∀ s H Q, t' s H Q → t s H Q) : PE X e t' := ⟨fun pins s σ H Q I q => h.run pins s σ H Q I (i _ _ _ q)⟩
theorem _root_.L2.PT.imp {e : Expr} {t t' : TT} (h : PT X e t) (i : ∀ s H Q, t' s H Q → t s H Q) : PT X e t' := ⟨fun pins s σ H Q I q => h.run pins s σ H Q I (i _ _ _ q)⟩
theorem _root_.L2.PA.imp {e : List Expr} {t t' : TA} (h : PA X e t) (i : ∀ s H Q, t' s H Q → t s H Q) : PA X e t' := ⟨fun pos pins s σ H Q I q => h.run pos pins s σ H Q I (i _ _ _ q)⟩

section
variable {B : Nat → Prop} {b : Nat} {σ : En} {h : Hs} {μ : Mu} {s : L2.St} {H : Hp}
/-- the first of two -/
theorem seqE {β : Type} {m : E} {f : PV → Hs → R β} {k : KA β} (st : Stt X.K p es B b σ h μ s H) (q : Post X.K p.fa B μ H ((evE p.C b m σ h).bind f) k (XW p W s)) {Q : VK}
    (hQ : ∀ x h1 μ1 H1 v, Le μ H μ1 H1 → Stt X.K p es B b σ h1 μ1 s H1 → RV X.K p.fa es μ1 H1 x v → Post X.K p.fa B μ1 H1 (f x h1) k (XW p W s) → Q v H1) : RdE X p es W m s H Q :=
  ⟨B, b, σ, h, μ, st, q.bind.mono (fun x h1 μ1 H1 l g z v r => hQ x h1 μ1 H1 v l (st.next l g) r z) fun _ _ _ _ _ _ _ z => z⟩
theorem seqT {β : Type} {m : E} {f : PV → Hs → R β} {k : KA β} (st : Stt X.K p es B b σ h μ s H) (q : Post X.K p.fa B μ H ((evE p.C b m σ h).bind f) k (XW p W s)) {Q : Bool → Hp → Prop}
    (hf : ∀ x h, (∀ c, x ≠ .bl c) → f x h = .bad) (hQ : ∀ c h1 μ1 H1, Le μ H μ1 H1 → Stt X.K p es B b σ h1 μ1 s H1 → Post X.K p.fa B μ1 H1 (f (.bl c) h1) k (XW p W s) → Q c H1) : RdT X p es W m s H Q :=
  ⟨B, b, σ, h, μ, st, q.bind.mono (fun x h1 μ1 H1 l g z => by
    by_cases hc : ∃ c, x = .bl c
    · obtain ⟨c, rfl⟩ := hc
      exact ⟨c, rfl, hQ c h1 μ1 H1 l (st.next l g) z⟩
    · rw [hf x h1 fun c e => hc ⟨c, e⟩] at z
      exact z.elim) fun _ _ _ _ _ _ _ z => z⟩
theorem seqA {β : Type} {m : Es} {f : List PV → Hs → R β} {k : KA β} (st : Stt X.K p es B b σ h μ s H) (q : Post X.K p.fa B μ H ((evEs p.C b m σ h).bind f) k (XW p W s)) {Q : List V → Hp → Prop}
    (hQ : ∀ x h1 μ1 H1 v, Le μ H μ1 H1 → Stt X.K p es B b σ h1 μ1 s H1 → RVs X.K p.fa es μ1 H1 x v → Post X.K p.fa B μ1 H1 (f x h1) k (XW p W s) → Q v H1) : RdA X p es W m s H Q :=
  ⟨B, b, σ, h, μ, st, q.bind.mono (fun x h1 μ1 H1 l g z v r => hQ x h1 μ1 H1 v l (st.next l g) r z) fun _ _ _ _ _ _ _ z => z⟩
theorem seqF {β : Type} {m : F} {f : List PV → Hs → R β} {k : KA β} (st : Stt X.K p es B b σ h μ s H) (q : Post X.K p.fa B μ H ((evF p.C b m σ h).bind f) k (XW p W s)) {Q : VK}
    (hQ : ∀ x h1 μ1 H1 a vs, Le μ H μ1 H1 → Stt X.K p es B b σ h1 μ1 s H1 → H a = none → H1 a = some (.lst vs) → (∀ n : Nat, μ1.l[n]? ≠ some (some a)) → ¬ μ1.F a → RVs X.K p.fa es μ1 H1 x vs → Post X.K p.fa B μ1 H1 (f x h1) k (XW p W s) → Q (.ref a) H1) : RdF X p es W m s H Q :=
  ⟨B, b, σ, h, μ, st, q.bind.mono (fun x h1 μ1 H1 l g z a vs n1 n2 n3 n4 r => hQ x h1 μ1 H1 a vs l (st.next l g) n1 n2 n3 n4 r z) fun _ _ _ _ _ _ _ z => z⟩
theorem seqO {β : Type} {m : Oe} {f : Option Int → Hs → R β} {k : KA β} (st : Stt X.K p es B b σ h μ s H) (q : Post X.K p.fa B μ H ((evO p.C b m σ h).bind f) k (XW p W s)) {Q : Option Int → Hp → Prop}
    (hQ : ∀ x h1 μ1 H1, Le μ H μ1 H1 → Stt X.K p es B b σ h1 μ1 s H1 → Post X.K p.fa B μ1 H1 (f x h1) k (XW p W s) → Q x H1) : RdO X p es W m s H Q :=
  ⟨B, b, σ, h, μ, st, q.bind.mono (fun x h1 μ1 H1 l g z => hQ x h1 μ1 H1 l (st.next l g) z) fun _ _ _ _ _ _ _ z => z⟩
theorem Post.here {α : Type} {a : α} {k : KA α} {x : KX} (q : Post X.K p.fa B μ H (.ok a h) k x) (g : HR X.K p.fa B h μ H) : k a h μ H := q μ H .refl g
/-- the heap has new objects that no place stands for -/
theorem Le.same {H' : Hp} (e : Same H H') : Le μ H μ H' := ⟨fun a o q => .inr (e a o q), fun a o q => ⟨o, e a o q⟩, fun _ _ q => .inl q, Nat.le_refl _, fun _ h => h, fun _ h => .inl h⟩
theorem MuOk.same {H' : Hp} (m : MuOk μ H) (e : Same H H') : MuOk μ H' := fun n a q => let ⟨⟨o, z, i⟩, f⟩ := m n a q; ⟨⟨o, e _ _ z, i⟩, f⟩
theorem HR.same {K : PySem.W.Frag} {fa : Nat → Addr} {H' : Hp} (g : HR K fa B h μ H) (e : Same H H') : HR K fa B h μ H' :=
  ⟨g.mu.same e, g.len, fun n o q nd => by
    obtain ⟨a, z, r⟩ := g.obj n o q nd
    refine ⟨a, z, ?_⟩
    cases o with
    | lst xs => obtain ⟨vs, h1, r⟩ := r; exact ⟨vs, e _ _ h1, r.mono (Le.same e) g.mu⟩
    | dic _ => obtain ⟨ks, h1, ek, r⟩ := r; exact ⟨ks, e _ _ h1, ek, r.mono (Le.same e) g.mu⟩
    | dit _ => obtain ⟨ks, h1, ek, r⟩ := r; exact ⟨ks, e _ _ h1, ek, r.mono (Le.same e) g.mu⟩
    | diu _ => obtain ⟨ks, h1, ek, r⟩ := r; exact ⟨ks, e _ _ h1, ek, r.mono (Le.same e) g.mu⟩
    | dead => exact r, g.inj, fun a q => let ⟨o, z⟩ := g.fd a q; ⟨o, e _ _ z⟩, g.lows⟩
theorem Stt.same {H' : Hp} (st : Stt X.K p es B b σ h μ s H) (e : Same H H') : Stt X.K p es B b σ h μ s H' := st.next (Le.same e) (st.hr.same e)
theorem same_new {a : Addr} {o : HO} (n : H a = none) : Same H (upd H a o) := fun b x e => by rw [upd_ne (ne_of_none e n)]; exact e
theorem HR.nofz {K : PySem.W.Frag} {fa : Nat → Addr} {a : Addr} (g : HR K fa B h μ H) (n : H a = none) : ¬ μ.F a := fun q => by
  obtain ⟨o, z⟩ := g.fd a q
  rw [n] at z; cases z
theorem MuOk.none {a : Addr} (m : MuOk μ H) (n : H a = none) : ∀ k : Nat, μ.l[k]? ≠ some (some a) := fun k q => by
  obtain ⟨⟨o, z, _⟩, _⟩ := m k a q
  rw [n] at z; cases z
/-- a new tuple, a new list that is never changed -/
theorem newTup {a : Addr} {ob : PySem.Obj} {xs : List PV} {vs : List V} (g : MuOk μ H) (n : H a = none) (d : ob.dict = none) (r : RVs X.K p.fa es μ H xs vs) : RV X.K p.fa es μ (upd H a (.frz ob (.tup vs))) (.tup xs) (.ref a) :=
  .tup (.inl ⟨ob, upd_same, d⟩) (r.mono (Le.same (same_new n)) g)
/-- a list is not changed from now on -/
def Mu.frz (μ : Mu) (a : Addr) : Mu := ⟨μ.l, fun x => μ.F x ∨ x = a⟩
theorem HR.frz {K : PySem.W.Frag} {fa : Nat → Addr} {a : Addr} {o : HO} (g : HR K fa B h μ H) (e : H a = some o) (nl : ∀ n : Nat, μ.l[n]? ≠ some (some a)) : HR K fa B h (μ.frz a) H := by
  refine ⟨fun n b q => ?_, g.len, fun n o' q nd => ?_, g.inj, fun b q => q.elim (g.fd b) fun q => ⟨o, q ▸ e⟩, g.lows⟩
  · obtain ⟨z, f⟩ := g.mu n b q
    exact ⟨z, fun h => h.elim f fun h => nl n (h ▸ q)⟩
  · obtain ⟨b, z, r⟩ := g.obj n o' q nd
    refine ⟨b, z, ?_⟩
    cases o' with
    | lst xs => obtain ⟨vs, h1, r⟩ := r; exact ⟨vs, h1, r.wide fun _ h => .inl h⟩
    | dic _ => obtain ⟨ks, h1, ek, r⟩ := r; exact ⟨ks, h1, ek, r.wide fun _ h => .inl h⟩
    | dit _ => obtain ⟨ks, h1, ek, r⟩ := r; exact ⟨ks, h1, ek, r.wide fun _ h => .inl h⟩
    | diu _ => obtain ⟨ks, h1, ek, r⟩ := r; exact ⟨ks, h1, ek, r.wide fun _ h => .inl h⟩
    | dead => exact r
end
end Mi
end

section
set_option Elab.async false
set_option linter.all false
set_option maxRecDepth 100000
set_option maxHeartbeats 4000000
/-! Snd3: values: data, ==, in, indices, operators -/
namespace Mi
open PySem PySem.Spec PyProof.Rows L2
section
variable {K : PySem.W.Frag} {fa : Nat → Addr} {es : List (Addr × Nat × Option Addr)} {μ : Mu} {H : Hp}
mutual
def PV.toD : PV → PyData
  | .non => .none
  | .bl b => .bool b
  | .int i => .int i
  | .str s => .str ⟨s.toArray⟩
  | .tup xs => .tuple (PV.toDs xs)
  | .lst xs => .list (PV.toDs xs)
  | _ => .none
def PV.toDs : List PV → List PyData
  | [] => []
  | x :: r => x.toD :: PV.toDs r
end
theorem str_of (z : Str) : (⟨z.cps.toList.toArray⟩ : Str) = z := by cases z; simp
mutual
theorem dp_of : ∀ {x : PV} {v : V} {k : Nat}, RV K fa es μ H x v → x.sh k = true → Dp K H v x.toD ∧ x.toD.canLay0 = true ∧ x.toD.depth ≤ k
  | _, _, k, .non, _ => ⟨.non, by simp [PV.toD, PyData.canLay0], by simp [PV.toD, PyData.depth]⟩
  | _, _, k, .bl b, _ => ⟨.bl b, by simp [PV.toD, PyData.canLay0], by simp [PV.toD, PyData.depth]⟩
  | _, _, k, .int i, _ => ⟨.int i, by simp [PV.toD, PyData.canLay0], by simp [PV.toD, PyData.depth]⟩
  | _, _, k, .str z, h => by
    have h' : z.cps.toList.all (fun c => decide (c < 1114112)) = true := by cases k <;> simpa [PV.sh] using h
    refine ⟨by unfold PV.toD; rw [str_of]; exact .str z, ?_, by simp [PV.toD, PyData.depth]⟩
    unfold PV.toD
    rw [str_of]
    simp only [PyData.canLay0, PyData.strOk]
    rw [← Array.all_toList]
    exact h'
  | _, _, 0, .tup s r, h => by simp [PV.sh] at h
  | _, _, 0, .lst s n r, h => by simp [PV.sh] at h
  | _, _, k + 1, .tup s r, h => by
    obtain ⟨a, b, c⟩ := dps_of r (k := k) (by simpa [PV.sh] using h)
    exact ⟨.tup s.t a, by simpa [PV.toD, PyData.canLay0] using b, by simp only [PV.toD, PyData.depth]; omega⟩
  | _, _, k + 1, .lst s n r, h => by
    obtain ⟨a, b, c⟩ := dps_of r (k := k) (by simpa [PV.sh] using h)
    exact ⟨.lst (.of s) a, by simpa [PV.toD, PyData.canLay0] using b, by simp only [PV.toD, PyData.depth]; omega⟩
  | _, _, 0, .ref _ _, h => by simp [PV.sh] at h
  | _, _, k + 1, .ref _ _, h => by simp [PV.sh] at h
  | _, _, 0, .fn _, h => by simp [PV.sh] at h
  | _, _, k + 1, .fn _, h => by simp [PV.sh] at h
  | _, _, 0, .exc _ _, h => by simp [PV.sh] at h
  | _, _, k + 1, .exc _ _, h => by simp [PV.sh] at h
  | _, _, 0, .scr _, h => by simp [PV.sh] at h
  | _, _, 0, .rng _, h => by simp [PV.sh] at h
  | _, _, k + 1, .scr _, h => by simp [PV.sh] at h
  | _, _, k + 1, .rng _, h => by simp [PV.sh] at h
  | _, _, 0, .exo _ _ _ _, h => by simp [PV.sh] at h
  | _, _, k + 1, .exo _ _ _ _, h => by simp [PV.sh] at h
  | _, _, 0, .dct _, h => by simp [PV.sh] at h
  | _, _, k + 1, .dct _, h => by simp [PV.sh] at h
theorem dps_of : ∀ {xs : List PV} {vs : List V} {k : Nat}, RVs K fa es μ H xs vs → PV.shs k xs = true → DpAll K H vs (PV.toDs xs) ∧ PyData.canLayAll0 (PV.toDs xs) = true ∧ PyData.depthAll (PV.toDs xs) ≤ k
  | _, _, k, .nil, _ => ⟨.nil, by simp [PV.toDs, PyData.canLayAll0], by simp [PV.toDs, PyData.depthAll]⟩
  | _, _, k, .cons r t, h => by
    have h := Bool.and_eq_true_iff.mp h
    obtain ⟨a, b, c⟩ := dp_of r h.1
    obtain ⟨a', b', c'⟩ := dps_of t h.2
    refine ⟨.cons a a', ?_, ?_⟩
    · simp only [PV.toDs, PyData.canLayAll0, b, b', Bool.and_self]
    · simp only [PV.toDs, PyData.depthAll]
      omega
end
theorem shaped_of {x : PV} {v : V} (r : RV K fa es μ H x v) {k : Nat} (hk : k ≤ 60) (h : x.sh k = true) : Dp K H v x.toD ∧ SeqAt.shaped x.toD = true := by
  obtain ⟨a, b, c⟩ := dp_of r h
  refine ⟨a, ?_⟩
  unfold SeqAt.shaped
  rw [b, Bool.true_and]
  exact decide_eq_true (by omega)
mutual
theorem eqB_toD : ∀ {x y : PV} {k l : Nat}, x.sh k = true → y.sh l = true → PyData.eqv x.toD y.toD = PV.eqB x y
  | .non, y, k, l, hx, hy => by cases y <;> simp_all [PV.toD, PyData.eqv, PV.eqB] <;> (cases l <;> simp [PV.sh] at hy)
  | .bl a, y, k, l, hx, hy => by cases y <;> simp_all [PV.toD, PyData.eqv, PV.eqB] <;> (cases l <;> simp [PV.sh] at hy)
  | .int a, y, k, l, hx, hy => by cases y <;> simp_all [PV.toD, PyData.eqv, PV.eqB] <;> (cases l <;> simp [PV.sh] at hy)
  | .str a, y, k, l, hx, hy => by
    cases y with
    | str b =>
      simp only [PV.toD, PyData.eqv, PV.eqB]
      by_cases e : a = b
      · subst e; simp
      · rw [decide_eq_false e]
        refine beq_eq_false_iff_ne.mpr fun z => e ?_
        have := congrArg (fun s : Str => s.cps.toList) z
        simpa using this
    | _ => simp_all [PV.toD, PyData.eqv, PV.eqB] <;> (cases l <;> simp [PV.sh] at hy)
  | .tup a, y, 0, l, hx, hy => by simp [PV.sh] at hx
  | .tup a, y, k + 1, l, hx, hy => by
    cases y with
    | tup b =>
      cases l with
      | zero => simp [PV.sh] at hy
      | succ l =>
        simp only [PV.toD, PyData.eqv, PV.eqB]
        exact eqBs_toD (k := k) (l := l) (by simpa [PV.sh] using hx) (by simpa [PV.sh] using hy)
    | _ => simp_all [PV.toD, PyData.eqv, PV.eqB] <;> (cases l <;> simp [PV.sh] at hy)
  | .lst a, y, 0, l, hx, hy => by simp [PV.sh] at hx
  | .lst a, y, k + 1, l, hx, hy => by
    cases y with
    | lst b =>
      cases l with
      | zero => simp [PV.sh] at hy
      | succ l =>
        simp only [PV.toD, PyData.eqv, PV.eqB]
        exact eqBs_toD (k := k) (l := l) (by simpa [PV.sh] using hx) (by simpa [PV.sh] using hy)
    | _ => simp_all [PV.toD, PyData.eqv, PV.eqB] <;> (cases l <;> simp [PV.sh] at hy)
  | .ref _, _, k, _, hx, _ => by cases k <;> simp [PV.sh] at hx
  | .fn _, _, k, _, hx, _ => by cases k <;> simp [PV.sh] at hx
  | .exc _ _, _, k, _, hx, _ => by cases k <;> simp [PV.sh] at hx
  | .scr _, _, k, _, hx, _ => by cases k <;> simp [PV.sh] at hx
  | .rng _ _, _, k, _, hx, _ => by cases k <;> simp [PV.sh] at hx
  | .exo _ _, _, k, _, hx, _ => by cases k <;> simp [PV.sh] at hx
  | .dct _, _, k, _, hx, _ => by cases k <;> simp [PV.sh] at hx
theorem eqBs_toD : ∀ {x y : List PV} {k l : Nat}, PV.shs k x = true → PV.shs l y = true → PyData.eqvAll (PV.toDs x) (PV.toDs y) = PV.eqBs x y
  | [], [], _, _, _, _ => by simp [PV.toDs, PyData.eqvAll, PV.eqBs]
  | [], _ :: _, _, _, _, _ => by simp [PV.toDs, PyData.eqvAll, PV.eqBs]
  | _ :: _, [], _, _, _, _ => by simp [PV.toDs, PyData.eqvAll, PV.eqBs]
  | x :: xs, y :: ys, k, l, hx, hy => by
    have hx := Bool.and_eq_true_iff.mp hx
    have hy := Bool.and_eq_true_iff.mp hy
    simp only [PV.toDs, PyData.eqvAll, PV.eqBs]
    rw [eqB_toD hx.1 hy.1, eqBs_toD hx.2 hy.2]
end
theorem any_toD {x : PV} {k l : Nat} (hx : x.sh k = true) : ∀ {xs : List PV}, PV.shs l xs = true → ((PV.toDs xs).any fun z => PyData.eqv z x.toD) = xs.any fun y => PV.eqB y x
  | [], _ => rfl
  | y :: ys, h => by
    have h := Bool.and_eq_true_iff.mp h
    simp only [PV.toDs, List.any_cons]
    rw [eqB_toD h.1 hx, any_toD hx h.2]
theorem flat_of {x : PV} {v : V} (r : RV K fa es μ H x v) (f : x.flat = true) : flatV v = true := by
  cases r <;> first | rfl | (simp [PV.flat] at f)
theorem flats_of : ∀ {xs : List PV} {vs : List V}, RVs K fa es μ H xs vs → xs.all PV.flat = true → vs.all flatV = true
  | _, _, .nil, _ => rfl
  | _, _, .cons r t, f => by
    simp only [List.all_cons, Bool.and_eq_true] at f ⊢
    exact ⟨flat_of r f.1, flats_of t f.2⟩
theorem eqV_of {x y : PV} {v w : V} (r : RV K fa es μ H x v) (q : RV K fa es μ H y w) (f : x.flat = true) (g : y.flat = true) : eqV v w = PV.eqB x y := by
  cases r with
  | non => cases q <;> first | rfl | (simp [PV.flat] at g)
  | bl b => cases q <;> first | rfl | (simp [PV.flat] at g)
  | int b => cases q <;> first | rfl | (simp [PV.flat] at g)
  | str z =>
    cases q with
    | str y =>
      show (z == y) = decide (z.cps.toList = y.cps.toList)
      by_cases e : z = y
      · subst e; simp
      · rw [beq_eq_false_iff_ne.mpr e]
        refine (decide_eq_false fun h => e ?_).symm
        rw [← str_of z, ← str_of y, h]
    | _ => first | rfl | (simp [PV.flat] at g)
  | _ => simp [PV.flat] at f
theorem inV_of {x : PV} {v : V} (r : RV K fa es μ H x v) (f : x.flat = true) : ∀ {xs : List PV} {vs : List V}, RVs K fa es μ H xs vs → xs.all PV.flat = true → inV v vs = xs.any fun y => PV.eqB y x
  | _, _, .nil, _ => rfl
  | _, _, .cons q t, g => by
    simp only [List.all_cons, Bool.and_eq_true] at g
    unfold inV
    rw [List.any_cons, List.any_cons, eqV_of q r g.1 f]
    exact congrArg _ (inV_of r f t g.2)
theorem ixN_eq (n : Nat) (i : Int) : Mi.ixN n i = L2.ixN n i := rfl
theorem ixN_lt {n : Nat} {i : Int} {j : Nat} (h : Mi.ixN n i = some j) : j < n := by
  unfold Mi.ixN at h
  split at h
  · split at h
    · cases h; omega
    · cases h
  · split at h
    · cases h; omega
    · cases h
theorem atI_of {xs : List PV} {vs : List V} {i : Int} {x : PV} (r : RVs K fa es μ H xs vs) (h : ((Mi.ixN xs.length i).bind fun j => xs[j]?) = some x) : ∃ v, atI vs i = some v ∧ RV K fa es μ H x v := by
  rw [ixN_eq, r.length] at h
  unfold atI
  cases q : L2.ixN vs.length i with
  | none => rw [q] at h; cases h
  | some j =>
    rw [q] at h
    exact r.get h
theorem sIx_eq (n d : Nat) (i : Int) : HT.sIx n d (some i) = Mi.sIx n i := by
  unfold HT.sIx Mi.sIx
  rfl
end
end Mi
end

section
set_option Elab.async false
set_option linter.all false
set_option maxRecDepth 100000
set_option maxHeartbeats 4000000
/-! Snd4: operators by values -/
namespace Mi
open PySem PySem.Spec PyProof.Rows L2
variable {X : Cx} {p : Pk} {es : List (Addr × Nat × Option Addr)}
/-- a two-place operator of the small language is served by a rule -/
structure VR (X : Cx) (p : Pk) (es : List (Addr × Nat × Option Addr)) (g : Hs → PV → PV → Option PV) (r : R2) : Prop where
  run : ∀ {B : Nat → Prop} {h : Hs} {μ : Mu} {H : Hp} {x y z : PV} {v w : V} {Q : VK}, HR X.K p.fa B h μ H → g h x y = some z → RV X.K p.fa es μ H x v → RV X.K p.fa es μ H y w →
    (∀ u H', Same H H' → RV X.K p.fa es μ H' z u → Q u H') → r v w H Q
theorem VR.or {g g' : Hs → PV → PV → Option PV} {r r' : R2} (a : VR X p es g r) (b : VR X p es g' r') : VR X p es (fun h x y => (g h x y).orElse fun _ => g' h x y) (fun x y H Q => r x y H Q ∨ r' x y H Q) := by
  refine ⟨fun {B h μ H x y z v w Q} hr e rx ry k => ?_⟩
  cases q : g h x y with
  | some z' =>
    have e : (g h x y).orElse (fun _ => g' h x y) = some z := e
    rw [q] at e
    cases e
    exact .inl (a.run hr q rx ry k)
  | none =>
    have e : (g h x y).orElse (fun _ => g' h x y) = some z := e
    rw [q] at e
    exact .inr (b.run hr e rx ry k)
theorem VR.imp {g g' : Hs → PV → PV → Option PV} {r : R2} (a : VR X p es g r) (i : ∀ h x y z, g' h x y = some z → g h x y = some z) : VR X p es g' r := by
  refine ⟨fun {B h μ H x y z v w Q} hr e rx ry k => ?_⟩
  exact a.run hr (i _ _ _ _ e) rx ry k
/-- on two ints -/
def gI (C : Int → Int → Bool) (f : Int → Int → PV) : Hs → PV → PV → Option PV := fun _ x y => match x, y with
  | .int a, .int b => if C a b then some (f a b) else none
  | _, _ => none
theorem vr_int {C : Int → Int → Bool} {D : Int → Int → Prop} {f : Int → Int → PV} {g : Int → Int → V} (hC : ∀ a b, C a b = true → D a b) (hf : ∀ a b μ H, RV X.K p.fa es μ H (f a b) (g a b)) : VR X p es (gI C f) (rI D g) := by
  refine ⟨fun {B h μ H x y z v w Q} hr e rx ry k => ?_⟩
  cases rx <;> cases ry <;> first | (simp [gI] at e; done) | skip
  rename_i a b
  simp only [gI] at e
  split at e
  · rename_i hc
    cases e
    exact ⟨a, b, rfl, rfl, hC a b hc, k _ _ (Same.refl H) (hf a b μ H)⟩
  · cases e
theorem vr_int0 {f : Int → Int → PV} {g : Int → Int → V} (hf : ∀ a b μ H, RV X.K p.fa es μ H (f a b) (g a b)) : VR X p es (gI (fun _ _ => true) f) (rI0 g) := by
  refine ⟨fun {B h μ H x y z v w Q} hr e rx ry k => ?_⟩
  obtain ⟨i, j, a, b, _, q⟩ := (vr_int (C := fun _ _ => true) (D := fun _ _ => True) (g := g) (fun _ _ _ => trivial) hf).run hr e rx ry k
  exact ⟨i, j, a, b, q⟩
def CMulB (i j : Int) : Prop := i.natAbs.log2 + j.natAbs.log2 < BITS
theorem CMulB.ok {i j : Int} (h : CMulB i j) : IntMulOk i j := by
  have b : ∀ x : Int, Builtin.Int.intBits x ≤ x.natAbs.log2 + 1 := fun x => by
    unfold Builtin.Int.intBits
    split <;> omega
  have h1 := b i
  have h2 := b j
  have h3 : i.natAbs.log2 + j.natAbs.log2 < 60000000 := h
  have e : bitsLine = 134217728 := by decide
  unfold IntMulOk
  intro z
  rw [Bool.and_eq_true] at z
  have z2 := z.2
  unfold Builtin.Int.intTooBig at z2
  have z3 := of_decide_eq_true z2
  rw [e] at z3
  omega
theorem op_mulB : OpR X (binaryOp .Mult) (rI CMulB fun i j => .int (i * j)) := opI fun _ _ _ _ _ _ _ hc q => mul_int q hc.ok
def CDivB (_ j : Int) : Prop := j ≠ 0 ∧ j.natAbs.log2 < 9000
theorem op_fdivB : OpR X (binaryOp .FloorDiv) (rI CDivB fun i j => .int (i.fdiv j)) := opI fun i j _ _ _ _ _ hc q => floordiv_int hc.1 q (.inl (PyProof.noPylong_of_log2 hc.2))
theorem line_le {n : Nat} (h : n ≤ LINE) : n ≤ sizeLine := by
  have e : sizeLine = 16777216 := by decide
  have e2 : LINE = 1000000 := rfl
  omega
theorem vr_addS : VR X p es (fun _ x y => match x, y with
    | .str a, .str b => if a.length + b.length ≤ LINE then some (.str (a ++ b)) else none
    | _, _ => none) (fun x y H Q => ∃ i j, x = .str i ∧ y = .str j ∧ i.length + j.length ≤ sizeLine ∧ Q (.str (i ++ j)) H) := by
  refine ⟨fun {B h μ H x y z v w Q} hr e rx ry k => ?_⟩
  cases rx <;> cases ry <;> first | (simp at e; done) | skip
  rename_i a b
  simp only [] at e
  split at e
  · rename_i hc
    cases e
    refine ⟨a, b, rfl, rfl, line_le (by simpa [Str.length] using hc), k _ _ (Same.refl H) ?_⟩
    have q : (a ++ b).cps.toList = a.cps.toList ++ b.cps.toList := by
      show (a.cps ++ b.cps).toList = _
      simp
    rw [← q]
    exact .str _
  · cases e
theorem vr_addT : VR X p es (fun _ x y => match x, y with
    | .tup a, .tup b => if a.length + b.length ≤ LINE then some (.tup (a ++ b)) else none
    | _, _ => none) (rCatB X.K) := by
  refine ⟨fun {B h μ H x y z v w Q} hr e rx ry k => ?_⟩
  cases rx <;> cases ry <;> first | (simp at e; done) | skip
  rename_i a1 vs1 xs1 s1 r1 a2 vs2 xs2 s2 r2
  simp only [] at e
  split at e
  · rename_i hc
    cases e
    refine ⟨a1, a2, vs1, vs2, rfl, rfl, s1.t, s2.t, line_le (by rw [← r1.length, ← r2.length]; exact hc), fun z => ?_, fun z1 z2 => ?_, fun q ob hq hd => ?_⟩
    · subst z
      cases r1
      exact k _ _ (Same.refl H) (.tup s2 r2)
    · subst z2
      cases r2
      rw [List.append_nil] at k
      exact k _ _ (Same.refl H) (.tup s1 r1)
    · exact k _ _ (same_new hq) (newTup hr.mu hq hd (r1.append r2))
  · cases e

theorem vr_repT : VR X p es (fun _ x y => match x, y with
    | .tup a, .int k => if a.isEmpty = false ∧ 2 ≤ k ∧ k ≤ 1000 ∧ a.length ≤ 1000 then some (.tup (List.replicate k.toNat a).flatten) else none
    | _, _ => none) (rRepB X.K) := by
  refine ⟨fun {B h μ H x y z v w Q} hr e rx ry k => ?_⟩
  cases rx <;> cases ry <;> first | (simp at e; done) | skip
  rename_i a1 vs1 xs1 s1 r1 i
  simp only [] at e
  split at e
  · rename_i hc
    obtain ⟨c1, c2, c3, c4⟩ := hc
    cases e
    refine ⟨a1, i, vs1, rfl, rfl, s1.t, fun z => ?_, c2, c3, by rw [← r1.length]; exact c4, fun q ob hq hd => ?_⟩
    · subst z
      cases r1
      cases c1
    · exact k _ _ (same_new hq) (newTup hr.mu hq hd (r1.rep i.toNat))
  · cases e
theorem vr_rep1 : VR X p es (fun _ x y => match x, y with
    | .tup a, .int k => if a.isEmpty = false ∧ k = 1 then some (.tup a) else none
    | _, _ => none) (rRep1 X.K) := by
  refine ⟨fun {B h μ H x y z v w Q} hr e rx ry k => ?_⟩
  cases rx <;> cases ry <;> first | (simp at e; done) | skip
  rename_i a1 vs1 xs1 s1 r1 i
  simp only [] at e
  split at e
  · rename_i hc
    obtain ⟨c1, c2⟩ := hc
    cases e
    subst c2
    refine ⟨a1, vs1, rfl, rfl, s1.t, fun z => ?_, k _ _ (Same.refl H) (.tup s1 r1)⟩
    subst z
    cases r1
    cases c1
  · cases e
theorem vr_notB : VR X p es (fun _ x y => match x, y with
    | .bl a, .bl b => some (.bl (!decide (a = b)))
    | _, _ => none) (fun x y H Q => ∃ a b, x = .bl a ∧ y = .bl b ∧ Q (.bl (!decide (a = b))) H) := by
  refine ⟨fun {B h μ H x y z v w Q} hr e rx ry k => ?_⟩
  cases rx <;> cases ry <;> first | (simp at e; done) | skip
  cases e
  exact ⟨_, _, rfl, rfl, k _ _ (Same.refl H) (.bl _)⟩
def ckOp : Op2 → Operator → Bool
  | .add, .Add => true
  | .sub, .Sub => true
  | .mul, .Mult => true
  | .fdiv, .FloorDiv => true
  | .mod, .Mod => true
  | .pow, .Pow => true
  | _, _ => false
/-- each operator has its rule -/
theorem op2_ok {o : Op2} {op : Operator} (h : ckOp o op = true) : ∃ r, OpR X (binaryOp op) r ∧ VR X p es (fun _ x y => evOp2 o x y) r := by
  cases o <;> cases op <;> first | (simp [ckOp] at h; done) | skip
  · refine ⟨_, op_add.or (op_add_str.or opCatB), ((vr_int0 (f := fun a b => .int (a + b)) (fun a b _ _ => .int _)).or (vr_addS.or vr_addT)).imp fun h x y z e => ?_⟩
    cases x <;> cases y <;> first | (simp [evOp2] at e; done) | (simpa [evOp2, gI] using e)
  · refine ⟨_, op_sub, (vr_int0 (f := fun a b => .int (a - b)) (fun a b _ _ => .int _)).imp fun h x y z e => ?_⟩
    cases x <;> cases y <;> first | (simp [evOp2] at e; done) | (simpa [evOp2, gI] using e)
  · refine ⟨_, op_mulB.or (opRepB.or opRep1), ((vr_int (C := fun a b => decide (a.natAbs.log2 + b.natAbs.log2 < BITS)) (f := fun a b => .int (a * b)) (fun a b e => of_decide_eq_true e) (fun a b _ _ => .int _)).or (vr_repT.or vr_rep1)).imp fun h x y z e => ?_⟩
    cases x <;> cases y <;> first | (simp [evOp2] at e; done) | (simpa [evOp2, gI] using e) | skip
    rename_i xs k
    simp only [evOp2] at e
    split at e
    · rename_i c
      simpa [gI, c] using e
    · rename_i c
      simp [gI]
      refine .inr ⟨fun a b d => Nat.lt_of_not_le fun h => c ⟨by simpa using a, b, d, h⟩, by simpa using e⟩
  · refine ⟨_, op_fdivB, (vr_int (C := fun a b => decide (b ≠ 0 ∧ b.natAbs.log2 < 9000)) (f := fun a b => .int (a.fdiv b)) (fun a b e => of_decide_eq_true e) (fun a b _ _ => .int _)).imp fun h x y z e => ?_⟩
    cases x <;> cases y <;> first | (simp [evOp2] at e; done) | (simpa [evOp2, gI] using e)
  · refine ⟨_, op_modN, (vr_int (C := fun a b => decide (b ≠ 0)) (f := fun a b => .int (a.fmod b)) (fun a b e => of_decide_eq_true e) (fun a b _ _ => .int _)).imp fun h x y z e => ?_⟩
    cases x <;> cases y <;> first | (simp [evOp2] at e; done) | (simpa [evOp2, gI] using e)
  · refine ⟨_, op_pow, (vr_int (C := fun a b => decide (0 ≤ b ∧ b ≤ 1000 ∧ a.natAbs < 2 ^ 64)) (f := fun a b => .int (a ^ b.toNat)) (fun a b e => ?_) (fun a b _ _ => .int _)).imp fun h x y z e => ?_⟩
    · have e := of_decide_eq_true e
      exact ⟨e.1, by omega, e.2.2⟩
    · cases x <;> cases y <;> first | (simp [evOp2] at e; done) | (simpa [evOp2, gI] using e)

/-! ### comparisons -/
theorem dv_of {K : PySem.W.Frag} {fa : Nat → Addr} {B : Nat → Prop} {h : Hs} {μ : Mu} {H : Hp} {es : List (Addr × Nat × Option Addr)} {x : PV} {v : V} (g : HR K fa B h μ H) (r : RV K fa es μ H x v) (hs : (dv h x).sh 12 = true) : Dp K H v (dv h x).toD ∧ SeqAt.shaped (dv h x).toD = true := by
  cases x with
  | ref n =>
    cases e : h[n]? with
    | none => simp [dv, e, PV.sh] at hs
    | some o =>
      cases o with
      | lst xs =>
        have ed : dv h (.ref n) = .lst xs := by simp only [dv, e]
        rw [ed] at hs ⊢
        cases r with
        | ref l m =>
          obtain ⟨a', q, o⟩ := g.obj n _ e (by intro z; cases z)
          cases m a' q
          obtain ⟨vs, eH, rs⟩ := o
          obtain ⟨d1, d2, d3⟩ := dps_of rs (k := 11) (by simpa [PV.sh] using hs)
          refine ⟨.lst (.of eH) d1, ?_⟩
          unfold SeqAt.shaped
          simp only [PV.toD, PyData.canLay0, PyData.depth, d2, Bool.true_and]
          exact decide_eq_true (by omega)
      | _ => simp [dv, e, PV.sh] at hs
  | _ => exact shaped_of r (k := 12) (by decide) hs
theorem eqB_dv {h : Hs} {x y : PV} (hc : (dv h x).sh 12 = true ∧ (dv h y).sh 12 = true) : PyData.eqv (dv h x).toD (dv h y).toD = PV.eqB (dv h x) (dv h y) := eqB_toD hc.1 hc.2
theorem vr_eq : VR X p es (fun h x y => if x.sh 12 && y.sh 12 then some (.bl (PV.eqB x y)) else (eqR h x y).map PV.bl) (rEqD X.K) := by
  refine ⟨fun {B h μ H x y z v w Q} hr e rx ry k => ?_⟩
  split at e
  · rename_i hc
    have hc := Bool.and_eq_true_iff.mp hc
    cases e
    obtain ⟨d1, s1⟩ := shaped_of rx (by decide) hc.1
    obtain ⟨d2, s2⟩ := shaped_of ry (by decide) hc.2
    refine ⟨_, _, d1, d2, s1, s2, ?_⟩
    rw [eqB_toD hc.1 hc.2]
    exact k _ _ (Same.refl H) (.bl _)
  · unfold eqR at e
    split at e
    · rename_i hc
      have hc := Bool.and_eq_true_iff.mp hc
      cases e
      obtain ⟨d1, s1⟩ := dv_of hr rx hc.1
      obtain ⟨d2, s2⟩ := dv_of hr ry hc.2
      refine ⟨_, _, d1, d2, s1, s2, ?_⟩
      rw [eqB_dv hc]
      exact k _ _ (Same.refl H) (.bl _)
    · cases e
theorem vr_ne : VR X p es (fun h x y => if x.sh 12 && y.sh 12 then some (.bl (!PV.eqB x y)) else ((eqR h x y).map (!·)).map PV.bl) (rNeD X.K) := by
  refine ⟨fun {B h μ H x y z v w Q} hr e rx ry k => ?_⟩
  split at e
  · rename_i hc
    have hc := Bool.and_eq_true_iff.mp hc
    cases e
    obtain ⟨d1, s1⟩ := shaped_of rx (by decide) hc.1
    obtain ⟨d2, s2⟩ := shaped_of ry (by decide) hc.2
    refine ⟨_, _, d1, d2, s1, s2, ?_⟩
    rw [eqB_toD hc.1 hc.2]
    exact k _ _ (Same.refl H) (.bl _)
  · unfold eqR at e
    split at e
    · rename_i hc
      have hc := Bool.and_eq_true_iff.mp hc
      cases e
      obtain ⟨d1, s1⟩ := dv_of hr rx hc.1
      obtain ⟨d2, s2⟩ := dv_of hr ry hc.2
      refine ⟨_, _, d1, d2, s1, s2, ?_⟩
      rw [eqB_dv hc]
      exact k _ _ (Same.refl H) (.bl _)
    · cases e
theorem vr_isN : VR X p es (fun _ x y => match y with
    | .non => some (.bl x.isNon)
    | _ => none) (fun x y H Q => y = .non ∧ Q (.bl (decide (x = .non))) H) := by
  refine ⟨fun {B h μ H x y z v w Q} hr e rx ry k => ?_⟩
  cases ry <;> first | (simp at e; done) | skip
  refine ⟨rfl, ?_⟩
  cases rx <;> (cases e; exact k _ _ (Same.refl H) (.bl _))
theorem vr_notN : VR X p es (fun _ x y => match y with
    | .non => some (.bl (!x.isNon))
    | _ => none) (fun x y H Q => y = .non ∧ Q (.bl (!decide (x = .non))) H) := by
  refine ⟨fun {B h μ H x y z v w Q} hr e rx ry k => ?_⟩
  cases ry <;> first | (simp at e; done) | skip
  refine ⟨rfl, ?_⟩
  cases rx <;> (cases e; exact k _ _ (Same.refl H) (.bl _))
def gMemT (neg : Bool) : Hs → PV → PV → Option PV := fun _ x y => match y with
  | .tup xs => (memT x xs).map fun b => .bl (if neg then !b else b)
  | _ => none
theorem vr_memT (neg : Bool) : VR X p es (gMemT neg) (rIn X.K neg) := by
  refine ⟨fun {B h μ H x y z v w Q} hr e rx ry k => ?_⟩
  cases ry <;> first | (simp [gMemT] at e; done) | skip
  rename_i a vs xs s r
  simp only [gMemT] at e
  cases q : memT x xs with
  | none => rw [q] at e; cases e
  | some c =>
    rw [q] at e
    cases e
    unfold memT at q
    split at q
    · rename_i hc
      have hc := Bool.and_eq_true_iff.mp hc
      cases q
      refine ⟨a, vs, rfl, .inr s.t, flat_of rx hc.1, flats_of r hc.2, ?_⟩
      rw [inV_of rx hc.1 r hc.2]
      exact k _ _ (Same.refl H) (.bl _)
    · cases q
def gMemL (neg : Bool) : Hs → PV → PV → Option PV := fun h x y => match y with
  | .lst xs => (memL x xs).map fun b => .bl (if neg then !b else b)
  | .ref n => match h[n]? with
    | some (.lst xs) => (memL x xs).map fun b => .bl (if neg then !b else b)
    | _ => none
  | _ => none
theorem HR.lst {K : PySem.W.Frag} {fa : Nat → Addr} {B : Nat → Prop} {h : Hs} {μ : Mu} {H : Hp} {n : Nat} {a : Addr} {xs : List PV} (g : HR K fa B h μ H) (r : RV K fa es μ H (.ref n) (.ref a)) (e : h[n]? = some (.lst xs)) :
    μ.l[n]? = some (some a) ∧ ∃ vs, H a = some (.lst vs) ∧ RVs K fa [] μ H xs vs := by
  obtain ⟨a', q, o⟩ := g.obj n _ e (by intro z; cases z)
  cases r with
  | ref l m => cases m a' q; exact ⟨q, o⟩
mutual
theorem RV.any {K : PySem.W.Frag} {fa : Nat → Addr} {μ : Mu} {H : Hp} {es : List (Addr × Nat × Option Addr)} : ∀ {x : PV} {v : V}, RV K fa [] μ H x v → RV K fa es μ H x v
  | _, _, .non => .non
  | _, _, .bl b => .bl b
  | _, _, .int i => .int i
  | _, _, .str z => .str z
  | _, _, .tup s r => .tup s (RVs.any r)
  | _, _, .lst s m r => .lst s m (RVs.any r)
  | _, _, .ref q e => .ref q e
  | _, _, .fn f => .fn f
  | _, _, .scr h => .scr h
  | _, _, .rng h => .rng h
  | _, _, .exo f s m x => .exo f s m x
  | _, _, .dct h => .dct h
theorem RVs.any {K : PySem.W.Frag} {fa : Nat → Addr} {μ : Mu} {H : Hp} {es : List (Addr × Nat × Option Addr)} : ∀ {x : List PV} {v : List V}, RVs K fa [] μ H x v → RVs K fa es μ H x v
  | _, _, .nil => .nil
  | _, _, .cons r t => .cons (RV.any r) (RVs.any t)
end
theorem memL_ok {B : Nat → Prop} {h : Hs} {μ : Mu} {H : Hp} {x : PV} {v : V} {a : Addr} {xs : List PV} {vs : List V} {b : Bool} (rx : RV X.K p.fa es μ H x v) (s : SqL X.K H a vs) (r : RVs X.K p.fa es μ H xs vs) (e : memL x xs = some b) :
    ∃ d ds, Dp X.K H v d ∧ Dp X.K H (.ref a) (.list ds) ∧ SeqAt.shaped d = true ∧ SeqAt.shaped (.list ds) = true ∧ (ds.any fun z => PyData.eqv z d) = b := by
  unfold memL at e
  split at e
  · rename_i hc
    have hc := Bool.and_eq_true_iff.mp hc
    cases e
    obtain ⟨d1, s1⟩ := shaped_of rx (by decide) hc.1
    obtain ⟨d2, c2, q2⟩ := dps_of r hc.2
    refine ⟨_, _, d1, .lst s d2, s1, ?_, any_toD hc.1 hc.2⟩
    unfold SeqAt.shaped
    simp only [PyData.canLay0, PyData.depth, c2, Bool.true_and]
    exact decide_eq_true (by omega)
  · cases e
theorem vr_memL : VR X p es (gMemL false) (rInD X.K) := by
  refine ⟨fun {B h μ H x y z v w Q} hr e rx ry k => ?_⟩
  have key : ∀ (a : Addr) (vs : List V) (xs : List PV), SqL X.K H a vs → RVs X.K p.fa es μ H xs vs → ((memL x xs).map fun b => PV.bl (if false then !b else b)) = some z → rInD X.K v (.ref a) H Q := fun a vs xs s r e => by
    cases q : memL x xs with
    | none => rw [q] at e; cases e
    | some b =>
      rw [q] at e
      cases e
      obtain ⟨d, ds, d1, d2, s1, s2, qq⟩ := memL_ok (B := B) (h := h) rx s r q
      refine ⟨d, ds, d1, d2, s1, s2, ?_⟩
      rw [qq]
      exact k _ _ (Same.refl H) (.bl _)
  cases ry <;> first | (simp [gMemL] at e; done) | skip
  · rename_i a vs xs s m r
    exact key a vs xs (.of s) r e
  · rename_i n a l m
    simp only [gMemL] at e
    split at e
    · rename_i xs q
      obtain ⟨_, vs, e1, r⟩ := hr.lst (.ref l m : RV X.K p.fa es μ H _ _) q
      exact key a vs xs (.of e1) r.any e
    · cases e
theorem vr_nmemL : VR X p es (gMemL true) (rNotInD X.K) := by
  refine ⟨fun {B h μ H x y z v w Q} hr e rx ry k => ?_⟩
  have key : ∀ (a : Addr) (vs : List V) (xs : List PV), SqL X.K H a vs → RVs X.K p.fa es μ H xs vs → ((memL x xs).map fun b => PV.bl (if true then !b else b)) = some z → rNotInD X.K v (.ref a) H Q := fun a vs xs s r e => by
    cases q : memL x xs with
    | none => rw [q] at e; cases e
    | some b =>
      rw [q] at e
      cases e
      obtain ⟨d, ds, d1, d2, s1, s2, qq⟩ := memL_ok (B := B) (h := h) rx s r q
      refine ⟨d, ds, d1, d2, s1, s2, ?_⟩
      rw [qq]
      exact k _ _ (Same.refl H) (.bl _)
  cases ry <;> first | (simp [gMemL] at e; done) | skip
  · rename_i a vs xs s m r
    exact key a vs xs (.of s) r e
  · rename_i n a l m
    simp only [gMemL] at e
    split at e
    · rename_i xs q
      obtain ⟨_, vs, e1, r⟩ := hr.lst (.ref l m : RV X.K p.fa es μ H _ _) q
      exact key a vs xs (.of e1) r.any e
    · cases e
def ckCmp : Cmp → CmpOp → Bool
  | .eq, .Eq => true
  | .ne, .NotEq => true
  | .lt, .Lt => true
  | .le, .LtE => true
  | .gt, .Gt => true
  | .ge, .GtE => true
  | .isN, .Is => true
  | .notN, .IsNot => true
  | .mem, .In => true
  | .nmem, .NotIn => true
  | _, _ => false
theorem cmp_ok {c : Cmp} {op : CmpOp} (hu : X.A.units + 65 < cLine) (h : ckCmp c op = true) : ∃ r, OpR X (compareOp op) r ∧ VR X p es (fun h x y => (evCmp h c x y).map PV.bl) r := by
  cases c <;> cases op <;> first | (simp [ckCmp] at h; done) | skip
  · refine ⟨_, op_eqD (by omega), vr_eq.imp fun h x y z e => ?_⟩
    simp only [evCmp] at e
    split at e
    · rename_i hc; rw [if_pos hc]; exact e
    · rename_i hc; rw [if_neg hc]; exact e
  · refine ⟨_, op_neD (by omega), vr_ne.imp fun h x y z e => ?_⟩
    simp only [evCmp] at e
    split at e
    · rename_i hc; rw [if_pos hc]; exact e
    · rename_i hc; rw [if_neg hc]; exact e
  · refine ⟨_, op_lt, (vr_int0 (f := fun a b => .bl (decide (a < b))) (fun a b _ _ => .bl _)).imp fun h x y z e => ?_⟩
    cases x <;> cases y <;> first | (simp [evCmp] at e; done) | (simpa [evCmp, gI] using e)
  · refine ⟨_, op_le, (vr_int0 (f := fun a b => .bl (decide (a ≤ b))) (fun a b _ _ => .bl _)).imp fun h x y z e => ?_⟩
    cases x <;> cases y <;> first | (simp [evCmp] at e; done) | (simpa [evCmp, gI] using e)
  · refine ⟨_, op_gt, (vr_int0 (f := fun a b => .bl (decide (b < a))) (fun a b _ _ => .bl _)).imp fun h x y z e => ?_⟩
    cases x <;> cases y <;> first | (simp [evCmp] at e; done) | (simpa [evCmp, gI] using e)
  · refine ⟨_, op_ge, (vr_int0 (f := fun a b => .bl (decide (b ≤ a))) (fun a b _ _ => .bl _)).imp fun h x y z e => ?_⟩
    cases x <;> cases y <;> first | (simp [evCmp] at e; done) | (simpa [evCmp, gI] using e)
  · refine ⟨_, op_isN, vr_isN.imp fun h x y z e => ?_⟩
    cases y <;> first | (simp [evCmp] at e; done) | (simpa [evCmp] using e)
  · refine ⟨_, op_notN.or op_isnot_bl, (vr_notN.or vr_notB).imp fun h x y z e => ?_⟩
    cases y with
    | non => simpa [evCmp] using e
    | bl b => cases x <;> first | (simp [evCmp] at e; done) | (simpa [evCmp] using e)
    | _ => simp [evCmp] at e
  · refine ⟨_, op_in_seq.or (op_inD hu), ((vr_memT false).or vr_memL).imp fun h x y z e => ?_⟩
    cases y with
    | tup xs => simpa [evCmp, gMemT, gMemL, Function.comp_def, Option.map_map] using e
    | lst xs => simpa [evCmp, gMemT, gMemL, Function.comp_def, Option.map_map] using e
    | ref n =>
      simp only [evCmp, gMemT, gMemL] at e ⊢
      cases q : h[n]? with
      | none => rw [q] at e; cases e
      | some o =>
        cases o with
        | lst xs => rw [q] at e; simpa using e
        | _ => rw [q] at e; cases e
    | _ => simp [evCmp] at e
  · refine ⟨_, op_notIn_seq.or (op_notInD hu), ((vr_memT true).or vr_nmemL).imp fun h x y z e => ?_⟩
    cases y with
    | tup xs => simpa [evCmp, gMemT, gMemL, Function.comp_def, Option.map_map] using e
    | lst xs => simpa [evCmp, gMemT, gMemL, Function.comp_def, Option.map_map] using e
    | ref n =>
      simp only [evCmp, gMemT, gMemL] at e ⊢
      cases q : h[n]? with
      | none => rw [q] at e; cases e
      | some o =>
        cases o with
        | lst xs => rw [q] at e; simpa [Function.comp_def] using e
        | _ => rw [q] at e; cases e
    | _ => simp [evCmp] at e

theorem RV.tupI {K : PySem.W.Frag} {fa : Nat → Addr} {μ : Mu} {H : Hp} {xs : List PV} {v : V} (r : RV K fa es μ H (.tup xs) v) : ∃ a vs, v = .ref a ∧ SqT K H a vs ∧ RVs K fa es μ H xs vs := by
  cases r with
  | tup s r => exact ⟨_, _, rfl, s.t, r⟩
theorem RV.tupB {K : PySem.W.Frag} {fa : Nat → Addr} {μ : Mu} {H : Hp} {xs : List PV} {v : V} (r : RV K fa es μ H (.tup xs) v) : ∃ a vs, v = .ref a ∧ SqB K H a vs ∧ RVs K fa es μ H xs vs := by
  cases r with
  | tup s r => exact ⟨_, _, rfl, s, r⟩
theorem RV.lstI {K : PySem.W.Frag} {fa : Nat → Addr} {μ : Mu} {H : Hp} {xs : List PV} {v : V} (r : RV K fa es μ H (.lst xs) v) : ∃ a vs, v = .ref a ∧ Rd H a (.lst vs) ∧ μ.F a ∧ RVs K fa es μ H xs vs := by
  cases r with
  | lst s m r => exact ⟨_, _, rfl, .inl s, m, r⟩
theorem RV.lstP {K : PySem.W.Frag} {fa : Nat → Addr} {μ : Mu} {H : Hp} {xs : List PV} {v : V} (r : RV K fa es μ H (.lst xs) v) : ∃ a vs, v = .ref a ∧ H a = some (.lst vs) ∧ RVs K fa es μ H xs vs := by
  cases r with
  | lst s m r => exact ⟨_, _, rfl, s, r⟩
theorem RV.refI {K : PySem.W.Frag} {fa : Nat → Addr} {μ : Mu} {H : Hp} {n : Nat} {v : V} (r : RV K fa es μ H (.ref n) v) : ∃ a, v = .ref a := by
  cases r with
  | ref _ _ => exact ⟨_, rfl⟩
theorem RV.intI {K : PySem.W.Frag} {fa : Nat → Addr} {μ : Mu} {H : Hp} {n : Int} {v : V} (r : RV K fa es μ H (.int n) v) : v = .int n := by
  cases r with
  | int _ => rfl
theorem RV.blI {K : PySem.W.Frag} {fa : Nat → Addr} {μ : Mu} {H : Hp} {n : Bool} {v : V} (r : RV K fa es μ H (.bl n) v) : v = .bl n := by
  cases r with
  | bl _ => rfl
theorem RV.strI {K : PySem.W.Frag} {fa : Nat → Addr} {μ : Mu} {H : Hp} {s : List Nat} {v : V} (r : RV K fa es μ H (.str s) v) : ∃ z : Str, v = .str z ∧ s = z.cps.toList := by
  cases r with
  | str z => exact ⟨z, rfl, rfl⟩
theorem RV.fnI {K : PySem.W.Frag} {fa : Nat → Addr} {μ : Mu} {H : Hp} {n : Nat} {v : V} (r : RV K fa es μ H (.fn n) v) : v = .ref (fa n) := by
  cases r with
  | fn _ => rfl

/-! ### indices -/
theorem vr_idx : VR X p es (fun h x y => evIdx h x y) (rIx X.K) := by
  refine ⟨fun {B h μ H x y z v w Q} hr e rx ry k => ?_⟩
  cases rx <;> first | (simp [evIdx] at e; done) | skip
  · rename_i zs
    cases ry <;> first | (simp [evIdx] at e; done) | skip
    rename_i i
    simp only [evIdx] at e
    split at e
    · rename_i hl
      cases q : Mi.ixN zs.cps.toList.length i with
      | none => rw [q] at e; cases e
      | some j =>
        rw [q] at e
        have e : (zs.cps.toList[j]?).map (fun c => PV.str [c]) = some z := e
        cases q2 : zs.cps.toList[j]? with
        | none => rw [q2] at e; cases e
        | some c =>
          rw [q2] at e
          cases e
          refine .inr (.inr ⟨zs, i, c, rfl, rfl, line_le (by simpa [Str.length] using hl), ?_, k _ _ (Same.refl H) (.str ⟨#[c]⟩)⟩)
          unfold atI
          rw [← ixN_eq, q]
          exact q2
    · cases e
  · rename_i a vs xs s r
    cases ry <;> first | (simp [evIdx] at e; done) | skip
    rename_i i
    obtain ⟨u, e1, ru⟩ := atI_of r e
    exact .inr (.inl ⟨a, vs, i, u, rfl, rfl, s.t, e1, k _ _ (Same.refl H) ru⟩)
  · rename_i a vs xs s m r
    cases ry <;> first | (simp [evIdx] at e; done) | skip
    rename_i i
    obtain ⟨u, e1, ru⟩ := atI_of r e
    exact .inl ⟨a, vs, i, u, rfl, rfl, .of s, e1, k _ _ (Same.refl H) ru⟩
  · rename_i n a l m
    simp only [evIdx] at e
    cases q : h[n]? with
    | none => rw [q] at e; cases e
    | some o =>
      rw [q] at e
      cases o with
      | lst xs =>
        obtain ⟨_, vs, e1, r⟩ := hr.lst (.ref l m : RV X.K p.fa es μ H _ _) q
        cases ry <;> first | (simp at e; done) | skip
        rename_i i
        obtain ⟨u, e2, ru⟩ := atI_of r e
        exact .inl ⟨a, vs, i, u, rfl, rfl, .of e1, e2, k _ _ (Same.refl H) ru.any⟩
      | _ => cases e
end Mi
end

section
set_option Elab.async false
set_option linter.all false
set_option maxRecDepth 100000
set_option maxHeartbeats 4000000
/-! Snd5: expressions, one rule a construct -/
namespace Mi
open PySem PySem.Spec PyProof.Rows L2
variable {X : Cx} {p : Pk} {cy : Cy} {es : List (Addr × Nat × Option Addr)} {W : WX}

/-! ### what is told of a name -/
def badName (x : Str) : Bool := x == ("__debug__" : Str) || x == ("__classdict__" : Str) || x == ("__name__" : Str)
def visB (cy : Cy) (x : Str) : Bool := !badName x && (match cy.sc.lookup x with
  | some .local => true
  | some .cell => true
  | some .free => true
  | _ => false)
def locB (cy : Cy) (x : Str) : Bool := !badName x && (match cy.sc.lookup x with
  | some .local => true
  | some .cell => !cy.cap.contains x
  | _ => false)
def globB (cy : Cy) (x : Str) : Bool := !badName x && (match cy.sc.lookup x with
  | some .globalImplicit => true
  | _ => false)
theorem badName_of {x : Str} {t : Bool} (h : (!badName x && t) = true) : (x == ("__debug__" : Str)) = false ∧ (x == ("__classdict__" : Str)) = false ∧ x ≠ ("__name__" : Str) ∧ t = true := by
  have h := Bool.and_eq_true_iff.mp h
  have h1 : badName x = false := by simpa using h.1
  unfold badName at h1
  simp only [Bool.or_eq_false_iff] at h1
  exact ⟨h1.1.1, h1.1.2, fun e => by rw [e] at h1; simp at h1, h.2⟩
theorem Good.vis (g : Good X p cy es W) {x : Str} (h : visB cy x = true) : Vis X.env.scope x := by
  obtain ⟨_, _, _, t⟩ := badName_of h
  unfold Vis
  rw [g.sc]
  split at t <;> first | (simp_all; done) | cases t
theorem Good.loc (g : Good X p cy es W) {x : Str} (h : locB cy x = true) : L2.Loc X.env.scope x := by
  obtain ⟨_, _, _, t⟩ := badName_of h
  unfold L2.Loc
  rw [g.sc]
  split at t <;> first | (simp_all; done) | cases t
theorem Good.locF (g : Good X p cy es W) {x : Str} (h : locB cy x = true) : X.fn x = true ∨ X.env.scope.names.lookup x = some .local := by
  rcases g.loc h with a | a
  · exact .inr a
  · rw [g.sc] at a
    obtain ⟨_, _, _, t⟩ := badName_of h
    rw [a] at t
    exact .inl (g.fn x a (by simpa using t))
theorem Good.glob (g : Good X p cy es W) {x : Str} (h : globB cy x = true) : Gl X x := by
  obtain ⟨_, _, _, t⟩ := badName_of h
  unfold Gl Env.kindOf
  rw [g.sc]
  split at t <;> first | assumption | cases t

/-! ### plain expressions -/
def plainE : Expr → Bool
  | .Starred _ _ => false
  | .Set _ _ _ => false
  | .Slice _ _ _ _ => false
  | .SetComp _ _ _ _ => false
  | .DictComp _ _ _ _ _ => false
  | _ => true
theorem plain_star {e : Expr} (h : plainE e = true) (es : List Expr) (env : Env) : starEach (e :: es) env = (false, eval e env) :: starEach es env := by
  cases e <;> first | rfl | (simp [plainE] at h)
theorem plain_mark {e : Expr} (h : plainE e = true) (op : CmpOp) : behindInMarks op e = false := by
  cases e <;> first | rfl | (simp [plainE] at h)
theorem plain_ix {e : Expr} (h : plainE e = true) : PlainIx e := by
  intro o i
  cases e <;> first | rfl | (simp [plainE] at h)
theorem plain_fold {e : Expr} (h : plainE e = true) (env : Env) (x : Value) : foldedSetIterable e env x = pure x := by
  cases e <;> first | rfl | (simp [plainE] at h)
def isLC : Expr → Bool
  | .ListComp _ _ _ _ => true
  | _ => false
theorem plain_swap {e : Expr} (h : plainE e = true) (h2 : isLC e = false) (t : Option Expr) (l : Nat) (env : Env) : swapsWith e t l env = pure false := by
  cases e <;> first | rfl | (simp [plainE] at h; done) | (simp [isLC] at h2)
theorem plain_any {pos : Pos} {env : Env} : ∀ {l : List Expr}, l.all plainE = true → (backTo pos (starEach l env)).any (·.1) = false
  | [], _ => rfl
  | e :: r, h => by
    simp only [List.all_cons, Bool.and_eq_true] at h
    rw [plain_star h.1]
    show (false || (backTo pos (starEach r env)).any (·.1)) = false
    rw [plain_any h.2]
    rfl
/-- as a test: its value is asked for its truth -/
def valE : Expr → Bool
  | .Call _ _ _ _ => true
  | .Name _ _ => true
  | .Constant _ _ _ => true
  | .Subscript _ _ _ => true
  | .Attribute _ _ _ => true
  | _ => false
theorem val_test {e : Expr} (h : valE e = true) (env : Env) (whole : Sem Value) : isTrue e env whole = (do let v ← whole; standAt e.pos; holding [v] (truthy v)) := by
  cases e <;> first | rfl | (simp [valE] at h)

section
variable {s : L2.St} {H : Hp}
theorem rd_test {m : E} {Q : Bool → Hp → Prop} (q : RdT X p es W m s H Q) : RdE X p es W m s H (fun v H' => ∃ c, v = .bl c ∧ Q c H') := by
  obtain ⟨B, b, σ, h, μ, st, q⟩ := q
  refine ⟨B, b, σ, h, μ, st, q.mono (fun x h1 μ1 H1 l g z v r => ?_) fun _ _ _ _ _ _ _ z => z⟩
  obtain ⟨c, rfl, z⟩ := z
  cases r
  exact ⟨c, rfl, z⟩
end
/-- a value is a test -/
theorem pt_of {e : Expr} {m : E} (h : PE X e (RdE X p es W m)) (v : valE e = true) : PT X e (RdT X p es W m) := (pt_val h fun w => val_test v _ w).imp fun s H Q q => rd_test q

theorem snd_var (g : Good X p cy es W) {i : Nat} {x : Str} {pos : Pos} (hN : cy.N[i]? = some x) (hv : visB cy x = true) : PE X (.Name x pos) (RdE X p es W (.var i)) := by
  obtain ⟨h1, h2, _, _⟩ := badName_of hv
  refine PE.imp (pe_var (by rw [g.N]; exact hN) (g.vis hv) h1 h2) fun s H Q ⟨B, b, σ, h, μ, st, q⟩ => ?_
  unfold evE at q
  obtain ⟨x, e, k⟩ := Post.of q
  cases e2 : σ[i]? with
  | none => rw [e2] at e; cases e
  | some o =>
    rw [e2] at e
    cases o with
    | none => cases e
    | some y =>
      cases e
      obtain ⟨v, ev, r⟩ := st.env.2 i _ e2
      exact ⟨v, ev, k μ H .refl st.hr v r⟩
theorem snd_const {e : Expr} {m : E} {x : PV} {v : V} (h : PE X e (tC v)) (hm : ∀ b σ h, evE p.C b m σ h = .ok x h) (r : ∀ μ H, RV X.K p.fa es μ H x v) : PE X e (RdE X p es W m) :=
  PE.imp h fun s H Q ⟨B, b, σ, h, μ, st, q⟩ => by
    rw [hm] at q
    exact Post.here q st.hr v (r μ H)
theorem snd_glob (g : Good X p cy es W) {i : Nat} {x : Str} {v : PV} {pos : Pos} (hc : cy.tb.cons[i]? = some (x, v)) (hg : globB cy x = true) : PE X (.Name x pos) (RdE X p es W (.glob i v)) := by
  obtain ⟨h1, h2, h3, _⟩ := badName_of hg
  obtain ⟨u, w, hm, r, rv⟩ := g.cons i x v hc
  exact snd_const (pe_glob (g.glob hg) hm r h1) (fun b σ h => by unfold evE; rfl) fun μ H => rv es μ H
theorem snd_gdx (g : Good X p cy es W) {i : Nat} {x : Str} {ks : List Str} {kvs : List (List Nat × PV)} {pos pos2 : Pos} {a : Expr} {l : E} (hc : cy.tb.dics[i]? = some (x, ks, kvs)) (hg : globB cy x = true) (pl : plainE a = true) (ha : PE X a (RdE X p es W l)) : PE X (.Subscript (.Name x pos) a pos2) (RdE X p es W (.gdx i kvs l)) := by
  obtain ⟨h1, h2, h3, _⟩ := badName_of hg
  obtain ⟨d, hm, kd⟩ := g.dics i x ks kvs hc
  refine (pe_ix ix_kdict (pe_glob (v := .ref d) (g.glob hg) hm rfl h1) ha (plain_ix pl)).imp fun s H Q ⟨B, b, σ, h, μ, st, q⟩ => ?_
  unfold evE at q
  refine seqE st q fun y h1 μ1 H1 v l1 st1 ry q1 => ?_
  cases y with
  | str s' =>
    cases ry with
    | str z =>
      obtain ⟨u, eu, k⟩ := Post.of (show Post X.K p.fa B μ1 H1 (R.of (kvs.lookup z.cps.toList) h1) _ _ from q1)
      obtain ⟨w, kw, rw'⟩ := kd z u eu
      exact ⟨d, z, w, rfl, rfl, kw, k μ1 H1 .refl st1.hr _ (rw' _ _ _)⟩
  | _ => exact q1.elim
section
variable {a b c : Expr} {pos : Pos} {l m n : E}
theorem imp_op2 {o : Op2} {op : Operator} {r : R2} (vr : VR X p es (fun _ x y => evOp2 o x y) r) : ∀ s H Q, RdE X p es W (.op2 o l m) s H Q → tOp r (RdE X p es W l) (RdE X p es W m) s H Q := fun s H Q ⟨B, b, σ, h, μ, st, q⟩ => by
  unfold evE at q
  refine seqE st q fun x h1 μ1 H1 v l1 st1 rx q1 => seqE st1 q1 fun y h2 μ2 H2 w l2 st2 ry q2 => ?_
  obtain ⟨z, e, k⟩ := Post.of q2
  exact vr.run st2.hr e (rx.mono l2 st1.hr.mu) ry fun u H3 sm ru => k μ2 H3 (Le.same sm) (st2.hr.same sm) u ru
theorem snd_op2 {o : Op2} {op : Operator} (ho : ckOp o op = true) (ha : PE X a (RdE X p es W l)) (hb : PE X b (RdE X p es W m)) : PE X (.BinOp a op b pos) (RdE X p es W (.op2 o l m)) := by
  obtain ⟨r, h1, vr⟩ := op2_ok (X := X) (p := p) (es := es) ho
  exact (pe_op h1 ha hb).imp (imp_op2 (op := op) vr)
theorem imp_cmp {o : Cmp} {r : R2} (vr : VR X p es (fun h x y => (evCmp h o x y).map PV.bl) r) : ∀ s H Q, RdE X p es W (.cmp o l m) s H Q → tOp r (RdE X p es W l) (RdE X p es W m) s H Q := fun s H Q ⟨B, b, σ, h, μ, st, q⟩ => by
  unfold evE at q
  refine seqE st q fun x h1 μ1 H1 v l1 st1 rx q1 => seqE st1 q1 fun y h2 μ2 H2 w l2 st2 ry q2 => ?_
  obtain ⟨z, e, k⟩ := Post.of q2
  exact vr.run st2.hr e (rx.mono l2 st1.hr.mu) ry fun u H3 sm ru => k μ2 H3 (Le.same sm) (st2.hr.same sm) u ru
theorem snd_cmp (g : Good X p cy es W) {o : Cmp} {op : CmpOp} (ho : ckCmp o op = true) (pb : plainE b = true) (ha : PE X a (RdE X p es W l)) (hb : PE X b (RdE X p es W m)) :
    PE X (.Compare a [op] [b] pos) (RdE X p es W (.cmp o l m)) ∧ PT X (.Compare a [op] [b] pos) (RdT X p es W (.cmp o l m)) := by
  obtain ⟨r, h1, vr⟩ := cmp_ok (X := X) (p := p) (es := es) g.un ho
  exact ⟨(pe_cmpR h1 ha hb (plain_mark pb op)).imp (imp_cmp vr), (pt_cmpR h1 ha hb (plain_mark pb op)).imp fun s H Q q => imp_cmp vr s H _ (rd_test q)⟩
theorem imp_chain {o o' : Cmp} {r r' : R2} (vr : VR X p es (fun h x y => (evCmp h o x y).map PV.bl) r) (vr' : VR X p es (fun h x y => (evCmp h o' x y).map PV.bl) r') :
    ∀ s H Q, RdE X p es W (.chain o o' l m n) s H Q → tChain r r' (RdE X p es W l) (RdE X p es W m) (RdE X p es W n) s H Q := fun s H Q ⟨B, b, σ, h, μ, st, q⟩ => by
  unfold evE at q
  refine seqE st q fun x h1 μ1 H1 v l1 st1 rx q1 => seqE st1 q1 fun y h2 μ2 H2 w l2 st2 ry q2 => ?_
  have q2 := q2.bind
  obtain ⟨c, e, k⟩ := Post.of q2
  refine vr.run (z := .bl c) st2.hr (by show (evCmp h2 o x y).map PV.bl = _; rw [e]; rfl) (rx.mono l2 st1.hr.mu) ry fun u H3 sm ru => ?_
  cases ru
  have st3 := st2.same sm
  have k := k μ2 H3 (Le.same sm) st3.hr
  refine ⟨c, rfl, ?_⟩
  cases c with
  | false => exact Post.here k st3.hr _ (.bl _)
  | true =>
    rw [if_pos rfl]
    refine seqE st3 k fun z h4 μ4 H4 zv l4 st4 rz q4 => ?_
    obtain ⟨d, e4, k4⟩ := Post.of q4
    exact vr'.run (z := d) st4.hr e4 ((ry.mono (Le.same sm) st2.hr.mu).mono l4 st3.hr.mu) rz fun u H5 sm5 ru => k4 μ4 H5 (Le.same sm5) (st4.hr.same sm5) u ru
theorem snd_chain (g : Good X p cy es W) {o o' : Cmp} {op op' : CmpOp} (ho : ckCmp o op = true) (ho' : ckCmp o' op' = true) (pb : plainE b = true) (pc : plainE c = true) (ha : PE X a (RdE X p es W l)) (hb : PE X b (RdE X p es W m)) (hc : PE X c (RdE X p es W n)) :
    PE X (.Compare a [op, op'] [b, c] pos) (RdE X p es W (.chain o o' l m n)) ∧ PT X (.Compare a [op, op'] [b, c] pos) (RdT X p es W (.chain o o' l m n)) := by
  obtain ⟨r, h1, vr⟩ := cmp_ok (X := X) (p := p) (es := es) g.un ho
  obtain ⟨r', h1', vr'⟩ := cmp_ok (X := X) (p := p) (es := es) g.un ho'
  have hm : lastMarks [op, op'] [b, c] = false := by
    show behindInMarks op' c = false
    exact plain_mark pc op'
  exact ⟨(pe_chain h1 h1' ha hb hc hm).imp (imp_chain vr vr'), (pt_chain h1 h1' ha hb hc hm).imp fun s H Q q => imp_chain vr vr' s H _ (rd_test q)⟩
theorem snd_neg (ha : PE X a (RdE X p es W l)) : PE X (.UnaryOp .USub a pos) (RdE X p es W (.neg l)) :=
  (pe_un un_neg ha).imp fun s H Q ⟨B, b, σ, h, μ, st, q⟩ => by
    unfold evE at q
    refine seqE st q fun x h1 μ1 H1 v l1 st1 rx q1 => ?_
    cases rx <;> first | exact q1.elim | skip
    rename_i i
    exact ⟨i, rfl, Post.here q1 st1.hr _ (.int _)⟩
theorem snd_not (ha : PE X a (RdE X p es W l)) : PE X (.UnaryOp .Not a pos) (RdE X p es W (.not_ l)) :=
  (pe_not ha).imp fun s H Q ⟨B, b, σ, h, μ, st, q⟩ => by
    unfold evE at q
    refine seqE st q fun x h1 μ1 H1 v l1 st1 rx q1 => ?_
    cases rx <;> first | exact q1.elim | skip
    rename_i i
    exact ⟨i, rfl, Post.here q1 st1.hr _ (.bl _)⟩
theorem snd_notT (ha : PT X a (RdT X p es W l)) : PT X (.UnaryOp .Not a pos) (RdT X p es W (.not_ l)) :=
  (pt_not ha).imp fun s H Q ⟨B, b, σ, h, μ, st, q⟩ => by
    unfold evE at q
    refine seqT st q (fun x h hx => ?_) fun c h1 μ1 H1 l1 st1 q1 => ?_
    · cases x <;> first | rfl | exact absurd rfl (hx _)
    · obtain ⟨c', e, q⟩ := Post.here q1 st1.hr
      cases e
      exact q
theorem snd_ite (hc : PT X c (RdT X p es W n)) (ha : PE X a (RdE X p es W l)) (hb : PE X b (RdE X p es W m)) : PE X (.IfExp c a b pos) (RdE X p es W (.ite n l m)) :=
  (pe_ifExp hc ha hb).imp fun s H Q ⟨B, b, σ, h, μ, st, q⟩ => by
    unfold evE at q
    refine seqT st q (fun x h hx => ?_) fun c h1 μ1 H1 l1 st1 q1 => ?_
    · cases x <;> first | rfl | exact absurd rfl (hx _)
    · cases c with
      | true => exact ⟨B, _, σ, h1, μ1, st1, q1⟩
      | false => exact ⟨B, _, σ, h1, μ1, st1, q1⟩
end
/-! ### and, or -/
def RdAnd (X : Cx) (p : Pk) (es : List (Addr × Nat × Option Addr)) (W : WX) (m : Es) : TE := fun s H Q => ∃ (B : Nat → Prop) (b : Nat) (σ : En) (h : Hs) (μ : Mu), Stt X.K p es B b σ h μ s H ∧
  Post X.K p.fa B μ H (evAnd p.C b m σ h) (KE' X p es Q) (XW p W s)
def RdOr (X : Cx) (p : Pk) (es : List (Addr × Nat × Option Addr)) (W : WX) (m : Es) : TE := fun s H Q => ∃ (B : Nat → Prop) (b : Nat) (σ : En) (h : Hs) (μ : Mu), Stt X.K p es B b σ h μ s H ∧
  Post X.K p.fa B μ H (evOr p.C b m σ h) (KE' X p es Q) (XW p W s)
def RdAndT (X : Cx) (p : Pk) (es : List (Addr × Nat × Option Addr)) (W : WX) (m : Es) : TT := fun s H Q => ∃ (B : Nat → Prop) (b : Nat) (σ : En) (h : Hs) (μ : Mu), Stt X.K p es B b σ h μ s H ∧
  Post X.K p.fa B μ H (evAnd p.C b m σ h) (fun x _ _ H' => ∃ c, x = .bl c ∧ Q c H') (XW p W s)
def RdOrT (X : Cx) (p : Pk) (es : List (Addr × Nat × Option Addr)) (W : WX) (m : Es) : TT := fun s H Q => ∃ (B : Nat → Prop) (b : Nat) (σ : En) (h : Hs) (μ : Mu), Stt X.K p es B b σ h μ s H ∧
  Post X.K p.fa B μ H (evOr p.C b m σ h) (fun x _ _ H' => ∃ c, x = .bl c ∧ Q c H') (XW p W s)
section
variable {a b : Expr} {r : List Expr} {pos : Pos} {l : E} {m : E} {ms : Es}
theorem snd_and1 (ha : PE X a (RdE X p es W l)) : PE X (.BoolOp .And [a] pos) (RdAnd X p es W (.cons l .nil)) :=
  (pe_one ha).imp fun s H Q ⟨B, b, σ, h, μ, st, q⟩ => by
    unfold evAnd at q
    refine ⟨B, b, σ, h, μ, st, q.bind.mono (fun x h1 μ1 H1 l g z v r => ?_) fun _ _ _ _ _ _ _ z => z⟩
    cases r <;> first | exact z.elim | skip
    rename_i c
    cases c <;> exact Post.here z g _ (.bl _)
theorem snd_or1 (ha : PE X a (RdE X p es W l)) : PE X (.BoolOp .Or [a] pos) (RdOr X p es W (.cons l .nil)) :=
  (pe_one ha).imp fun s H Q ⟨B, b, σ, h, μ, st, q⟩ => by
    unfold evOr at q
    refine ⟨B, b, σ, h, μ, st, q.bind.mono (fun x h1 μ1 H1 l g z v r => ?_) fun _ _ _ _ _ _ _ z => z⟩
    cases r <;> first | exact z.elim | skip
    rename_i c
    cases c <;> exact Post.here z g _ (.bl _)
theorem snd_and (ha : PE X a (RdE X p es W l)) (hb : PE X (.BoolOp .And (b :: r) pos) (RdAnd X p es W (.cons m ms))) : PE X (.BoolOp .And (a :: b :: r) pos) (RdAnd X p es W (.cons l (.cons m ms))) :=
  (pe_and ha hb).imp fun s H Q ⟨B, b, σ, h, μ, st, q⟩ => by
    unfold evAnd at q
    refine seqE st q fun x h1 μ1 H1 v l1 st1 rx q1 => ?_
    cases rx <;> first | exact q1.elim | skip
    rename_i c
    refine ⟨c, rfl, ?_⟩
    cases c with
    | true => exact ⟨B, _, σ, h1, μ1, st1, q1⟩
    | false => exact Post.here q1 st1.hr _ (.bl _)
theorem snd_or (ha : PE X a (RdE X p es W l)) (hb : PE X (.BoolOp .Or (b :: r) pos) (RdOr X p es W (.cons m ms))) : PE X (.BoolOp .Or (a :: b :: r) pos) (RdOr X p es W (.cons l (.cons m ms))) :=
  (pe_or ha hb).imp fun s H Q ⟨B, b, σ, h, μ, st, q⟩ => by
    unfold evOr at q
    refine seqE st q fun x h1 μ1 H1 v l1 st1 rx q1 => ?_
    cases rx <;> first | exact q1.elim | skip
    rename_i c
    refine ⟨c, rfl, ?_⟩
    cases c with
    | false => exact ⟨B, _, σ, h1, μ1, st1, q1⟩
    | true => exact Post.here q1 st1.hr _ (.bl _)
theorem _root_.L2.PW.imp {e : Expr} {t t' : TT} (h : PW X e t) (i : ∀ s H Q, t' s H Q → t s H Q) : PW X e t' := ⟨fun wh pins s σ H Q I q => h.run wh pins s σ H Q I (i _ _ _ q)⟩
theorem snd_and1T (ha : PT X a (RdT X p es W l)) : PW X (.BoolOp .And [a] pos) (RdAndT X p es W (.cons l .nil)) :=
  (pw_and1 ha).imp fun s H Q ⟨B, b, σ, h, μ, st, q⟩ => by
    unfold evAnd at q
    refine seqT st q (fun x h hx => ?_) fun c h1 μ1 H1 l1 st1 q1 => ?_
    · cases x <;> first | rfl | exact absurd rfl (hx _)
    · cases c <;> (obtain ⟨c', e, q⟩ := Post.here q1 st1.hr; cases e; exact q)
theorem snd_or1T (ha : PT X a (RdT X p es W l)) : PW X (.BoolOp .Or [a] pos) (RdOrT X p es W (.cons l .nil)) :=
  (pw_or1 ha).imp fun s H Q ⟨B, b, σ, h, μ, st, q⟩ => by
    unfold evOr at q
    refine seqT st q (fun x h hx => ?_) fun c h1 μ1 H1 l1 st1 q1 => ?_
    · cases x <;> first | rfl | exact absurd rfl (hx _)
    · cases c <;> (obtain ⟨c', e, q⟩ := Post.here q1 st1.hr; cases e; exact q)
theorem snd_andT (ha : PT X a (RdT X p es W l)) (hb : PW X (.BoolOp .And (b :: r) pos) (RdAndT X p es W (.cons m ms))) : PW X (.BoolOp .And (a :: b :: r) pos) (RdAndT X p es W (.cons l (.cons m ms))) :=
  (pw_and ha hb).imp fun s H Q ⟨B, b, σ, h, μ, st, q⟩ => by
    unfold evAnd at q
    refine seqT st q (fun x h hx => ?_) fun c h1 μ1 H1 l1 st1 q1 => ?_
    · cases x <;> first | rfl | exact absurd rfl (hx _)
    · cases c with
      | true => exact ⟨B, _, σ, h1, μ1, st1, q1⟩
      | false =>
        obtain ⟨c', e, q⟩ := Post.here q1 st1.hr
        cases e
        exact q
theorem snd_orT (ha : PT X a (RdT X p es W l)) (hb : PW X (.BoolOp .Or (b :: r) pos) (RdOrT X p es W (.cons m ms))) : PW X (.BoolOp .Or (a :: b :: r) pos) (RdOrT X p es W (.cons l (.cons m ms))) :=
  (pw_or ha hb).imp fun s H Q ⟨B, b, σ, h, μ, st, q⟩ => by
    unfold evOr at q
    refine seqT st q (fun x h hx => ?_) fun c h1 μ1 H1 l1 st1 q1 => ?_
    · cases x <;> first | rfl | exact absurd rfl (hx _)
    · cases c with
      | false => exact ⟨B, _, σ, h1, μ1, st1, q1⟩
      | true =>
        obtain ⟨c', e, q⟩ := Post.here q1 st1.hr
        cases e
        exact q
end
/-! ### argument lists, displays -/
theorem evEs_len {C : Calls} {b : Nat} {σ : En} : ∀ {m : Es} {h h' : Hs} {xs : List PV}, evEs C b m σ h = .ok xs h' → xs.length = m.len
  | .nil, _, _, _, e => by unfold evEs at e; cases e; rfl
  | .cons e' r, h, h', xs, e => by
    unfold evEs at e
    cases q : evE C b e' σ h with
    | bad => rw [q] at e; cases e
    | exc c fs h => rw [q] at e; cases e
    | ok x h1 =>
      rw [q] at e
      have e : (evEs C b r σ h1).bind (fun xs h => .ok (x :: xs) h) = .ok xs h' := e
      cases q2 : evEs C b r σ h1 with
      | bad => rw [q2] at e; cases e
      | exc c fs h => rw [q2] at e; cases e
      | ok ys h2 =>
        rw [q2] at e
        cases e
        show ys.length + 1 = r.len + 1
        rw [evEs_len q2]
section
variable {a : Expr} {r : List Expr} {pos : Pos} {l : E} {m : Es}
theorem snd_nil : PA X [] (RdA X p es W .nil) := pa_nil.imp fun s H Q ⟨B, b, σ, h, μ, st, q⟩ => by
  unfold evEs at q
  exact Post.here q st.hr _ .nil
theorem snd_cons (pl : plainE a = true) (ha : PE X a (RdE X p es W l)) (hr : PA X r (RdA X p es W m)) : PA X (a :: r) (RdA X p es W (.cons l m)) :=
  (pa_cons ha hr (plain_star pl _ _)).imp fun s H Q ⟨B, b, σ, h, μ, st, q⟩ => by
    unfold evEs at q
    refine seqE st q fun x h1 μ1 H1 v l1 st1 rx q1 => seqA st1 q1 fun xs h2 μ2 H2 vs l2 st2 rs q2 => ?_
    exact Post.here q2 st2.hr _ (.cons (rx.mono l2 st1.hr.mu) rs)
theorem RdA.len {s : L2.St} {H : Hp} {Q : List V → Hp → Prop} (q : RdA X p es W m s H Q) : RdA X p es W m s H (fun vs H' => vs.length = m.len ∧ Q vs H') := by
  obtain ⟨B, b, σ, h, μ, st, q⟩ := q
  refine ⟨B, b, σ, h, μ, st, ?_⟩
  cases e : evEs p.C b m σ h with
  | bad => rw [e] at q; exact q
  | exc c fs h' => rw [e] at q; exact q
  | ok xs h' =>
    rw [e] at q
    intro μ' H' l' g vs rv
    exact ⟨by rw [← rv.length]; exact evEs_len e, q μ' H' l' g vs rv⟩
theorem small_line {n : Nat} (h : n ≤ 1000) : n ≤ sizeLine := Nat.le_of_lt (small1000 h)
theorem snd_tup {k : Nat} (hl : m.len ≤ 1000) (ha : PA X r (RdA X p es W m)) : PE X (.Tuple r k pos) (RdE X p es W (.tup m)) :=
  (peTupB ha).imp fun s H Q ⟨B, b, σ, h, μ, st, q⟩ => by
    unfold evE at q
    refine RdA.mono' (RdA.len (seqA st q fun xs h1 μ1 H1 vs l1 st1 rs q1 => (show NewB H1 vs Q from fun pp ob hp hd =>
      q1 μ1 _ (Le.same (same_new hp)) (st1.hr.same (same_new hp)) _ (newTup st1.hr.mu hp hd rs)))) fun vs H1 ⟨z1, z2⟩ => ⟨by rw [z1]; exact small_line hl, z2⟩
where
  RdA.mono' {s : L2.St} {H : Hp} {Q Q' : List V → Hp → Prop} (q : RdA X p es W m s H Q) (i : ∀ vs H', Q vs H' → Q' vs H') : RdA X p es W m s H Q' := by
    obtain ⟨B, b, σ, h, μ, st, q⟩ := q
    exact ⟨B, b, σ, h, μ, st, q.mono (fun x h1 μ1 H1 l g z v r => i _ _ (z v r)) fun _ _ _ _ _ _ _ z => z⟩
theorem snd_disp (hl : m.len ≤ 1000) (ha : PA X r (RdA X p es W m)) : PE X (.List r pos) (RdF X p es W (.disp m)) :=
  (pe_lst ha).imp fun s H Q ⟨B, b, σ, h, μ, st, q⟩ => by
    unfold evF at q
    have key : RdA X p es W m s H (fun vs H1 => ∀ pp, H1 pp = none → Q (.ref pp) (upd H1 pp (.lst vs))) := by
      refine ⟨B, b, σ, h, μ, st, ?_⟩
      cases e : evEs p.C b m σ h with
      | bad => rw [e] at q; exact q
      | exc c fs h' => rw [e] at q; exact q
      | ok xs h' =>
        rw [e] at q
        intro μ1 H1 l1 g1 vs rs pp hp
        have hs : Same H1 (upd H1 pp (.lst vs)) := same_new hp
        refine q μ1 _ (l1.trans (Le.same hs)) (g1.same hs) pp vs ?_ upd_same (g1.mu.none hp) (g1.nofz hp) (rs.mono (Le.same hs) g1.mu)
        cases y : H pp with
        | none => rfl
        | some o =>
          obtain ⟨o', z⟩ := l1.dom pp o y
          rw [hp] at z; cases z
    have key := RdA.len key
    obtain ⟨B, b, σ, h, μ, st, q⟩ := key
    exact ⟨B, b, σ, h, μ, st, q.mono (fun x h1 μ1 H1 l g z v r => ⟨by rw [(z v r).1]; exact small_line hl, (z v r).2⟩) fun _ _ _ _ _ _ _ z => z⟩
end
/-- a new list that is kept as it is; one that may change; a tuple of it -/
theorem snd_lof {e : Expr} {f : F} (h : PE X e (RdF X p es W f)) : PE X e (RdE X p es W (.lof f)) :=
  h.imp fun s H Q ⟨B, b, σ, h, μ, st, q⟩ => by
    unfold evE at q
    obtain ⟨B, b, σ, h, μ, st, q⟩ : ∃ (B : Nat → Prop) (b : Nat) (σ : En) (h : Hs) (μ : Mu), Stt X.K p es B b σ h μ s H ∧ Post X.K p.fa B μ H ((evF p.C b f σ h).bind fun vs h => R.ok (.lst vs) h) (KE' X p es Q) (XW p W s) := ⟨B, b, σ, h, μ, st, q⟩
    refine ⟨B, b, σ, h, μ, st, ?_⟩
    cases e : evF p.C b f σ h with
    | bad => rw [e] at q; exact q
    | exc c fs h' => rw [e] at q; exact q
    | ok xs h' =>
      rw [e] at q
      intro μ1 H1 l1 g1 a vs n0 e1 nl nf rs
      have q : ∀ μ' H', Le μ H μ' H' → HR X.K p.fa B h' μ' H' → KE' X p es Q (.lst xs) h' μ' H' := q
      refine q (μ1.frz a) H1 ⟨l1.keep, l1.dom, l1.liv, l1.len, fun b z => .inl (l1.fz b z), fun b z => ?_⟩ (g1.frz e1 nl) _ (.lst e1 (.inr rfl) (rs.wide fun _ z => .inl z))
      rcases z with z | z
      · exact l1.nf b z
      · exact .inr (.inl (z ▸ n0))
def Mu.add (μ : Mu) (a : Addr) : Mu := ⟨μ.l ++ [some a], μ.F⟩
section
variable {K : PySem.W.Frag} {fa : Nat → Addr} {es : List (Addr × Nat × Option Addr)} {μ : Mu} {H : Hp} {a : Addr}
mutual
theorem RV.add : ∀ {x : PV} {v : V}, RV K fa es μ H x v → RV K fa es (μ.add a) H x v
  | _, _, .non => .non
  | _, _, .bl b => .bl b
  | _, _, .int i => .int i
  | _, _, .str z => .str z
  | _, _, .tup s r => .tup s (RVs.add r)
  | _, _, .lst s m r => .lst s m (RVs.add r)
  | _, _, .ref (n := n) q e => .ref (by show n < (μ.l ++ [some a]).length; rw [List.length_append]; omega) (fun a' z => e a' (by
      have z : (μ.l ++ [some a])[n]? = some (some a') := z
      rw [List.getElem?_append_left q] at z
      exact z))
  | _, _, .fn f => .fn f
  | _, _, .exc h x => .exc h x
  | _, _, .scr h => .scr h
  | _, _, .rng h => .rng h
  | _, _, .exo f s m x => .exo f s m x
  | _, _, .dct h => .dct h
theorem RVs.add : ∀ {x : List PV} {v : List V}, RVs K fa es μ H x v → RVs K fa es (μ.add a) H x v
  | _, _, .nil => .nil
  | _, _, .cons r t => .cons (RV.add r) (RVs.add t)
end
theorem HR.alloc {B : Nat → Prop} {b : Nat} {h : Hs} {xs : List PV} {vs : List V} (g : HR K fa B h μ H) (hb : ∀ c, B c → c ≤ b) (bl : b ≤ μ.l.length) (e : H a = some (.lst vs)) (nl : ∀ n : Nat, μ.l[n]? ≠ some (some a)) (nf : ¬ μ.F a) (r : RVs K fa [] μ H xs vs) :
    HR K fa B (h ++ [.lst xs]) (μ.add a) H := by
  have hlen := g.len
  have old : ∀ n : Nat, n < μ.l.length → (μ.add a).l[n]? = μ.l[n]? := fun n l => List.getElem?_append_left l
  have new : (μ.add a).l[μ.l.length]? = some (some a) := by simp [Mu.add]
  have cs : ∀ (n : Nat) c, (μ.add a).l[n]? = some (some c) → (n < μ.l.length ∧ μ.l[n]? = some (some c)) ∨ (n = μ.l.length ∧ c = a) := fun n c q => by
    by_cases z : n < μ.l.length
    · exact .inl ⟨z, old n z ▸ q⟩
    · by_cases z2 : n = μ.l.length
      · subst z2
        rw [new] at q
        cases q
        exact .inr ⟨rfl, rfl⟩
      · rw [List.getElem?_eq_none (by simp [Mu.add]; omega)] at q; cases q
  refine ⟨fun n c q => ?_, by simp [Mu.add, hlen], fun n o q nd => ?_, fun n m c q1 q2 => ?_, g.fd, fun c hc n o hn q => ?_⟩
  · rcases cs n c q with ⟨_, z⟩ | ⟨_, z⟩
    · exact g.mu n c z
    · subst z; exact ⟨⟨_, e, rfl⟩, nf⟩
  · by_cases z : n < h.length
    · rw [List.getElem?_append_left z] at q
      obtain ⟨c, q1, ro⟩ := g.obj n o q nd
      refine ⟨c, by rw [old n (by omega)]; exact q1, ?_⟩
      cases o with
      | lst ys => obtain ⟨ws, h1, r1⟩ := ro; exact ⟨ws, h1, r1.add⟩
      | dic _ => obtain ⟨ks, h1, ek, r1⟩ := ro; exact ⟨ks, h1, ek, r1.add⟩
      | dit _ => obtain ⟨ks, h1, ek, r1⟩ := ro; exact ⟨ks, h1, ek, r1.add⟩
      | diu _ => obtain ⟨ks, h1, ek, r1⟩ := ro; exact ⟨ks, h1, ek, r1.add⟩
      | dead => exact ro
    · by_cases z2 : n = h.length
      · subst z2
        have q : (h ++ [Obj.lst xs])[h.length]? = some o := q
        rw [List.getElem?_append_right (Nat.le_refl _)] at q
        simp at q
        subst q
        exact ⟨a, by rw [hlen]; exact new, vs, e, r.add⟩
      · rw [List.getElem?_eq_none (by simp; omega)] at q; cases q
  · rcases cs n c q1 with ⟨_, z⟩ | ⟨l, z⟩
    · rcases cs m c q2 with ⟨_, z'⟩ | ⟨_, z'⟩
      · exact g.inj n m c z z'
      · subst z'; exact absurd z (nl n)
    · rcases cs m c q2 with ⟨_, z'⟩ | ⟨l', z'⟩
      · subst z; exact absurd z' (nl m)
      · omega
  · have := hb c hc
    rw [List.getElem?_append_left (by omega)] at q
    exact g.lows c hc n o hn q
end
theorem snd_mof {e : Expr} {f : F} (he : es = []) (h : PE X e (RdF X p es W f)) : PE X e (RdE X p es W (.mof f)) := by
  subst he
  exact h.imp fun s H Q ⟨B, b, σ, h, μ, st, q⟩ => by
    unfold evE at q
    refine ⟨B, b, σ, h, μ, st, ?_⟩
    cases e : evF p.C b f σ h with
    | bad => rw [e] at q; exact q
    | exc c fs h' => rw [e] at q; exact q
    | ok xs h' =>
      rw [e] at q
      intro μ1 H1 l1 g1 a vs n0 e1 nl nf rs
      have q : ∀ μ' H', Le μ H μ' H' → HR X.K p.fa B (h' ++ [.lst xs]) μ' H' → KE' X p [] Q (.ref h'.length) (h' ++ [.lst xs]) μ' H' := q
      have g2 := g1.alloc st.bB (Nat.le_trans st.bl l1.len) e1 nl nf rs
      refine q (μ1.add a) H1 ⟨l1.keep, l1.dom, fun n c z => ?_, by simp [Mu.add]; exact Nat.le_succ_of_le l1.len, l1.fz, l1.nf⟩ g2 _ (.ref (by simp [Mu.add, g1.len]) fun a' z => ?_)
      · by_cases y : n < μ1.l.length
        · have z : (μ1.l ++ [some a])[n]? = some (some c) := z
          rw [List.getElem?_append_left y] at z
          exact l1.liv n c z
        · by_cases y2 : n = μ1.l.length
          · subst y2
            have z : (μ1.l ++ [some a])[μ1.l.length]? = some (some c) := z
            simp at z
            exact .inr ⟨l1.len, z ▸ n0⟩
          · rw [List.getElem?_eq_none (by simp [Mu.add]; omega)] at z; cases z
      · have z : (μ1.l ++ [some a])[h'.length]? = some (some a') := z
        rw [g1.len] at z
        simp at z
        exact z.symm
end Mi
end

section
set_option Elab.async false
set_option linter.all false
set_option maxRecDepth 100000
set_option maxHeartbeats 4000000
/-! Snd6: indices, slices, calls -/
namespace Mi
open PySem PySem.Spec PyProof.Rows L2
variable {X : Cx} {p : Pk} {cy : Cy} {es : List (Addr × Nat × Option Addr)} {W : WX}
section
variable {a b : Expr} {r : List Expr} {pos pos' : Pos} {l m : E} {ms : Es} {f : F}
theorem imp_idx : ∀ s H Q, RdE X p es W (.idx l m) s H Q → tOp (rIx X.K) (RdE X p es W l) (RdE X p es W m) s H Q := fun s H Q ⟨B, b, σ, h, μ, st, q⟩ => by
  unfold evE at q
  refine seqE st q fun x h1 μ1 H1 v l1 st1 rx q1 => seqE st1 q1 fun y h2 μ2 H2 w l2 st2 ry q2 => ?_
  obtain ⟨z, e, k⟩ := Post.of q2
  exact vr_idx.run st2.hr e (rx.mono l2 st1.hr.mu) ry fun u H3 sm ru => k μ2 H3 (Le.same sm) (st2.hr.same sm) u ru
theorem snd_idx (pb : plainE b = true) (ha : PE X a (RdE X p es W l)) (hb : PE X b (RdE X p es W m)) : PE X (.Subscript a b pos) (RdE X p es W (.idx l m)) := (pe_ix ix_seq ha hb (plain_ix pb)).imp imp_idx

/-! ### slices -/
theorem snd_no : PO X none (RdO X p es W .no) := ⟨fun pins s σ H Q I ⟨B, b, σ', h, μ, st, q⟩ => by
  unfold evO at q
  exact po_none.run pins s σ H Q I (Post.here q st.hr)⟩
theorem snd_so (h : PE X a (RdE X p es W l)) : PO X (some a) (RdO X p es W (.so l)) := ⟨fun pins s σ H Q I ⟨B, b, σ', h', μ, st, q⟩ => by
  unfold evO at q
  refine (po_some h).run pins s σ H Q I (seqE st q fun x h1 μ1 H1 v l1 st1 rx q1 => ?_)
  cases rx <;> first | exact q1.elim | skip
  rename_i i
  exact ⟨i, rfl, Post.here q1 st1.hr⟩⟩
theorem cutV_eq (vs : List V) (lo hi : Option Int) : cutV vs lo hi = Mi.cut vs lo hi := by
  unfold cutV Mi.cut
  cases lo <;> cases hi <;> rfl
theorem RVs.cut' {K : PySem.W.Frag} {fa : Nat → Addr} {μ : Mu} {H : Hp} {xs : List PV} {vs : List V} (r : RVs K fa es μ H xs vs) (lo hi : Option Int) : RVs K fa es μ H (Mi.cut xs lo hi) (Mi.cut vs lo hi) := by
  unfold Mi.cut
  rw [r.length]
  exact (r.drop _).take _
theorem cut_whole {α : Type} {xs : List α} {lo hi : Option Int} (h : HT.sIx xs.length 0 lo = 0 ∧ HT.sIx xs.length xs.length hi = xs.length) : Mi.cut xs lo hi = xs := by
  unfold Mi.cut
  cases lo <;> cases hi <;> (simp only [HT.sIx] at h ⊢; first | (simp; done) | skip)
  · rename_i i
    have h2 : Mi.sIx xs.length i = xs.length := h.2
    rw [h2]; simp
  · rename_i i
    have h1 : Mi.sIx xs.length i = 0 := h.1
    rw [h1]; simp
  · rename_i i j
    have h1 : Mi.sIx xs.length i = 0 := h.1
    have h2 : Mi.sIx xs.length j = xs.length := h.2
    rw [h1, h2]; simp
theorem snd_tsl {lo hi : Option Expr} {ol oh : Oe} (ha : PE X a (RdE X p es W l)) (h1 : PO X lo (RdO X p es W ol)) (h2 : PO X hi (RdO X p es W oh)) : PE X (.Subscript a (.Slice lo hi none pos') pos) (RdE X p es W (.tsl l ol oh)) :=
  (pe_slice slB ha h1 h2).imp fun s H Q ⟨B, b, σ, h, μ, st, q⟩ => by
    unfold evE at q
    refine seqE st q fun x h1 μ1 H1 v l1 st1 rx q1 => seqO st1 q1 fun lo h2 μ2 H2 l2 st2 q2 => seqO st2 q2 fun hi h3 μ3 H3 l3 st3 q3 => ?_
    have rx3 := (rx.mono l2 st1.hr.mu).mono l3 st2.hr.mu
    cases x with
    | tup xs =>
      obtain ⟨ad, vs, rfl, sq, r⟩ := rx3.tupB
      refine ⟨ad, vs, rfl, sq.t, fun z => ?_, fun pp ob hp hd => ?_⟩
      · have z' : HT.sIx xs.length 0 lo = 0 ∧ HT.sIx xs.length xs.length hi = xs.length := by rw [r.length]; exact z
        have q3 : Post X.K p.fa B μ3 H3 (.ok (.tup (Mi.cut xs lo hi)) h3) (KE' X p es Q) (XW p W s) := q3
        rw [cut_whole z'] at q3
        exact Post.here q3 st3.hr _ (.tup sq r)
      · have q3 : ∀ μ' H', Le μ3 H3 μ' H' → HR X.K p.fa B h3 μ' H' → KE' X p es Q (.tup (Mi.cut xs lo hi)) h3 μ' H' := q3
        refine q3 μ3 _ (Le.same (same_new hp)) (st3.hr.same (same_new hp)) _ (newTup st3.hr.mu hp hd ?_)
        rw [cutV_eq]
        exact r.cut' _ _
    | _ => first | exact q3.elim | skip
/-- the lists of a frozen or live place -/
theorem list_of {B : Nat → Prop} {h : Hs} {μ : Mu} {H : Hp} {x : PV} {v : V} {xs : List PV} (g : HR X.K p.fa B h μ H) (r : RV X.K p.fa es μ H x v) (nt : ∀ ys, x ≠ .tup ys) (e : items h x = some xs) : ∃ a vs, v = .ref a ∧ SqL X.K H a vs ∧ RVs X.K p.fa es μ H xs vs := by
  cases r <;> first | (cases e; done) | skip
  · exact absurd rfl (nt _)
  · rename_i a vs xs s m r
    cases e
    exact ⟨a, vs, rfl, .of s, r⟩
  · rename_i n a l m
    simp only [items] at e
    split at e
    · rename_i xs q
      cases e
      obtain ⟨_, vs, e1, r⟩ := g.lst (.ref l m : RV X.K p.fa es μ H _ _) q
      exact ⟨a, vs, rfl, .of e1, r.any⟩
    · cases e
theorem post_lst {B : Nat → Prop} {h : Hs} {μ0 μ : Mu} {H0 H : Hp} {xs : List PV} {vs : List V} {pp : Addr} {Q : VK} {x : KX} (l0 : Le μ0 H0 μ H) (g : HR X.K p.fa B h μ H) (hp : H pp = none) (r : RVs X.K p.fa es μ H xs vs)
    (q : Post X.K p.fa B μ H (.ok xs h) (KF X p es H0 Q) x) : Q (.ref pp) (upd H pp (.lst vs)) := by
  have q : ∀ μ' H', Le μ H μ' H' → HR X.K p.fa B h μ' H' → KF X p es H0 Q xs h μ' H' := q
  have sm : Same H (upd H pp (.lst vs)) := same_new hp
  exact q μ _ (Le.same sm) (g.same sm) pp vs (l0.none hp) upd_same (g.mu.none hp) (g.nofz hp) (r.mono (Le.same sm) g.mu)
theorem list_pl {B : Nat → Prop} {h : Hs} {μ : Mu} {H : Hp} {x : PV} {v : V} {xs : List PV} (g : HR X.K p.fa B h μ H) (r : RV X.K p.fa es μ H x v) (nt : ∀ ys, x ≠ .tup ys) (e : items h x = some xs) : ∃ a vs, v = .ref a ∧ H a = some (.lst vs) ∧ RVs X.K p.fa es μ H xs vs := by
  cases r <;> first | (cases e; done) | skip
  · exact absurd rfl (nt _)
  · rename_i a vs xs s m r
    cases e
    exact ⟨a, vs, rfl, s, r⟩
  · rename_i n a l m
    simp only [items] at e
    split at e
    · rename_i xs q
      cases e
      obtain ⟨_, vs, e1, r⟩ := g.lst (.ref l m : RV X.K p.fa es μ H _ _) q
      exact ⟨a, vs, rfl, e1, r.any⟩
    · cases e
theorem snd_cat {m : E} (ha : PE X a (RdE X p es W l)) (hb : PE X b (RdE X p es W m)) : PE X (.BinOp a .Add b pos) (RdF X p es W (.cat l m)) :=
  (pe_op op_cat ha hb).imp fun s H Q ⟨B, b, σ, h, μ, st, q⟩ => by
    unfold evF at q
    refine seqE st q fun x h1 μ1 H1 v l1 st1 rx q1 => seqE st1 q1 fun y h2 μ2 H2 w l2 st2 ry q2 => ?_
    have rx := rx.mono l2 st1.hr.mu
    have nt : ∀ ys, x ≠ .tup ys := fun ys e => by subst e; exact q2.elim
    have nt2 : ∀ ys, y ≠ .tup ys := fun ys e => by subst e; cases x <;> exact q2.elim
    have q2 : Post X.K p.fa B μ2 H2 (R.of ((items h2 x).bind fun xs => (items h2 y).bind fun ys => if xs.length + ys.length ≤ LINE then some (xs ++ ys) else none) h2) (KF X p es H Q) (XW p W s) := by
      cases x <;> first | exact absurd rfl (nt _) | (cases y <;> first | exact absurd rfl (nt2 _) | exact q2)
    cases e : items h2 x with
    | none => rw [e] at q2; exact q2.elim
    | some xs =>
      cases e2 : items h2 y with
      | none => rw [e, e2] at q2; exact q2.elim
      | some ys =>
        rw [e, e2] at q2
        have q2 : Post X.K p.fa B μ2 H2 (R.of (if xs.length + ys.length ≤ LINE then some (xs ++ ys) else none) h2) (KF X p es H Q) (XW p W s) := q2
        split at q2
        · rename_i hl
          obtain ⟨a1, vs, rfl, s1, r1⟩ := list_pl st2.hr rx nt e
          obtain ⟨a2, ws, rfl, s2, r2⟩ := list_pl st2.hr ry nt2 e2
          refine ⟨a1, a2, vs, ws, rfl, rfl, s1, s2, by rw [← r1.length, ← r2.length]; exact line_le hl, fun pp hp => ?_⟩
          exact post_lst (l1.trans l2) st2.hr hp (r1.append r2) q2
        · exact q2.elim
theorem snd_rep {m : E} (ha : PE X a (RdE X p es W l)) (hb : PE X b (RdE X p es W m)) : PE X (.BinOp a .Mult b pos) (RdF X p es W (.rep l m)) :=
  (pe_op op_rep ha hb).imp fun s H Q ⟨B, b, σ, h, μ, st, q⟩ => by
    unfold evF at q
    refine seqE st q fun x h1 μ1 H1 v l1 st1 rx q1 => seqE st1 q1 fun y h2 μ2 H2 w l2 st2 ry q2 => ?_
    have rx := rx.mono l2 st1.hr.mu
    cases x with
    | lst xs =>
      cases y with
      | int k =>
        cases ry.intI
        simp only [] at q2
        split at q2
        · rename_i hl
          obtain ⟨a1, vs, rfl, s1, r1⟩ := rx.lstP
          refine ⟨a1, k, vs, rfl, rfl, s1, by omega, by omega, by rw [← r1.length]; exact line_le hl.1, fun pp hp => ?_⟩
          exact post_lst (l1.trans l2) st2.hr hp (r1.rep k.toNat) q2
        · exact q2.elim
      | _ => exact q2.elim
    | _ => exact q2.elim
theorem snd_slice {lo hi : Option Expr} {ol oh : Oe} (ha : PE X a (RdE X p es W l)) (h1 : PO X lo (RdO X p es W ol)) (h2 : PO X hi (RdO X p es W oh)) : PE X (.Subscript a (.Slice lo hi none pos') pos) (RdF X p es W (.slice l ol oh)) :=
  (pe_slice sl_list ha h1 h2).imp fun s H Q ⟨B, b, σ, h, μ, st, q⟩ => by
    unfold evF at q
    refine seqE st q fun x h1 μ1 H1 v l1 st1 rx q1 => seqO st1 q1 fun lo h2 μ2 H2 l2 st2 q2 => seqO st2 q2 fun hi h3 μ3 H3 l3 st3 q3 => ?_
    have rx := (rx.mono l2 st1.hr.mu).mono l3 st2.hr.mu
    have nt : ∀ ys, x ≠ .tup ys := fun ys e => by subst e; exact q3.elim
    have q3 : Post X.K p.fa B μ3 H3 (R.of ((items h3 x).map fun xs => Mi.cut xs lo hi) h3) (KF X p es H Q) (XW p W s) := by
      cases x <;> first | exact q3 | exact absurd rfl (nt _)
    cases e : items h3 x with
    | none => rw [e] at q3; exact q3.elim
    | some xs =>
      rw [e] at q3
      obtain ⟨a, vs, rfl, sq, r⟩ := list_of st3.hr rx nt e
      refine ⟨a, vs, rfl, sq, fun pp hp => ?_⟩
      rw [cutV_eq]
      have l := (l1.trans l2).trans l3
      exact post_lst l st3.hr hp (r.cut' lo hi) q3
theorem snd_rev {k : Nat} {p1 p2 p3 : Pos} (ha : PE X a (RdE X p es W l)) : PE X (.Subscript a (.Slice none none (some (.UnaryOp .USub (.Constant (.int 1) k p1) p2)) p3) pos) (RdF X p es W (.rev l)) :=
  (pe_revL ha).imp fun s H Q ⟨B, b, σ, h, μ, st, q⟩ => by
    unfold evF at q
    refine seqE st q fun x h1 μ1 H1 v l1 st1 rx q1 => ?_
    have nt : ∀ ys, x ≠ .tup ys := fun ys e => by subst e; exact q1.elim
    have q1 : Post X.K p.fa B μ1 H1 (R.of ((items h1 x).map fun xs => xs.reverse) h1) (KF X p es H Q) (XW p W s) := by
      cases x <;> first | exact q1 | exact absurd rfl (nt _)
    cases e : items h1 x with
    | none => rw [e] at q1; exact q1.elim
    | some xs =>
      rw [e] at q1
      obtain ⟨a, vs, rfl, sq, r⟩ := list_of st1.hr rx nt e
      exact ⟨a, vs, rfl, sq, fun pp hp => post_lst l1 st1.hr hp r.reverse q1⟩

/-! ### calls of defs -/
theorem Good.call (g : Good X p cy es W) (hc : cy.calm = true) {n : Nat} {s : L2.St} {H : Hp} {Q : VK} {B : Nat → Prop} {b : Nat} {σ : En} {h : Hs} {μ : Mu} {xs : List PV} {vs : List V} {k : Nat} (st : Stt X.K p es B b σ h μ s H)
    (hk : vs.length = k) (r : RVs X.K p.fa es μ H xs vs) (q : Post X.K p.fa B μ H (p.C n xs h b) (KE' X p es Q) (XW p W s)) : spC X.K p.fa p.ca p.cls p.C n k vs H Q (WE W s) := by
  have he := (g.calm hc).2
  subst he
  exact ⟨hk, B, b, xs, h, μ, st.bB, st.bl, st.hr, r, q.mono (fun a h' μ' H' l g z v rv => z v rv) fun c fs h' μ' H' l g z => z⟩
theorem imp_call (g : Good X p cy es W) (hc : cy.calm = true) {n k : Nat} (hk : ms.len = k) : ∀ s H Q, RdE X p es W (.call n ms) s H Q → tCallSD (spC X.K p.fa p.ca p.cls p.C n k) [] (WE W) (RdA X p es W ms) s H Q := fun s H Q ⟨B, b, σ, h, μ, st, q⟩ => by
  unfold evE at q
  have q1 := RdA.len (m := ms) (s := s) (H := H) (Q := fun vs H1 => vs.length = k → spC X.K p.fa p.ca p.cls p.C n k vs H1 Q (WE W s)) (seqA st q fun xs h1 μ1 H1 vs l1 st1 rs q1 hv => g.call hc st1 hv rs q1)
  obtain ⟨B, b, σ, h, μ, st, q⟩ := q1
  refine ⟨B, b, σ, h, μ, st, q.mono (fun x h1 μ1 H1 l g z v r => ?_) fun _ _ _ _ _ _ _ z => z⟩
  obtain ⟨z1, z2⟩ := z v r
  show spC X.K p.fa p.ca p.cls p.C n k (v ++ []) H1 Q (WE W s)
  rw [List.append_nil]
  exact z2 (z1.trans hk)
theorem snd_call (g : Good X p cy es W) (hc : cy.calm = true) {n k : Nat} {x : Str} {pp : Pos} (hf : cy.tb.fns.lookup n = some (x, k)) (hx : globB cy x = true) (pl : (a :: r).all plainE = true) (hk : ms.len = k) (ha : PA X (a :: r) (RdA X p es W ms)) :
    PE X (.Call (.Name x pp) (a :: r) [] pos) (RdE X p es W (.call n ms)) := by
  obtain ⟨h1, h2, h3, _⟩ := badName_of hx
  obtain ⟨fd, ps, hl, hm, hkp, hb, F⟩ := g.fns n x k hf
  have pl' := pl
  simp only [List.all_cons, Bool.and_eq_true] at pl'
  exact (pe_callSD (E := WE W) F (g.room hc) (g.glob hx) hm hkp hb .nil (fun σ => passAt g.tk σ) ha h1 (plain_star pl'.1 _ _) (plain_any pl'.2)).imp (imp_call g hc hk)
/-- f(..) where a slot holds the def -/
def tCallLS (i : Nat) (f : Addr) (sp : Sp) (E : L2.St → XK) (t : TA) : TE := fun σ H Q => σ[i]? = some (some (.ref f)) ∧ t σ H fun vs H1 => sp (vs ++ []) H1 Q (E σ)
theorem pe_callLS {CX : CXT} {k i : Nat} {f : Addr} {fd : FuncData} {ps : List Str} {sp : Sp} {E : L2.St → XK} {x : Str} {pp pos : Pos} {e : Expr} {es : List Expr} {t : TA} (F : FnOk X.prog X.w X.K X.mg X.base CX k f fd ps sp) (hr : Room k X.A) (hN : X.N[i]? = some x) (hv : Vis X.env.scope x) (hk : PySem.W.keepIn X.K (.ref f) = true) (hb : Binds X.K fd ps []) (hx : ∀ σ, PassesAt CX X σ (E σ)) (ha : PA X (e :: es) t)
    (hdb : (x == ("__debug__" : Str)) = false) (hcd : (x == ("__classdict__" : Str)) = false)
    (he : starEach (e :: es) X.env = (false, eval e X.env) :: starEach es X.env) (hpl : (backTo pos (starEach es X.env)).any (·.1) = false) : PE X (.Call (.Name x pp) (e :: es) [] pos) (tCallLS i f sp E t) := by
  refine ⟨fun pins s σ H Q I h => ?_⟩
  obtain ⟨hs, ht⟩ := h
  refine wpAny_Call_Name_kw (thn ((pe_var (pos := pp) hN hv hdb hcd).run pins s σ H (fun v H1 => v = .ref f ∧ H1 = H) I ⟨.ref f, hs, rfl, rfl⟩) fun u s1 ⟨v, H1, I1, r1, q1⟩ => ?_)
  obtain ⟨rfl, rfl⟩ := q1
  cases r1
  refine PySem.W.callWith_K (h₀ := X.base) I.ok.mod.kin hk (thn (ha.run pos pins s1 σ _ _ I1 ht) fun us s2 ⟨vs, H2, I2, r, q⟩ => ⟨I2.kIn, ?_⟩) he hpl
  exact run_fnSD F hr hb .nil (hx σ) I2 r q
theorem snd_callv (g : Good X p cy es W) (hc : cy.calm = true) {i : Nat} {x : Str} {pp : Pos} {ns : List Nat} (hN : cy.N[i]? = some x) (hv : visB cy x = true) (hfn : ∀ n, ns.contains n = true → ∃ x, cy.tb.fns.lookup n = some (x, ms.len)) (pl : (a :: r).all plainE = true) (ha : PA X (a :: r) (RdA X p es W ms)) :
    PE X (.Call (.Name x pp) (a :: r) [] pos) (RdE X p es W (.callv ns i ms)) := by
  obtain ⟨h1, h2, _, _⟩ := badName_of hv
  have pl' := pl
  simp only [List.all_cons, Bool.and_eq_true] at pl'
  refine ⟨fun pins s σs H Q I ⟨B, b, σ, h, μ, st, q⟩ => ?_⟩
  unfold evE at q
  split at q
  · rename_i f e
    split at q
    · rename_i hm
      obtain ⟨y, hy⟩ := hfn f hm
      obtain ⟨fd, ps, hl, _, hkp, hb, F⟩ := g.fns f y _ hy
      have e2 : σ[i]? = some (some (.fn f)) := by
        cases z : σ[i]? with
        | none => rw [z] at e; cases e
        | some o => rw [z] at e; cases o <;> cases e; rfl
      obtain ⟨v, ev, rv⟩ := st.env.2 i _ e2
      cases rv.fnI
      refine (pe_callLS (E := WE W) F (g.room hc) (by rw [g.N]; exact hN) (g.vis hv) hkp hb (fun σ => passAt g.tk σ) ha h1 h2 (plain_star pl'.1 _ _) (plain_any pl'.2)).run pins s σs H Q I ⟨ev, ?_⟩
      exact imp_call (n := f) g hc rfl σs H Q ⟨B, b, σ, h, μ, st, by unfold evE; exact q⟩
    · exact q.elim
  · exact q.elim
end
end Mi
end

section
set_option Elab.async false
set_option linter.all false
set_option maxRecDepth 100000
set_option maxHeartbeats 4000000
/-! Snd7: built-in functions -/
namespace Mi
open PySem PySem.Spec PyProof.Rows L2
variable {X : Cx} {p : Pk} {cy : Cy} {es : List (Addr × Nat × Option Addr)} {W : WX}
section
variable {a b c : Expr} {r : List Expr} {pos pos' pp : Pos} {l m : E} {ms : Es} {f : F}
/-- one argument -/
def tOne (t : TE) : TA := tCons t tNil
theorem pa_one (pl : plainE a = true) {t : TE} (h : PE X a t) : PA X [a] (tOne t) := pa_cons h pa_nil (plain_star pl _ _)
def tTwo (t u : TE) : TA := tCons t (tCons u tNil)
theorem pa_two (pa : plainE a = true) (pb : plainE b = true) {t u : TE} (h : PE X a t) (h' : PE X b u) : PA X [a, b] (tTwo t u) := pa_cons h (pa_cons h' pa_nil (plain_star pb _ _)) (plain_star pa _ _)
/-- a rule of one value -/
structure V1 (X : Cx) (p : Pk) (es : List (Addr × Nat × Option Addr)) (g : Hs → PV → Option PV) (r : List V → Hp → VK → Prop) : Prop where
  run : ∀ {B : Nat → Prop} {h : Hs} {μ : Mu} {H : Hp} {x z : PV} {v : V} {Q : VK}, HR X.K p.fa B h μ H → g h x = some z → RV X.K p.fa es μ H x v →
    (∀ u H', Same H H' → RV X.K p.fa es μ H' z u → Q u H') → r [v] H Q
theorem imp_b1 {o : B1} {r : List V → Hp → VK → Prop} (vr : V1 X p es (fun h x => evB1 h o x) r) : ∀ s H Q, RdE X p es W (.b1 o l) s H Q → tCB r (tOne (RdE X p es W l)) s H Q := fun s H Q ⟨B, b, σ, h, μ, st, q⟩ => by
  unfold evE at q
  refine seqE st q fun x h1 μ1 H1 v l1 st1 rx q1 => ?_
  obtain ⟨z, e, k⟩ := Post.of q1
  exact vr.run st1.hr e rx fun u H3 sm ru => k μ1 H3 (Le.same sm) (st1.hr.same sm) u ru
theorem CallR.or {f : Value} {r r' : List V → Hp → VK → Prop} (h : CallR X f r) (h' : CallR X f r') : CallR X f (fun xs H Q => r xs H Q ∨ r' xs H Q) := by
  intro pins s σ H xs us Q I rs q
  rcases q with q | q
  · exact h pins s σ H xs us Q I rs q
  · exact h' pins s σ H xs us Q I rs q
theorem len_dic {B : Nat → Prop} {h : Hs} {μ : Mu} {H : Hp} (g : HR X.K p.fa B h μ H) {n : Nat} {z : PV} (e : evB1 h .len (.ref n) = some z) : ∃ xs, h[n]? = some (.lst xs) ∧ z = .int xs.length := by
  simp only [evB1] at e
  split at e
  · rename_i xs q
    cases e
    exact ⟨xs, q, rfl⟩
  · cases e
theorem v_len : V1 X p es (fun h x => evB1 h .len x) (fun xs H Q => (∃ p ys, xs = [.ref p] ∧ (SqL X.K H p ys ∨ SqT X.K H p ys) ∧ Q (.int ys.length) H) ∨ (∃ z, xs = [.str z] ∧ z.length ≤ sizeLine ∧ Q (.int z.length) H)) := by
  refine ⟨fun {B h μ H x z v Q} g e rx k => ?_⟩
  cases x with
  | str s =>
    obtain ⟨y, rfl, rfl⟩ := rx.strI
    simp only [evB1] at e
    split at e
    · rename_i hl
      cases e
      refine .inr ⟨y, rfl, line_le (by simpa [Str.length] using hl), ?_⟩
      exact k _ _ (Same.refl H) (by
        have : (y.length : Int) = (y.cps.toList.length : Int) := by simp [Str.length]
        rw [this]
        exact .int _)
    · cases e
  | tup xs =>
    obtain ⟨a, vs, rfl, s, r⟩ := rx.tupI
    cases e
    refine .inl ⟨a, vs, rfl, .inr s, ?_⟩
    rw [← r.length]
    exact k _ _ (Same.refl H) (.int _)
  | lst xs =>
    obtain ⟨a, vs, rfl, s, m, r⟩ := rx.lstI
    cases e
    refine .inl ⟨a, vs, rfl, .inl (.inl s), ?_⟩
    rw [← r.length]
    exact k _ _ (Same.refl H) (.int _)
  | ref n =>
    obtain ⟨xs, q, rfl⟩ := len_dic g e
    obtain ⟨a, rfl⟩ := rx.refI
    obtain ⟨_, vs, e1, r⟩ := g.lst rx q
    refine .inl ⟨a, vs, rfl, .inl (.of e1), ?_⟩
    rw [← r.length]
    exact k _ _ (Same.refl H) (.int _)
  | _ => simp [evB1] at e
theorem v_abs : V1 X p es (fun h x => evB1 h .abs x) (fun xs H Q => ∃ i, xs = [.int i] ∧ Q (.int (if i < 0 then -i else i)) H) := by
  refine ⟨fun {B h μ H x z v Q} g e rx k => ?_⟩
  cases x with
  | int i => cases rx.intI; cases e; exact ⟨i, rfl, k _ _ (Same.refl H) (.int _)⟩
  | _ => simp [evB1] at e
theorem v_int : V1 X p es (fun h x => evB1 h .int x) (fun xs H Q => (∃ i, xs = [.int i] ∧ Q (.int i) H) ∨ ∃ k, xs = [.bl k] ∧ Q (.int (if k then 1 else 0)) H) := by
  refine ⟨fun {B h μ H x z v Q} g e rx k => ?_⟩
  cases x with
  | int i => cases rx.intI; cases e; exact .inl ⟨i, rfl, k _ _ (Same.refl H) (.int _)⟩
  | bl i => cases rx.blI; cases e; exact .inr ⟨i, rfl, k _ _ (Same.refl H) (.int _)⟩
  | _ => simp [evB1] at e
theorem v_tuple : V1 X p es (fun h x => evB1 h .tuple x) (rTupB X.K) := by
  refine ⟨fun {B h μ H x z v Q} g e rx k => ?_⟩
  cases x with
  | tup xs =>
    obtain ⟨a, vs, rfl, s, r⟩ := rx.tupB
    cases e
    exact ⟨a, vs, rfl, .inr ⟨s.t, k _ _ (Same.refl H) (.tup s r)⟩⟩
  | lst xs =>
    obtain ⟨a, vs, rfl, s, m, r⟩ := rx.lstI
    cases e
    exact ⟨a, vs, rfl, .inl ⟨.inl s, fun q ob hq hd => k _ _ (same_new hq) (newTup g.mu hq hd r)⟩⟩
  | ref n =>
    obtain ⟨a, rfl⟩ := rx.refI
    simp only [evB1] at e
    split at e
    · rename_i xs q
      cases e
      obtain ⟨_, vs, e1, r⟩ := g.lst rx q
      exact ⟨a, vs, rfl, .inl ⟨.of e1, fun q ob hq hd => k _ _ (same_new hq) (newTup g.mu hq hd r.any)⟩⟩
    · cases e
  | _ => simp [evB1] at e
theorem bools_of {K : PySem.W.Frag} {fa : Nat → Addr} {μ : Mu} {H : Hp} : ∀ {xs : List PV} {vs : List V} {bs : List Bool}, RVs K fa es μ H xs vs → bools xs = some bs → vs = bs.map V.bl
  | _, _, bs, .nil, e => by cases e; rfl
  | x :: xs, _, bs, .cons r t, e => by
    cases x with
    | bl y =>
      simp only [bools] at e
      cases q : bools xs with
      | none => rw [q] at e; cases e
      | some bs' =>
        rw [q] at e
        cases e
        cases r.blI
        rw [bools_of t q]
        rfl
    | _ => simp [bools] at e
theorem v_all : V1 X p es (fun h x => evB1 h .all x) (rAll X.K) := by
  refine ⟨fun {B h μ H x z v Q} g e rx k => ?_⟩
  cases x with
  | lst xs =>
    obtain ⟨a, vs, rfl, s, m, r⟩ := rx.lstI
    simp only [evB1] at e
    cases q : bools xs with
    | none => rw [q] at e; cases e
    | some bs =>
      rw [q] at e
      cases e
      have e2 := bools_of r q
      subst e2
      exact ⟨a, bs, rfl, .inl s, k _ _ (Same.refl H) (.bl _)⟩
  | _ => simp [evB1] at e
theorem v_any : V1 X p es (fun h x => evB1 h .any x) (rAny X.K) := by
  refine ⟨fun {B h μ H x z v Q} g e rx k => ?_⟩
  cases x with
  | lst xs =>
    obtain ⟨a, vs, rfl, s, m, r⟩ := rx.lstI
    simp only [evB1] at e
    cases q : bools xs with
    | none => rw [q] at e; cases e
    | some bs =>
      rw [q] at e
      cases e
      have e2 := bools_of r q
      subst e2
      exact ⟨a, bs, rfl, .inl s, k _ _ (Same.refl H) (.bl _)⟩
  | _ => simp [evB1] at e
def b1Name : B1 → Option Str
  | .len => some "len"
  | .abs => some "abs"
  | .int => some "int"
  | .tuple => some "tuple"
  | .all => some "all"
  | .any => some "any"
  | .max => some "max"
  | .min => some "min"
  | .sum => some "sum"
  | _ => none
theorem ints_ofN {K : PySem.W.Frag} {fa : Nat → Addr} {μ : Mu} {H : Hp} : ∀ {xs : List PV} {vs : List V} {bs : List Int}, RVs K fa es μ H xs vs → intsP xs = some bs → vs = bs.map V.int
  | _, _, bs, .nil, e => by cases e; rfl
  | x :: xs, _, bs, .cons r t, e => by
    cases x with
    | int y =>
      simp only [intsP] at e
      cases q : intsP xs with
      | none => rw [q] at e; cases e
      | some bs' =>
        rw [q] at e
        cases e
        cases r.intI
        rw [ints_ofN t q]
        rfl
    | _ => simp [intsP] at e
theorem foldI_max {f : Int → Int → Int} {R : Int → Int → Prop} (h1 : ∀ a b, f a b = a ∨ f a b = b) (h2 : ∀ a b, R a (f a b) ∧ R b (f a b)) (tr : ∀ a b c, R a b → R b c → R a c) (rf : ∀ a, R a a) : ∀ (l : List Int) (a : Int), l.foldl f a ∈ a :: l ∧ ∀ y ∈ a :: l, R y (l.foldl f a)
  | [], a => ⟨by simp, fun y hy => by simp at hy; subst hy; exact rf _⟩
  | b :: l, a => by
    obtain ⟨k1, k2⟩ := foldI_max h1 h2 tr rf l (f a b)
    rw [List.foldl_cons]
    refine ⟨?_, fun y hy => ?_⟩
    · rcases List.mem_cons.mp k1 with e | e
      · rw [e]
        rcases h1 a b with z | z <;> rw [z] <;> simp
      · exact List.mem_cons_of_mem _ (List.mem_cons_of_mem _ e)
    · have k := k2 (f a b) List.mem_cons_self
      rcases List.mem_cons.mp hy with e | hy
      · subst e; exact tr _ _ _ (h2 _ _).1 k
      · rcases List.mem_cons.mp hy with e | hy
        · subst e; exact tr _ _ _ (h2 _ _).2 k
        · exact k2 y (List.mem_cons_of_mem _ hy)
theorem v_max : V1 X p es (fun h x => evB1 h .max x) (rMax X.K) := by
  refine ⟨fun {B h μ H x z v Q} g e rx k => ?_⟩
  cases x with
  | lst xs =>
    obtain ⟨a, vs, rfl, s, m, r⟩ := rx.lstI
    simp only [evB1] at e
    cases q : intsP xs with
    | none => rw [q] at e; cases e
    | some bs =>
      rw [q] at e
      have e2 := ints_ofN r q
      subst e2
      cases bs with
      | nil => cases e
      | cons b l =>
        cases e
        refine ⟨a, b :: l, rfl, .inl s, by simp, fun m hm hy => ?_⟩
        have z := foldI_max (f := fun a b => if a < b then b else a) (R := fun a b => a ≤ b) (fun a b => by split <;> simp) (fun a b => by split <;> (constructor <;> omega)) (fun a b c => Int.le_trans) (fun a => Int.le_refl a) l b
        have e : m = l.foldl (fun a b => if a < b then b else a) b := Int.le_antisymm (z.2 m hm) (hy _ z.1)
        rw [e]
        exact k _ _ (Same.refl H) (.int _)
  | _ => simp [evB1] at e
theorem v_min : V1 X p es (fun h x => evB1 h .min x) (rMin X.K) := by
  refine ⟨fun {B h μ H x z v Q} g e rx k => ?_⟩
  cases x with
  | lst xs =>
    obtain ⟨a, vs, rfl, s, m, r⟩ := rx.lstI
    simp only [evB1] at e
    cases q : intsP xs with
    | none => rw [q] at e; cases e
    | some bs =>
      rw [q] at e
      have e2 := ints_ofN r q
      subst e2
      cases bs with
      | nil => cases e
      | cons b l =>
        cases e
        refine ⟨a, b :: l, rfl, .inl s, by simp, fun m hm hy => ?_⟩
        have z := foldI_max (f := fun a b => if b < a then b else a) (R := fun a b => b ≤ a) (fun a b => by split <;> simp) (fun a b => by split <;> (constructor <;> omega)) (fun a b c h1 h2 => Int.le_trans h2 h1) (fun a => Int.le_refl a) l b
        have e : m = l.foldl (fun a b => if b < a then b else a) b := Int.le_antisymm (hy _ z.1) (z.2 m hm)
        rw [e]
        exact k _ _ (Same.refl H) (.int _)
  | _ => simp [evB1] at e
theorem v_sum : V1 X p es (fun h x => evB1 h .sum x) (rSum X.K) := by
  refine ⟨fun {B h μ H x z v Q} g e rx k => ?_⟩
  cases x with
  | lst xs =>
    obtain ⟨a, vs, rfl, s, m, r⟩ := rx.lstI
    simp only [evB1] at e
    cases q : intsP xs with
    | none => rw [q] at e; cases e
    | some bs =>
      rw [q] at e
      have e2 := ints_ofN r q
      subst e2
      cases e
      exact ⟨a, bs, rfl, .inl s, k _ _ (Same.refl H) (.int _)⟩
  | _ => simp [evB1] at e
theorem snd_b1 (g : Good X p cy es W) {o : B1} {x : Str} (hc : cy.calm = true) (ho : b1Name o = some x) (hx : globB cy x = true) (pl : plainE a = true) (ha : PE X a (RdE X p es W l)) : PE X (.Call (.Name x pp) [a] [] pos) (RdE X p es W (.b1 o l)) := by
  obtain ⟨h1, h2, h3, _⟩ := badName_of hx
  have hm : X.mg x = none := g.blt x (by cases o <;> cases ho <;> decide)
  have st := plain_star pl [] X.env
  cases o <;> cases ho
  · exact (pe_callB (call_len_seq.or call_len_str) (g.glob hx) hm PySem.boot_len (pa_one pl ha) h3 h1 st).imp (imp_b1 v_len)
  · exact (pe_callB call_abs (g.glob hx) hm (by decide +kernel) (pa_one pl ha) h3 h1 st).imp (imp_b1 v_abs)
  · exact (pe_callTy call_int1 (g.glob hx) hm (by decide +kernel) (pa_one pl ha) h3 h1 st).imp (imp_b1 v_int)
  · exact (pe_callTy clTupB (g.glob hx) hm (by decide +kernel) (pa_one pl ha) h3 h1 st).imp (imp_b1 v_tuple)
  · exact (pe_callB (cr_all (g.calm hc).1) (g.glob hx) hm (by decide +kernel) (pa_one pl ha) h3 h1 st).imp (imp_b1 v_all)
  · exact (pe_callB (cr_any (g.calm hc).1) (g.glob hx) hm (by decide +kernel) (pa_one pl ha) h3 h1 st).imp (imp_b1 v_any)
  · exact (pe_callB (cr_min (g.calm hc).1) (g.glob hx) hm (by decide +kernel) (pa_one pl ha) h3 h1 st).imp (imp_b1 v_min)
  · exact (pe_callB (cr_max (g.calm hc).1) (g.glob hx) hm (by decide +kernel) (pa_one pl ha) h3 h1 st).imp (imp_b1 v_max)
  · exact (pe_callB (cr_sum (g.calm hc).1) (g.glob hx) hm (by decide +kernel) (pa_one pl ha) h3 h1 st).imp (imp_b1 v_sum)
/-! ### two ints -/
structure V2 (X : Cx) (p : Pk) (es : List (Addr × Nat × Option Addr)) (g : PV → PV → Option PV) (r : List V → Hp → VK → Prop) : Prop where
  run : ∀ {μ : Mu} {H : Hp} {x y z : PV} {v w : V} {Q : VK}, g x y = some z → RV X.K p.fa es μ H x v → RV X.K p.fa es μ H y w → (∀ u, RV X.K p.fa es μ H z u → Q u H) → r [v, w] H Q
theorem imp_b2 {o : B2} {r : List V → Hp → VK → Prop} (vr : V2 X p es (fun x y => evB2 o x y) r) : ∀ s H Q, RdE X p es W (.b2 o l m) s H Q → tCB r (tTwo (RdE X p es W l) (RdE X p es W m)) s H Q := fun s H Q ⟨B, b, σ, h, μ, st, q⟩ => by
  unfold evE at q
  refine seqE st q fun x h1 μ1 H1 v l1 st1 rx q1 => seqE st1 q1 fun y h2 μ2 H2 w l2 st2 ry q2 => ?_
  obtain ⟨z, e, k⟩ := Post.of q2
  exact vr.run e (rx.mono l2 st1.hr.mu) ry fun u ru => k μ2 H2 .refl st2.hr u ru
def b2Name : B2 → Str
  | .min => "min"
  | .max => "max"
  | .gcd => "gcd"
theorem snd_b2 (g : Good X p cy es W) (hc : cy.calm = true) {o : B2} {x : Str} (ho : b2Name o = x) (hx : globB cy x = true) (hg : o = .gcd → X.mg "gcd" = some (.builtin "math.gcd")) (pa : plainE a = true) (pb : plainE b = true) (ha : PE X a (RdE X p es W l)) (hb : PE X b (RdE X p es W m)) :
    PE X (.Call (.Name x pp) [a, b] [] pos) (RdE X p es W (.b2 o l m)) := by
  obtain ⟨h1, h2, h3, _⟩ := badName_of hx
  have cal := (g.calm hc).1
  have st := plain_star pa [b] X.env
  have an : (backTo pos (starEach [b] X.env)).any (·.1) = false := plain_any (by simp [pb])
  cases o <;> subst ho
  · have hm : X.mg "min" = none := g.blt _ (by decide)
    refine (pe_callB (call_min2 cal) (g.glob hx) hm (by decide +kernel) (pa_two pa pb ha hb) h3 h1 st an).imp (imp_b2 ⟨fun {μ H x y z v w Q} e rx ry k => ?_⟩)
    cases x <;> cases y <;> first | (simp [evB2] at e; done) | skip
    cases rx.intI; cases ry.intI; cases e
    exact ⟨_, _, rfl, k _ (.int _)⟩
  · have hm : X.mg "max" = none := g.blt _ (by decide)
    refine (pe_callB (call_max2 cal) (g.glob hx) hm (by decide +kernel) (pa_two pa pb ha hb) h3 h1 st an).imp (imp_b2 ⟨fun {μ H x y z v w Q} e rx ry k => ?_⟩)
    cases x <;> cases y <;> first | (simp [evB2] at e; done) | skip
    cases rx.intI; cases ry.intI; cases e
    exact ⟨_, _, rfl, k _ (.int _)⟩
  · refine (pe_callBfun cr_gcd (g.glob hx) (hg rfl) (pa_two pa pb ha hb) h1 st an).imp (imp_b2 ⟨fun {μ H x y z v w Q} e rx ry k => ?_⟩)
    cases x <;> cases y <;> first | (simp [evB2] at e; done) | skip
    cases rx.intI; cases ry.intI; cases e
    exact ⟨_, _, rfl, k _ (.int _)⟩
/-! ### isinstance of plain values and built-in classes -/
def tyName : Ty → Option (Str × String)
  | .int => some ("int", "int")
  | .bool => some ("bool", "bool")
  | .str => some ("str", "str")
  | .tuple => some ("tuple", "tuple")
  | .list => some ("list", "list")
  | _ => none
theorem kit_of' {K : PySem.W.Frag} {fa : Nat → Addr} {μ : Mu} {H : Hp} {B : Nat → Prop} {h : Hs} {x : PV} {v : V} (g : HR K fa B h μ H) (r : RV K fa es μ H x v) {t : Ty} {n : Str × String} (hn : tyName t = some n) {q : Bool} (e : evIsi x t = some q) : ∃ ty, TyX K H v ty ∧ PySem.W.kitOne K ty (.type n.2) = some q := by
  have seqT : ∀ {a : Addr} {vs : List V}, SqT K H a vs → TyX K H (.ref a) (.type "tuple") := fun {a vs} s => by
    rcases s with (s | ⟨o, s⟩) | ⟨o, its, n, hk, hc, _⟩
    · exact .base (.tup s)
    · exact .fTuple s
    · exact .kTuple hk hc
  cases t <;> cases hn <;> cases x <;> first | (simp [evIsi] at e; done) | skip
  all_goals (cases e)
  all_goals first
    | (cases r.intI; exact ⟨_, .base (.int _), kit_ty (by decide +kernel)⟩)
    | (cases r.blI; exact ⟨_, .base (.bl _), kit_ty (by decide +kernel)⟩)
    | (obtain ⟨z, rfl, _⟩ := r.strI; exact ⟨_, .base (.str _), kit_ty (by decide +kernel)⟩)
    | (obtain ⟨a, vs, rfl, s, _⟩ := r.tupI; exact ⟨_, seqT s, kit_ty (by decide +kernel)⟩)
    | (cases r; exact ⟨_, .base .non, kit_ty (by decide +kernel)⟩)
    | skip
  all_goals (
    obtain ⟨a, vs, rfl, s, _⟩ := r.lstI
    rcases s with s | ⟨o, s⟩
    · exact ⟨_, .base (.lst s), kit_ty (by decide +kernel)⟩
    · exact ⟨_, .base (.frz s), kit_ty (by decide +kernel)⟩)
/-- isinstance(x, T) -/
theorem imp_isi {t : Ty} {n : Str × String} (hn : tyName t = some n) : ∀ s H Q, RdE X p es W (.isi l t) s H Q → tCB (rIsi X.K) (tTwo (RdE X p es W l) (tC (.ty n.2))) s H Q := fun s H Q ⟨B, b, σ, h, μ, st, q⟩ => by
  unfold evE at q
  refine seqE st q fun x h1 μ1 H1 v l1 st1 rx q1 => ?_
  obtain ⟨z, e, k⟩ := Post.of q1
  cases q2 : evIsi x t with
  | none => rw [q2] at e; cases e
  | some c =>
    rw [q2] at e
    cases e
    obtain ⟨ty, h1, h2⟩ := kit_of' st1.hr rx hn q2
    exact ⟨v, .ty n.2, ty, .type n.2, c, rfl, .ty _, h1, h2, k μ1 H1 .refl st1.hr _ (.bl _)⟩
theorem tyName_boot {t : Ty} {n : Str × String} (hn : tyName t = some n) : bootBuiltins n.1 = some (.type n.2) ∧ n.1 ∈ (["len", "abs", "int", "tuple", "all", "any", "range", "enumerate", "zip", "list", "isinstance", "min", "max", "str", "sorted", "bool", "set", "sum"] : List Str) := by
  cases t <;> cases hn <;> exact ⟨by decide +kernel, by decide⟩
theorem snd_isi (g : Good X p cy es W) {t : Ty} {n : Str × String} {x : Str} {p2 : Pos} (hn : tyName t = some n) (hx : x = "isinstance") (gx : globB cy x = true) (gn : globB cy n.1 = true) (pl : plainE a = true) (ha : PE X a (RdE X p es W l)) :
    PE X (.Call (.Name x pp) [a, .Name n.1 p2] [] pos) (RdE X p es W (.isi l t)) := by
  subst hx
  obtain ⟨h1, h2, h3, _⟩ := badName_of gx
  obtain ⟨k1, k2, k3, _⟩ := badName_of gn
  obtain ⟨hb, hi⟩ := tyName_boot hn
  have hm : X.mg "isinstance" = none := g.blt _ (by decide)
  exact (pe_callB call_isi (g.glob gx) hm (by decide +kernel) (pa_two pl rfl ha (pe_bltn (g.glob gn) (g.blt _ hi) hb (by rfl) k3 k1)) h3 h1 (plain_star pl _ _) (plain_any (by rfl))).imp (imp_isi hn)
/-! ### tuple, all, any of a new list -/
theorem snd_tof (g : Good X p cy es W) {x : Str} (hx0 : x = "tuple") (hx : globB cy x = true) (pl : plainE a = true) (ha : PE X a (RdF X p es W f)) : PE X (.Call (.Name x pp) [a] [] pos) (RdE X p es W (.tof f)) := by
  subst hx0
  obtain ⟨h1, h2, h3, _⟩ := badName_of hx
  have hm : X.mg "tuple" = none := g.blt _ (by decide)
  refine (pe_callTy clTupB (g.glob hx) hm (by decide +kernel) (pa_one pl ha) h3 h1 (plain_star pl _ _)).imp fun s H Q ⟨B, b, σ, h, μ, st, q⟩ => ?_
  unfold evE at q
  refine seqF st q fun xs h1 μ1 H1 ad vs l1 st1 n0 e1 nl nf rs q1 => ?_
  refine ⟨ad, vs, rfl, .inl ⟨.of e1, fun q ob hq hd => ?_⟩⟩
  exact q1 μ1 _ (Le.same (same_new hq)) (st1.hr.same (same_new hq)) _ (newTup st1.hr.mu hq hd rs)
theorem snd_allc (g : Good X p cy es W) (hc : cy.calm = true) {x : Str} (hx0 : x = "all") (hx : globB cy x = true) (pl : plainE a = true) (ha : PE X a (RdF X p es W f)) : PE X (.Call (.Name x pp) [a] [] pos) (RdE X p es W (.allc f)) := by
  subst hx0
  obtain ⟨h1, h2, h3, _⟩ := badName_of hx
  have hm : X.mg "all" = none := g.blt _ (by decide)
  refine (pe_callB (cr_all (g.calm hc).1) (g.glob hx) hm (by decide +kernel) (pa_one pl ha) h3 h1 (plain_star pl _ _)).imp fun s H Q ⟨B, b, σ, h, μ, st, q⟩ => ?_
  unfold evE at q
  refine seqF st q fun xs h1 μ1 H1 ad vs l1 st1 n0 e1 nl nf rs q1 => ?_
  cases e : bools xs with
  | none => rw [e] at q1; exact q1.elim
  | some bs =>
    rw [e] at q1
    have e2 := bools_of rs e
    subst e2
    exact ⟨ad, bs, rfl, .of e1, Post.here q1 st1.hr _ (.bl _)⟩
theorem snd_anyc (g : Good X p cy es W) (hc : cy.calm = true) {x : Str} (hx0 : x = "any") (hx : globB cy x = true) (pl : plainE a = true) (ha : PE X a (RdF X p es W f)) : PE X (.Call (.Name x pp) [a] [] pos) (RdE X p es W (.anyc f)) := by
  subst hx0
  obtain ⟨h1, h2, h3, _⟩ := badName_of hx
  have hm : X.mg "any" = none := g.blt _ (by decide)
  refine (pe_callB (cr_any (g.calm hc).1) (g.glob hx) hm (by decide +kernel) (pa_one pl ha) h3 h1 (plain_star pl _ _)).imp fun s H Q ⟨B, b, σ, h, μ, st, q⟩ => ?_
  unfold evE at q
  refine seqF st q fun xs h1 μ1 H1 ad vs l1 st1 n0 e1 nl nf rs q1 => ?_
  cases e : bools xs with
  | none => rw [e] at q1; exact q1.elim
  | some bs =>
    rw [e] at q1
    have e2 := bools_of rs e
    subst e2
    exact ⟨ad, bs, rfl, .of e1, Post.here q1 st1.hr _ (.bl _)⟩
/-! ### sorted(..) of ints -/
theorem ints_of {K : PySem.W.Frag} {fa : Nat → Addr} {μ : Mu} {H : Hp} : ∀ {xs : List PV} {vs : List V} {bs : List Int}, RVs K fa es μ H xs vs → intsP xs = some bs → vs = bs.map V.int
  | _, _, bs, .nil, e => by cases e; rfl
  | x :: xs, _, bs, .cons r t, e => by
    cases x with
    | int y =>
      simp only [intsP] at e
      cases q : intsP xs with
      | none => rw [q] at e; cases e
      | some bs' =>
        rw [q] at e
        cases e
        cases r.intI
        rw [ints_of t q]
        rfl
    | _ => simp [intsP] at e
theorem insI_perm (a : Int) : ∀ l : List Int, (insI a l).Perm (a :: l)
  | [] => List.Perm.refl _
  | b :: r => by
    unfold insI
    split
    · exact List.Perm.refl _
    · exact (List.Perm.cons b (insI_perm a r)).trans (List.Perm.swap a b r)
theorem sortI_perm : ∀ l : List Int, (sortI l).Perm l
  | [] => List.Perm.refl _
  | a :: r => (insI_perm a _).trans (List.Perm.cons a (sortI_perm r))
theorem insI_srt (a : Int) : ∀ {l : List Int}, l.Pairwise (· ≤ ·) → (insI a l).Pairwise (· ≤ ·)
  | [], _ => by simp [insI]
  | b :: r, h => by
    rw [List.pairwise_cons] at h
    unfold insI
    split
    · rename_i c
      refine List.pairwise_cons.mpr ⟨fun x hx => ?_, List.pairwise_cons.mpr h⟩
      rcases List.mem_cons.mp hx with rfl | hx
      · exact c
      · exact Int.le_trans c (h.1 x hx)
    · rename_i c
      refine List.pairwise_cons.mpr ⟨fun x hx => ?_, insI_srt a h.2⟩
      rcases List.mem_cons.mp ((insI_perm a r).mem_iff.mp hx) with rfl | hx
      · omega
      · exact h.1 x hx
theorem sortI_srt : ∀ l : List Int, (sortI l).Pairwise (· ≤ ·)
  | [] => List.Pairwise.nil
  | a :: r => insI_srt a (sortI_srt r)
theorem srt_uniq : ∀ {l l' : List Int}, l.Perm l' → l.Pairwise (· ≤ ·) → l'.Pairwise (· ≤ ·) → l = l'
  | [], l', p, _, _ => (List.nil_perm.mp p).symm
  | a :: l, [], p, _, _ => absurd p.length_eq (by simp)
  | a :: l, b :: l', p, h, h' => by
    have ha := p.mem_iff.mp (List.mem_cons_self (a := a) (l := l))
    have hb := p.mem_iff.mpr (List.mem_cons_self (a := b) (l := l'))
    rw [List.pairwise_cons] at h h'
    have e : a = b := by
      rcases List.mem_cons.mp ha with e | m
      · exact e
      · rcases List.mem_cons.mp hb with e | m2
        · exact e.symm
        · have := h.1 b m2
          have := h'.1 a m
          omega
    subst e
    rw [srt_uniq (List.Perm.cons_inv p) h.2 h'.2]
theorem rvs_ints {K : PySem.W.Frag} {fa : Nat → Addr} {μ : Mu} {H : Hp} : ∀ l : List Int, RVs K fa es μ H (l.map PV.int) (l.map V.int)
  | [] => .nil
  | a :: r => .cons (.int a) (rvs_ints r)
theorem snd_sorted (g : Good X p cy es W) {x : Str} (hx0 : x = "sorted") (hx : globB cy x = true) (pl : plainE a = true) (ha : PE X a (RdE X p es W l)) : PE X (.Call (.Name x pp) [a] [] pos) (RdF X p es W (.sorted (.ex l))) := by
  subst hx0
  obtain ⟨h1, h2, h3, _⟩ := badName_of hx
  have hm : X.mg "sorted" = none := g.blt _ (by decide)
  refine (pe_callB crSrtT (g.glob hx) hm (by decide +kernel) (pa_one pl ha) h3 h1 (plain_star pl _ _)).imp fun s H Q ⟨B, b, σ, h, μ, st, q⟩ => ?_
  unfold evF at q
  refine seqE st q fun x h1 μ1 H1 v l1 st1 rx q1 => ?_
  have fin : ∀ {a : Addr} {xs : List PV} {vs : List V}, v = .ref a → items h1 x = some xs → (SqL X.K H1 a vs ∨ SqT X.K H1 a vs) → RVs X.K p.fa es μ1 H1 xs vs → rSrtT X.K [v] H1 Q := fun {a xs vs} ev e sq r => by
    subst ev
    rw [e, Option.bind_some] at q1
    unfold sortV at q1
    cases e2 : intsP xs with
    | none => rw [e2] at q1; exact q1.elim
    | some ns =>
      rw [e2, Option.map_some] at q1
      have ev := ints_of r e2
      subst ev
      refine ⟨a, ns, rfl, sq, fun ns' pp p1 p2 hp => ?_⟩
      have := srt_uniq (p1.trans (sortI_perm ns).symm) p2 (sortI_srt ns)
      subst this
      exact post_lst l1 st1.hr hp (rvs_ints _) q1
  by_cases nt : ∃ ys, x = .tup ys
  · obtain ⟨ys, rfl⟩ := nt
    obtain ⟨a, vs, rfl, sq, r⟩ := rx.tupI
    exact fin rfl rfl (.inr sq) r
  · have nt : ∀ ys, x ≠ .tup ys := fun ys e => nt ⟨ys, e⟩
    cases e : items h1 x with
    | none => rw [e] at q1; exact q1.elim
    | some xs =>
      obtain ⟨a, vs, rfl, sq, r⟩ := list_of st1.hr rx nt e
      exact fin rfl e (.inl sq) r
/-! ### list(..) -/
theorem snd_listOf (g : Good X p cy es W) {x : Str} (hx0 : x = "list") (hx : globB cy x = true) (pl : plainE a = true) (ha : PE X a (RdE X p es W l)) : PE X (.Call (.Name x pp) [a] [] pos) (RdF X p es W (.copy l)) := by
  subst hx0
  obtain ⟨h1, h2, h3, _⟩ := badName_of hx
  have hm : X.mg "list" = none := g.blt _ (by decide)
  refine (pe_callTy call_list_of (g.glob hx) hm (by decide +kernel) (pa_one pl ha) h3 h1 (plain_star pl _ _)).imp fun s H Q ⟨B, b, σ, h, μ, st, q⟩ => ?_
  unfold evF at q
  refine seqE st q fun x h1 μ1 H1 v l1 st1 rx q1 => ?_
  cases x with
  | tup xs =>
    obtain ⟨ad, vs, rfl, s, r⟩ := rx.tupI
    exact ⟨ad, vs, rfl, .inr s, fun pp hp => post_lst l1 st1.hr hp r q1⟩
  | lst xs =>
    obtain ⟨ad, vs, rfl, s, m, r⟩ := rx.lstI
    exact ⟨ad, vs, rfl, .inl (.inl s), fun pp hp => post_lst l1 st1.hr hp r q1⟩
  | scr xs =>
    cases rx with
    | scr e =>
      rename_i ad ns
      refine ⟨ad, ns.map V.int, rfl, .inl (e.elim (fun ⟨o, z⟩ => .inl (.inr ⟨o, z⟩)) .inr), fun pp hp => post_lst l1 st1.hr hp ?_ q1⟩
      clear e q1
      induction ns with
      | nil => exact .nil
      | cons n r ih => exact .cons (.int n) ih
  | ref n =>
    have q1 : Post X.K p.fa B μ1 H1 (R.of (items h1 (.ref n)) h1) (KF X p es H Q) (XW p W s) := q1
    cases e : items h1 (.ref n) with
    | none => rw [e] at q1; exact q1.elim
    | some xs =>
      rw [e] at q1
      obtain ⟨ad, vs, rfl, sq, r⟩ := list_of st1.hr rx (fun _ z => by cases z) e
      exact ⟨ad, vs, rfl, .inl sq, fun pp hp => post_lst l1 st1.hr hp r q1⟩
  | _ => exact q1.elim
end
end Mi
end

section
set_option Elab.async false
set_option linter.all false
set_option maxRecDepth 100000
set_option maxHeartbeats 4000000
/-! Snd8: what a loop walks over, targets, comprehensions -/
namespace Mi
open PySem PySem.Spec PyProof.Rows L2
variable {X : Cx} {p : Pk} {cy : Cy} {es : List (Addr × Nat × Option Addr)} {W : WX}
section
variable {a b c tg : Expr} {r : List Expr} {pos pos' pp : Pos} {l m : E} {ms : Es} {f : F}
/-! ### over a list or a tuple -/
theorem itr_list {K : PySem.W.Frag} {fa : Nat → Addr} {μ : Mu} {H : Hp} {ad : Addr} {vs : List V} {xs : List PV} (m : MuOk μ H) (s : Rd H ad (.lst vs)) (f : μ.F ad) (r : RVs K fa es μ H xs vs) (hl : vs.length ≤ sizeLine) : ItR K fa es μ H (Itl K ad) xs where
  lim := by rw [r.length]; exact hl
  stop := fun μ1 H1 l => ⟨vs, .inl (l.rd m s fun k z => (m k ad z).2 f), by rw [r.length]; exact Nat.le_refl _⟩
  go := fun i x μ1 H1 l e => by
    obtain ⟨v, ev, _⟩ := r.get e
    exact ⟨vs, v, .inl (l.rd m s fun k z => (m k ad z).2 f), ev⟩
  yld := fun i x v μ1 H1 H' l m1 e y => by
    obtain ⟨rfl, y⟩ := y
    obtain ⟨u, eu, ru⟩ := r.get e
    have := y vs (.inl (l.rd m s fun k z => (m k ad z).2 f))
    rw [eu] at this
    cases this
    exact ⟨Same.refl _, ru.mono l m⟩
theorem itr_tup {K : PySem.W.Frag} {fa : Nat → Addr} {μ : Mu} {H : Hp} {ad : Addr} {vs : List V} {xs : List PV} (m : MuOk μ H) (s : SqT K H ad vs) (r : RVs K fa es μ H xs vs) (hl : vs.length ≤ sizeLine) : ItR K fa es μ H (Itt K ad) xs where
  lim := by rw [r.length]; exact hl
  stop := fun μ1 H1 l => ⟨vs, l.sqt m s, by rw [r.length]; exact Nat.le_refl _⟩
  go := fun i x μ1 H1 l e => by
    obtain ⟨v, ev, _⟩ := r.get e
    exact ⟨vs, v, l.sqt m s, ev⟩
  yld := fun i x v μ1 H1 H' l m1 e y => by
    obtain ⟨rfl, y⟩ := y
    obtain ⟨u, eu, ru⟩ := r.get e
    have := y vs (l.sqt m s)
    rw [eu] at this
    cases this
    exact ⟨Same.refl _, ru.mono l m⟩
/-- the reading: a list or a tuple has come -/
def iSeq (K : PySem.W.Frag) (tl : TE) : TI := fun σ H R => tl σ H fun x H1 => ∃ a, x = .ref a ∧ ∃ xs, (SqL K H1 a xs ∧ (xs.length ≤ sizeLine → R (Itl K a) H1)) ∨ (SqT K H1 a xs ∧ (xs.length ≤ sizeLine → R (Itt K a) H1))
/-- or a range -/
def iSeqR (K : PySem.W.Frag) (tl : TE) : TI := fun σ H R => tl σ H fun x H1 => ∃ a, x = .ref a ∧ ((∃ xs, (SqL K H1 a xs ∧ (xs.length ≤ sizeLine → R (Itl K a) H1)) ∨ (SqT K H1 a xs ∧ (xs.length ≤ sizeLine → R (Itt K a) H1))) ∨
  (∃ i j : Int, H1 a = some (.rng i j) ∧ (-(2 ^ 61) ≤ i ∧ i < 2 ^ 61 ∧ -(2 ^ 61) ≤ j ∧ j < 2 ^ 61) ∧ R (Itr i (j - i).toNat) H1) ∨
  ∃ (o : PySem.Obj) (kvs : List (Key × V)), H1 a = some (.frz o (.dK kvs)) ∧ R (Itk a o kvs) H1)
theorem pi_seq {e : Expr} {tl : TE} (hl : PE X e tl) : PI X tg e (iSeq X.K tl) := by
  refine ⟨fun pins s σ H R I h => ?_⟩
  refine thn (hl.run pins s σ H _ I h) fun v s1 ⟨x, H1, I1, r1, q1⟩ => ?_
  obtain ⟨a, ea, xs, q⟩ := q1
  subst ea
  cases r1
  rcases q with ⟨hq, q⟩ | ⟨hq, q⟩
  · obtain ⟨its, rv, p, hz⟩ := I1.list hq
    refine wpAny_pyIter_list p.isList ?_
    refine ⟨s1.heap.objs.size, [s1.heap.objs.size], _, _, H1, rfl, I1.kept (t' := s1.toks) fun b o e => Heap.get?_push_of_some _ e, turn_list a _, ⟨_, Heap.get?_push_size _ rfl, rfl, rfl⟩, fun b hb => ?_, q hz⟩
    have e : b = s1.heap.objs.size := by simpa using hb
    subst e
    exact I1.fpOk (Nat.le_refl _) (I1.hok.fresh (Nat.le_refl _))
  · obtain ⟨its, rv, p, hz⟩ := I1.tuple hq
    refine wpAny_pyIter_tuple (show s1.heap.IsTuple a its.toArray from p) ?_
    refine ⟨s1.heap.objs.size, [s1.heap.objs.size], _, _, H1, rfl, I1.kept (t' := s1.toks) fun b o e => Heap.get?_push_of_some _ e, turn_tuple a _, ⟨_, Heap.get?_push_size _ rfl, rfl, rfl⟩, fun b hb => ?_, q hz⟩
    have e : b = s1.heap.objs.size := by simpa using hb
    subst e
    exact I1.fpOk (Nat.le_refl _) (I1.hok.fresh (Nat.le_refl _))
theorem pi_seqR {e : Expr} {tl : TE} (hl : PE X e tl) : PI X tg e (iSeqR X.K tl) := by
  refine ⟨fun pins s σ H R I h => ?_⟩
  refine thn (hl.run pins s σ H _ I h) fun v s1 ⟨x, H1, I1, r1, q1⟩ => ?_
  obtain ⟨a, ea, q⟩ := q1
  subst ea
  cases r1
  rcases q with ⟨xs, q⟩ | ⟨i, j, hr, ⟨b1, b2, b3, b4⟩, q⟩ | ⟨o, kvs, hd, q⟩
  · rcases q with ⟨hq, q⟩ | ⟨hq, q⟩
    · obtain ⟨its, rv, p, hz⟩ := I1.list hq
      refine wpAny_pyIter_list p.isList ?_
      refine ⟨s1.heap.objs.size, [s1.heap.objs.size], _, _, H1, rfl, I1.kept (t' := s1.toks) fun b o e => Heap.get?_push_of_some _ e, turn_list a _, ⟨_, Heap.get?_push_size _ rfl, rfl, rfl⟩, fun b hb => ?_, q hz⟩
      have e : b = s1.heap.objs.size := by simpa using hb
      subst e
      exact I1.fpOk (Nat.le_refl _) (I1.hok.fresh (Nat.le_refl _))
    · obtain ⟨its, rv, p, hz⟩ := I1.tuple hq
      refine wpAny_pyIter_tuple (show s1.heap.IsTuple a its.toArray from p) ?_
      refine ⟨s1.heap.objs.size, [s1.heap.objs.size], _, _, H1, rfl, I1.kept (t' := s1.toks) fun b o e => Heap.get?_push_of_some _ e, turn_tuple a _, ⟨_, Heap.get?_push_size _ rfl, rfl, rfl⟩, fun b hb => ?_, q hz⟩
      have e : b = s1.heap.objs.size := by simpa using hb
      subst e
      exact I1.fpOk (Nat.le_refl _) (I1.hok.fresh (Nat.le_refl _))
  · obtain ⟨t, u, v, ho⟩ := I1.hok a _ hr
    refine wpAny_pyIter_range (show IsRange s1.heap a i j 1 t u v from ho) (small_one (by omega) (by omega) (by omega) (by omega)) ?_
    refine ⟨s1.heap.objs.size, [s1.heap.objs.size], _, _, H1, rfl, I1.kept (t' := s1.toks) fun b o e => Heap.get?_push_of_some _ e, turn_range _ i (j - i).toNat, ?_, fun b hb => ?_, q⟩
    · have e1 : i + ((0 : Nat) : Int) * 1 = i := by simp
      have e2 : (((j - i).toNat : Nat) : Int) - ((0 : Nat) : Int) = Builtin.Range.rangeSize i j 1 := by rw [rangeSize_one]; split <;> omega
      show IsRangeIter _ _ (i + ((0 : Nat) : Int) * 1) ((((j - i).toNat : Nat) : Int) - ((0 : Nat) : Int)) 1
      rw [e1, e2]
      exact Heap.get?_push_size _ rfl
    · have e : b = s1.heap.objs.size := by simpa using hb
      subst e
      exact I1.fpOk (Nat.le_refl _) (I1.hok.fresh (Nat.le_refl _))
  · obtain ⟨hs, hgd, hx, es, ep, vs, hdt, hsz, kv, hm⟩ := I1.frzK hd
    refine iter_keys hs hgd hx hdt (pi_one (tk := s1.toks) I1 _ (turn_keys _ hdt) ⟨_, Heap.get?_push_size _ rfl, rfl, ?_⟩ q)
    rw [hsz] <;> rfl
theorem _root_.L2.PI.imp {e : Expr} {t t' : TI} (h : PI X tg e t) (i : ∀ s H R, t' s H R → t s H R) : PI X tg e t' := ⟨fun pins s σ H R I q => h.run pins s σ H R I (i _ _ _ q)⟩
/-! ### over a range -/
theorem rangeL_length (i j : Int) : (rangeL i j).length = (j - i).toNat := by unfold rangeL; simp
theorem rangeL_get {i j : Int} {k : Nat} {x : PV} (e : (rangeL i j)[k]? = some x) : k < (j - i).toNat ∧ x = .int (i + (k : Int)) := by
  unfold rangeL at e
  rw [List.getElem?_map] at e
  cases q : (List.range (j - i).toNat)[k]? with
  | none => rw [q] at e; cases e
  | some n =>
    rw [q] at e
    obtain ⟨h1, h2⟩ := List.getElem?_eq_some_iff.mp q
    rw [List.length_range] at h1
    rw [List.getElem_range] at h2
    subst h2
    cases e
    exact ⟨h1, rfl⟩
theorem itr_range {K : PySem.W.Frag} {fa : Nat → Addr} {μ : Mu} {H : Hp} {i j : Int} (hl : (j - i).toNat ≤ sizeLine) : ItR K fa es μ H (Itr i (j - i).toNat) (rangeL i j) where
  lim := by rw [rangeL_length]; exact hl
  stop := fun μ1 H1 l => by show (j - i).toNat ≤ (rangeL i j).length; rw [rangeL_length]; exact Nat.le_refl _
  go := fun k x μ1 H1 l e => (rangeL_get e).1
  yld := fun k x v μ1 H1 H' l m1 e y => by
    obtain ⟨rfl, rfl⟩ := y
    obtain ⟨_, rfl⟩ := rangeL_get e
    exact ⟨Same.refl _, .int _⟩
/-- over the keys of a dict that is never changed again -/
theorem itr_dct {K : PySem.W.Frag} {fa : Nat → Addr} {μ : Mu} {H : Hp} {a : Addr} {o : PySem.Obj} {l : List (Int × Int)} (m : MuOk μ H) (hd : H a = some (.frz o (.dK (l.map fun p => ((.inl p.1 : Key), V.int p.2))))) (hl : l.length ≤ sizeLine) :
    ItR K fa es μ H (Itk a o (l.map fun p => ((.inl p.1 : Key), V.int p.2))) (l.map fun p => .int p.1) := by
  have keep : ∀ μ1 H1, Le μ H μ1 H1 → H1 a = some (.frz o (.dK (l.map fun p => ((.inl p.1 : Key), V.int p.2)))) := fun μ1 H1 le => (le.keep _ _ hd).resolve_left fun ⟨n, z⟩ => m.not_live hd rfl n z
  refine ⟨by rw [List.length_map]; exact hl, fun μ1 H1 le => ⟨keep μ1 H1 le, by rw [List.length_map, List.length_map]; exact Nat.le_refl _⟩, fun i x μ1 H1 le e => ⟨keep μ1 H1 le, ?_⟩, fun i x v μ1 H1 H' le m1 e y => ?_⟩
  · have := (List.getElem?_eq_some_iff.mp e).1
    rw [List.length_map] at this ⊢
    exact this
  · obtain ⟨rfl, k, w, ek, rfl⟩ := y
    rw [List.getElem?_map] at e ek
    cases q : l[i]? with
    | none => rw [q] at e; cases e
    | some p =>
      rw [q] at e ek
      cases e
      cases ek
      exact ⟨Same.refl _, .int _⟩
theorem snd_iex (ha : PE X a (RdE X p es W l)) : PI X tg a (RdI X p es W (.ex l)) :=
  (pi_seqR ha).imp fun s H R ⟨B, b, σ, h, μ, st, q⟩ => by
    unfold evI at q
    refine seqE st q fun x h1 μ1 H1 v l1 st1 rx q1 => ?_
    cases x with
    | tup xs =>
      obtain ⟨ad, vs, rfl, s, r⟩ := rx.tupI
      exact ⟨ad, rfl, .inl ⟨vs, .inr ⟨s, fun hz => Post.here q1 st1.hr _ (itr_tup st1.hr.mu s r hz)⟩⟩⟩
    | lst xs =>
      obtain ⟨ad, vs, rfl, s, m, r⟩ := rx.lstI
      exact ⟨ad, rfl, .inl ⟨vs, .inl ⟨.inl s, fun hz => Post.here q1 st1.hr _ (itr_list st1.hr.mu s m r hz)⟩⟩⟩
    | rng i j =>
      simp only [] at q1
      split at q1
      · rename_i hc
        have hc' : j - i ≤ 1000000 := hc.2
        cases rx with
        | rng hr =>
        exact ⟨_, rfl, .inr (.inl ⟨i, j, hr, hc.1, Post.here q1 st1.hr _ (itr_range (line_le (by show (j - i).toNat ≤ 1000000; omega)))⟩)⟩
      · exact q1.elim
    | dct l =>
      cases rx with
      | dct hd =>
      simp only [] at q1
      split at q1
      · rename_i hl
        exact ⟨_, rfl, .inr (.inr ⟨_, _, hd, Post.here q1 st1.hr _ (itr_dct st1.hr.mu hd (line_le hl))⟩)⟩
      · exact q1.elim
    | _ => exact q1.elim
theorem snd_rng1 (g : Good X p cy es W) {x : Str} (hx0 : x = "range") (hx : globB cy x = true) (pl : plainE a = true) (ha : PE X a (RdE X p es W l)) : PI X tg (.Call (.Name x pp) [a] [] pos) (RdI X p es W (.rng1 l)) := by
  subst hx0
  have hm : X.mg "range" = none := g.blt _ (by decide)
  refine (pi_range1 (g.glob hx) hm (pa_one pl ha) (plain_star pl _ _)).imp fun s H R ⟨B, b, σ, h, μ, st, q⟩ => ?_
  unfold evI at q
  refine seqE st q fun x h1 μ1 H1 v l1 st1 rx q1 => ?_
  cases x with
  | int i =>
    cases rx.intI
    simp only [] at q1
    split at q1
    · rename_i hc
      have hc1 : i ≤ 1000000 := hc.1
      refine ⟨i, rfl, by omega, by omega, ?_⟩
      have e : (i - 0).toNat = i.toNat := by omega
      have key := itr_range (K := X.K) (fa := p.fa) (es := es) (μ := μ1) (H := H1) (i := 0) (j := i) (line_le (by show (i - 0).toNat ≤ 1000000; omega))
      rw [e] at key
      exact Post.here q1 st1.hr _ key
    · exact q1.elim
  | _ => exact q1.elim
theorem snd_rng2 (g : Good X p cy es W) {x : Str} (hx0 : x = "range") (hx : globB cy x = true) (pa : plainE a = true) (pb : plainE b = true) (ha : PE X a (RdE X p es W l)) (hb : PE X b (RdE X p es W m)) : PI X tg (.Call (.Name x pp) [a, b] [] pos) (RdI X p es W (.rng2 l m)) := by
  subst hx0
  have hm : X.mg "range" = none := g.blt _ (by decide)
  have e1 : starEach [b] X.env = [(false, eval b X.env)] := plain_star pb [] X.env
  refine (pi_range2 (g.glob hx) hm (pa_two pa pb ha hb) (by rw [plain_star pa, e1]) e1).imp fun s H R ⟨B, b, σ, h, μ, st, q⟩ => ?_
  unfold evI at q
  refine seqE st q fun x h1 μ1 H1 v l1 st1 rx q1 => seqE st1 q1 fun y h2 μ2 H2 w l2 st2 ry q2 => ?_
  cases x with
  | int i =>
    cases y with
    | int j =>
      cases rx.intI
      cases ry.intI
      simp only [] at q2
      split at q2
      · rename_i hc
        obtain ⟨hc, hl⟩ := hc
        have hl : j - i ≤ 1000000 := hl
        refine ⟨i, j, rfl, ⟨by omega, by omega, by omega, by omega⟩, ?_⟩
        exact Post.here q2 st2.hr _ (itr_range (line_le (by show (j - i).toNat ≤ 1000000; omega)))
      · exact q2.elim
    | _ => exact q2.elim
  | _ => exact q2.elim
/-! ### enumerate, zip -/
theorem enumL_get : ∀ {xs : List PV} {k i : Nat} {x : PV}, (enumL k xs)[i]? = some x → ∃ y, xs[i]? = some y ∧ x = .tup [.int ((k + i : Nat) : Int), y]
  | [], k, i, x, e => by unfold enumL at e; simp at e
  | y :: r, k, 0, x, e => by unfold enumL at e; simp at e; exact ⟨y, rfl, by rw [← e]; rfl⟩
  | y :: r, k, i + 1, x, e => by
    unfold enumL at e
    obtain ⟨z, h1, h2⟩ := enumL_get (k := k + 1) (i := i) (x := x) (by simpa using e)
    exact ⟨z, by simpa using h1, by rw [h2, show k + 1 + i = k + (i + 1) by omega]⟩
theorem enumL_len : ∀ {xs : List PV} {k : Nat}, (enumL k xs).length = xs.length
  | [], _ => rfl
  | _ :: r, k => by unfold enumL; rw [List.length_cons, List.length_cons, enumL_len]
theorem zipL_get : ∀ {xs ys : List PV} {i : Nat} {x : PV}, (zipL xs ys)[i]? = some x → ∃ y z, xs[i]? = some y ∧ ys[i]? = some z ∧ x = .tup [y, z]
  | [], _, i, x, e => by simp [zipL] at e
  | _ :: _, [], i, x, e => by simp [zipL] at e
  | y :: r, z :: t, 0, x, e => by simp [zipL] at e; exact ⟨y, z, rfl, rfl, e.symm⟩
  | y :: r, z :: t, i + 1, x, e => by
    obtain ⟨u, v, h1, h2, h3⟩ := zipL_get (xs := r) (ys := t) (i := i) (x := x) (by simpa [zipL] using e)
    exact ⟨u, v, by simpa using h1, by simpa using h2, h3⟩
theorem zipL_len : ∀ {xs ys : List PV}, (zipL xs ys).length = min xs.length ys.length
  | [], _ => by simp [zipL]
  | _ :: _, [] => by simp [zipL]
  | _ :: r, _ :: t => by simp only [zipL, List.length_cons]; rw [zipL_len]; omega
theorem itr_enumK {k : Bool} {μ : Mu} {H : Hp} {ad : Addr} {vs : List V} {xs : List PV} (m : MuOk μ H) (s : ∀ μ1 H1, Le μ H μ1 H1 → SqK k X.K H1 ad vs) (r : RVs X.K p.fa es μ H xs vs) (hl : vs.length ≤ sizeLine) : ItR X.K p.fa es μ H (IteK k X.K ad) (enumL 0 xs) where
  lim := by rw [enumL_len, r.length]; exact hl
  stop := fun μ1 H1 l => ⟨vs, s _ _ l, by rw [enumL_len, r.length]⟩
  go := fun i x μ1 H1 l e => by
    obtain ⟨y, e, _⟩ := enumL_get e
    obtain ⟨v, ev, _⟩ := r.get e
    exact ⟨vs, v, s _ _ l, ev⟩
  yld := fun i x v μ1 H1 H' l m1 e y => by
    obtain ⟨T, ob, u, rfl, hT, hd, rfl, y⟩ := y
    obtain ⟨z, e', rfl⟩ := enumL_get e
    obtain ⟨w, ew, rw'⟩ := r.get e'
    have := y vs (s _ _ l)
    rw [ew] at this
    cases this
    rw [Nat.zero_add]
    exact ⟨same_new hT, newTup m1 hT hd (.cons (.int _) (.cons (rw'.mono l m) .nil))⟩
theorem itr_zipK {j k : Bool} {μ : Mu} {H : Hp} {a b : Addr} {vs ws : List V} {xs ys : List PV} (m : MuOk μ H) (s : ∀ μ1 H1, Le μ H μ1 H1 → SqK j X.K H1 a vs) (r : RVs X.K p.fa es μ H xs vs) (s2 : ∀ μ1 H1, Le μ H μ1 H1 → SqK k X.K H1 b ws) (r2 : RVs X.K p.fa es μ H ys ws) (hl : vs.length ≤ sizeLine) :
    ItR X.K p.fa es μ H (ItzK j k X.K a b) (zipL xs ys) where
  lim := by rw [zipL_len, r.length]; omega
  stop := fun μ1 H1 l => ⟨vs, ws, s _ _ l, s2 _ _ l, by rw [zipL_len, r.length]; omega, by rw [zipL_len, r2.length]; omega, by rw [zipL_len, r.length, r2.length]; omega⟩
  go := fun i x μ1 H1 l e => by
    obtain ⟨y, z, e, e2, _⟩ := zipL_get e
    obtain ⟨v, ev, _⟩ := r.get e
    obtain ⟨w, ew, _⟩ := r2.get e2
    exact ⟨vs, ws, v, w, s _ _ l, s2 _ _ l, ev, ew⟩
  yld := fun i x v μ1 H1 H' l m1 e y => by
    obtain ⟨T, ob, u, u2, rfl, hT, hd, rfl, y1, y2⟩ := y
    obtain ⟨y, z, e', e2, rfl⟩ := zipL_get e
    obtain ⟨v, ev, rv⟩ := r.get e'
    obtain ⟨w, ew, rw'⟩ := r2.get e2
    have h1 := y1 vs (s _ _ l)
    have h2 := y2 ws (s2 _ _ l)
    rw [ev] at h1
    rw [ew] at h2
    cases h1
    cases h2
    exact ⟨same_new hT, newTup m1 hT hd (.cons (rv.mono l m) (.cons (rw'.mono l m) .nil))⟩
theorem snd_enum (g : Good X p cy es W) {x : Str} {elts : List Expr} {kk : Nat} {tpos : Pos} (hx0 : x = "enumerate") (hx : globB cy x = true) (pl : plainE a = true) (ha : PE X a (RdE X p es W l)) : PI X (.Tuple elts kk tpos) (.Call (.Name x pp) [a] [] pos) (RdI X p es W (.enum l)) := by
  subst hx0
  have hm : X.mg "enumerate" = none := g.blt _ (by decide)
  refine (piEnK (g.glob hx) hm (pa_one pl ha) (plain_star pl _ _)).imp fun s H R ⟨B, b, σ, h, μ, st, q⟩ => ?_
  unfold evI at q
  refine seqE st q fun x h1 μ1 H1 v l1 st1 rx q1 => ?_
  obtain ⟨z, ez, kz⟩ := Post.of q1
  cases x with
  | lst xs =>
    simp only [enumV] at ez
    split at ez
    · rename_i hl
      cases ez
      cases rx with
      | lst s m r => 
        have kL : ∀ μ2 H2, Le μ1 H1 μ2 H2 → SqK false X.K H2 _ _ := fun μ2 H2 l => .inl (l.rd st1.hr.mu (.of s) fun k z => (st1.hr.mu k _ z).2 m)
        exact ⟨false, _, _, rfl, kL _ _ .refl, kz μ1 H1 .refl st1.hr _ (itr_enumK st1.hr.mu kL r (by rw [← r.length]; exact line_le hl))⟩
    · cases ez
  | tup xs =>
    simp only [enumV] at ez
    split at ez
    · rename_i hl
      cases ez
      cases rx with
      | tup s r => 
        have kT : ∀ μ2 H2, Le μ1 H1 μ2 H2 → SqK true X.K H2 _ _ := fun μ2 H2 l => l.sqt st1.hr.mu s.t
        exact ⟨true, _, _, rfl, kT _ _ .refl, kz μ1 H1 .refl st1.hr _ (itr_enumK st1.hr.mu kT r (by rw [← r.length]; exact line_le hl))⟩
    · cases ez
  | _ => cases ez
theorem snd_zip (g : Good X p cy es W) {x : Str} {elts : List Expr} {kk : Nat} {tpos : Pos} (hx0 : x = "zip") (hx : globB cy x = true) (pa : plainE a = true) (pb : plainE b = true) (ha : PE X a (RdE X p es W l)) (hb : PE X b (RdE X p es W m)) : PI X (.Tuple elts kk tpos) (.Call (.Name x pp) [a, b] [] pos) (RdI X p es W (.zip l m)) := by
  subst hx0
  have hm : X.mg "zip" = none := g.blt _ (by decide)
  have e1 : starEach [b] X.env = [(false, eval b X.env)] := plain_star pb [] X.env
  refine (piZK (g.glob hx) hm (pa_two pa pb ha hb) (plain_star pa _ _) (plain_any (by simp [pb]))).imp fun s H R ⟨B, b, σ, h, μ, st, q⟩ => ?_
  unfold evI at q
  refine seqE st q fun x h1 μ1 H1 v l1 st1 rx q1 => seqE st1 q1 fun y h2 μ2 H2 w l2 st2 ry q2 => ?_
  have rx := rx.mono l2 st1.hr.mu
  obtain ⟨z, ez, kz⟩ := Post.of q2
  have kz := kz μ2 H2 .refl st2.hr
  have kL : ∀ {a : Addr} {vs : List V}, H2 a = some (.lst vs) → μ2.F a → ∀ μ1 H1, Le μ2 H2 μ1 H1 → SqK false X.K H1 a vs := fun {a vs} s f μ1 H1 l => .inl (l.rd st2.hr.mu (.of s) fun k z => (st2.hr.mu k a z).2 f)
  have kT : ∀ {a : Addr} {vs : List V}, SqT X.K H2 a vs → ∀ μ1 H1, Le μ2 H2 μ1 H1 → SqK true X.K H1 a vs := fun {a vs} s μ1 H1 l => l.sqt st2.hr.mu s
  cases x with
  | lst xs =>
    cases y with
    | lst ys =>
      simp only [zipV] at ez
      split at ez
      · rename_i hl
        cases ez
        cases rx with
        | lst s m r => cases ry with
          | lst s2 m2 r2 => exact ⟨false, false, _, _, _, _, rfl, kL s m _ _ .refl, kL s2 m2 _ _ .refl, kz _ (itr_zipK st2.hr.mu (kL s m) r (kL s2 m2) r2 (by rw [← r.length]; exact line_le hl))⟩
      · cases ez
    | tup ys =>
      simp only [zipV] at ez
      split at ez
      · rename_i hl
        cases ez
        cases rx with
        | lst s m r => cases ry with
          | tup s2 r2 => exact ⟨false, true, _, _, _, _, rfl, kL s m _ _ .refl, kT s2.t _ _ .refl, kz _ (itr_zipK st2.hr.mu (kL s m) r (kT s2.t) r2 (by rw [← r.length]; exact line_le hl))⟩
      · cases ez
    | _ => cases ez
  | tup xs =>
    cases y with
    | lst ys =>
      simp only [zipV] at ez
      split at ez
      · rename_i hl
        cases ez
        cases rx with
        | tup s r => cases ry with
          | lst s2 m2 r2 => exact ⟨true, false, _, _, _, _, rfl, kT s.t _ _ .refl, kL s2 m2 _ _ .refl, kz _ (itr_zipK st2.hr.mu (kT s.t) r (kL s2 m2) r2 (by rw [← r.length]; exact line_le hl))⟩
      · cases ez
    | tup ys =>
      simp only [zipV] at ez
      split at ez
      · rename_i hl
        cases ez
        cases rx with
        | tup s r => cases ry with
          | tup s2 r2 => exact ⟨true, true, _, _, _, _, rfl, kT s.t _ _ .refl, kT s2.t _ _ .refl, kz _ (itr_zipK st2.hr.mu (kT s.t) r (kT s2.t) r2 (by rw [← r.length]; exact line_le hl))⟩
      · cases ez
    | _ => cases ez
  | _ => cases ez
/-! ### zip of four -/
inductive RVss (K : PySem.W.Frag) (fa : Nat → Addr) (es : List (Addr × Nat × Option Addr)) (μ : Mu) (H : Hp) : List (List PV) → List (List V) → Prop
  | nil : RVss K fa es μ H [] []
  | cons {xs : List PV} {vs : List V} {xss : List (List PV)} {vss : List (List V)} : RVs K fa es μ H xs vs → RVss K fa es μ H xss vss → RVss K fa es μ H (xs :: xss) (vs :: vss)
theorem minL_cons {x : List PV} {r : List (List PV)} (h : r ≠ []) : minL (x :: r) = min x.length (minL r) := by
  cases r with
  | nil => exact absurd rfl h
  | cons y t => rfl
theorem rvss_lt {K : PySem.W.Frag} {fa : Nat → Addr} {es : List (Addr × Nat × Option Addr)} {μ : Mu} {H : Hp} : ∀ {xss : List (List PV)} {vss : List (List V)} {i : Nat}, RVss K fa es μ H xss vss → i ≤ minL xss → ∀ vs ∈ vss, i ≤ vs.length
  | _, _, i, .nil, h, vs, hv => absurd hv (by simp)
  | _, _, i, .cons (xss := xss) a r, h, vs, hv => by
    have la := a.length
    cases r with
    | nil =>
      have h : i ≤ _ := h
      simp only [List.mem_cons, List.mem_nil_iff, or_false] at hv
      subst hv
      rw [← la]; exact h
    | cons b t =>
      rw [minL_cons (by simp)] at h
      rcases List.mem_cons.mp hv with e | hv
      · subst e; omega
      · exact rvss_lt (.cons b t) (by omega) vs hv
theorem rvss_end {K : PySem.W.Frag} {fa : Nat → Addr} {es : List (Addr × Nat × Option Addr)} {μ : Mu} {H : Hp} : ∀ {xss : List (List PV)} {vss : List (List V)}, RVss K fa es μ H xss vss → vss ≠ [] → ∃ vs ∈ vss, minL xss = vs.length
  | _, _, .nil, h => absurd rfl h
  | _, _, .cons (xs := xs0) (vs := vs0) (xss := xss0) a r, h => by
    have la := a.length
    cases r with
    | nil => exact ⟨vs0, by simp, by rw [← la]; rfl⟩
    | cons b t =>
      obtain ⟨vs, hv, ev⟩ := rvss_end (.cons b t) (by simp)
      rw [minL_cons (by simp)]
      rcases Nat.le_total xs0.length (minL _) with q | q
      · exact ⟨vs0, by simp, by rw [Nat.min_eq_left q, la]⟩
      · exact ⟨vs, by simp only [List.mem_cons] at hv ⊢; exact .inr hv, by rw [Nat.min_eq_right q, ev]⟩
theorem rvss_row {K : PySem.W.Frag} {fa : Nat → Addr} {es : List (Addr × Nat × Option Addr)} {μ : Mu} {H : Hp} {i : Nat} : ∀ {xss : List (List PV)} {vss : List (List V)} {ys : List V}, RVss K fa es μ H xss vss → RowAt i vss ys → RVs K fa es μ H (xss.map fun xs => xs.getD i .non) ys
  | _, _, _, .nil, .nil => .nil
  | _, _, _, .cons a r, .cons e t => by
    rw [List.map_cons]
    refine .cons ?_ (rvss_row r t)
    have la := a.length
    have hi := (List.getElem?_eq_some_iff.mp e).1
    rename_i xs _ _ _ _ _
    have ex : xs[i]? = some (xs.getD i .non) := by
      rw [List.getD_eq_getElem?_getD, List.getElem?_eq_getElem (by omega)]; rfl
    obtain ⟨w, ew, rw'⟩ := a.get ex
    rw [e] at ew
    cases ew
    exact rw'
theorem itr_zipN {μ : Mu} {H : Hp} {l : List (Bool × Addr)} {vss : List (List V)} {xss : List (List PV)} (m : MuOk μ H) (s : ∀ μ1 H1, Le μ H μ1 H1 → SqA X.K H1 l vss) (r : RVss X.K p.fa es μ H xss vss) (ne : vss ≠ []) (hl : minL xss ≤ sizeLine) :
    ItR X.K p.fa es μ H (ItzN X.K l) (zipnL xss) where
  lim := by unfold zipnL; rw [List.length_map, List.length_range]; exact hl
  stop := fun μ1 H1 l' => by
    have e : (zipnL xss).length = minL xss := by unfold zipnL; rw [List.length_map, List.length_range]
    rw [e]
    exact ⟨vss, s _ _ l', rvss_lt r (Nat.le_refl _), rvss_end r ne⟩
  go := fun i x μ1 H1 l' e => by
    have hi := (List.getElem?_eq_some_iff.mp e).1
    unfold zipnL at hi
    rw [List.length_map, List.length_range] at hi
    exact ⟨vss, s _ _ l', fun vs hv => rvss_lt (i := i + 1) r hi vs hv⟩
  yld := fun i x v μ1 H1 H' l' m1 e y => by
    obtain ⟨T, ob, ys, rfl, hT, hd, rfl, y⟩ := y
    have hi := (List.getElem?_eq_some_iff.mp e).1
    unfold zipnL at hi e
    rw [List.length_map, List.length_range] at hi
    rw [List.getElem?_map, List.getElem?_range hi] at e
    simp only [Option.map_some, Option.some.injEq] at e
    subst e
    have row := rvss_row r (y vss (s _ _ l'))
    exact ⟨same_new hT, newTup m1 hT hd (row.mono l' m)⟩
theorem seqs_rv {μ : Mu} {H : Hp} (mu : MuOk μ H) : ∀ {xs : List PV} {us : List V} {xss : List (List PV)}, seqsP xs = some xss → RVs X.K p.fa es μ H xs us → ∃ (l : List (Bool × Addr)) (vss : List (List V)), us = l.map (fun q => V.ref q.2) ∧ (∀ μ1 H1, Le μ H μ1 H1 → SqA X.K H1 l vss) ∧ RVss X.K p.fa es μ H xss vss
  | [], us, xss, h, rr => by
    cases rr
    unfold seqsP at h
    cases h
    exact ⟨[], [], rfl, fun _ _ _ => .nil, .nil⟩
  | x :: r, us, xss, h, rr => by
    cases rr with | cons rx rs =>
    unfold seqsP at h
    cases er : seqsP r with
    | none => rw [er] at h; cases x <;> cases h
    | some t =>
      rw [er] at h
      obtain ⟨l, vss, eu, sq, rv⟩ := seqs_rv mu er rs
      cases x with
      | lst xs =>
        cases h
        cases rx with
        | lst s m r2 => exact ⟨(false, _) :: l, _ :: vss, by rw [eu]; rfl, fun μ1 H1 l' => .cons (.inl (l'.rd mu (.of s) fun k z => (mu k _ z).2 m)) (sq μ1 H1 l'), .cons r2 rv⟩
      | tup xs =>
        cases h
        cases rx with
        | tup s r2 => exact ⟨(true, _) :: l, _ :: vss, by rw [eu]; rfl, fun μ1 H1 l' => .cons (l'.sqt mu s.t) (sq μ1 H1 l'), .cons r2 rv⟩
      | _ => cases h
theorem snd_zipn (g : Good X p cy es W) {x : Str} {elts : List Expr} {kk : Nat} {tpos : Pos} {y : Expr} {r : List Expr} {ms : Es} (hx0 : x = "zip") (hx : globB cy x = true) (pl : (y :: r).all plainE = true) (ha : PA X (y :: r) (RdA X p es W ms)) : PI X (.Tuple elts kk tpos) (.Call (.Name x pp) (y :: r) [] pos) (RdI X p es W (.zipn ms)) := by
  subst hx0
  have hm : X.mg "zip" = none := g.blt _ (by decide)
  have pl' : plainE y = true ∧ r.all plainE = true := by simpa using pl
  refine (piZ4 rfl (g.glob hx) hm ha (plain_star pl'.1 _ _) (plain_any pl'.2)).imp fun s H R ⟨B, b, σ, h, μ, st, q⟩ => ?_
  unfold evI at q
  refine seqA st q fun xs h1 μ1 H1 vs l1 st1 rs q1 => ?_
  obtain ⟨z, ez, kz⟩ := Post.of q1
  have kz := kz μ1 H1 .refl st1.hr
  unfold zipnV at ez
  split at ez
  · rename_i xss es'
    split at ez
    · rename_i hl
      cases ez
      obtain ⟨l, vss, eu, sq, rv⟩ := seqs_rv st1.hr.mu es' rs
      have ll : l.length = 4 := by
        have := rs.length
        rw [eu, List.length_map] at this
        omega
      match l, ll with
      | [a, b, c, d], _ =>
        have sq0 := sq μ1 H1 .refl
        have ne : vss ≠ [] := by
          cases sq0 with
          | cons _ _ => simp
        exact ⟨a, b, c, d, vss, eu, sq0, kz _ (itr_zipN st1.hr.mu sq rv ne (line_le hl.2))⟩
    · cases ez
  · cases ez
/-! ### targets -/
mutual
/-- the slots that a target sets -/
def T.names : T → List Nat
  | .nm i => [i]
  | .tp ts => ts.names
  | .ix _ _ => []
  | .dix _ _ => []
def Ts.names : Ts → List Nat
  | .nil => []
  | .cons t ts => t.names ++ ts.names
end
def Chg (ns : List Nat) (s s' : L2.St) : Prop := s'.length = s.length ∧ ∀ i : Nat, i ∉ ns → s'[i]? = s[i]?
theorem Chg.wipe {ns vs : List Nat} {s s' : L2.St} (c : Chg ns s s') (h : ∀ i ∈ ns, i ∈ vs) : L2.wipe s' vs = L2.wipe s vs := by
  refine List.ext_getElem? fun i => ?_
  by_cases hi : i ∈ vs
  · have key : ∀ (σ : L2.St) (vs : List Nat), i ∈ vs → (L2.wipe σ vs)[i]? = if i < σ.length then some none else none := by
      intro σ vs
      induction vs with
      | nil => intro h; cases h
      | cons v vs ih =>
        intro hm
        unfold L2.wipe
        by_cases hv : v = i
        · subst hv
          rw [List.getElem?_set]
          simp [wipe_length]
        · rw [List.getElem?_set_ne hv]
          rcases List.mem_cons.mp hm with z | z
          · exact absurd z.symm hv
          · exact ih z
    rw [key s' vs hi, key s vs hi, c.1]
  · rw [wipe_out hi, wipe_out hi]
    exact c.2 i fun z => hi (h i z)
/-- an exception leaves a statement: the slots may have changed -/
def XS (p : Pk) (W : WX) : KX := fun c fs _ _ H' => ∀ cls d s', ExR p.ca p.cls H' c fs cls d → W cls d s' H'
theorem XS.xw {s : L2.St} {c : Nat} {fs : List PV} {h : Hs} {μ : Mu} {H : Hp} (x : XS p W c fs h μ H) : XW p W s c fs h μ H := fun cls d e => x cls d s e
def KG (X : Cx) (p : Pk) (es : List (Addr × Nat × Option Addr)) (ns : List Nat) (s : L2.St) (Q : L2.St → Hp → Prop) : KA En := fun σ' _ μ' H' => ∀ s', EnvR X.K p.fa es μ' H' σ' s' → Chg ns s s' → Q s' H'
def RdG (X : Cx) (p : Pk) (es : List (Addr × Nat × Option Addr)) (W : WX) (t : T) : TG := fun v s H Q => ∃ (B : Nat → Prop) (b : Nat) (σ : En) (h : Hs) (μ : Mu) (x : PV), Stt X.K p es B b σ h μ s H ∧ RV X.K p.fa es μ H x v ∧
  Post X.K p.fa B μ H (evT p.C b t x σ h) (KG X p es t.names s Q) (XS p W)
def RdGs (X : Cx) (p : Pk) (es : List (Addr × Nat × Option Addr)) (W : WX) (t : Ts) : TGs := fun vs s H Q => ∃ (B : Nat → Prop) (b : Nat) (σ : En) (h : Hs) (μ : Mu) (xs : List PV), Stt X.K p es B b σ h μ s H ∧ RVs X.K p.fa es μ H xs vs ∧
  Post X.K p.fa B μ H (evTs p.C b t xs σ h) (KG X p es t.names s Q) (XS p W)
theorem _root_.L2.PG.imp {e : Expr} {t t' : TG} (h : PG X e t) (i : ∀ v s H R, t' v s H R → t v s H R) : PG X e t' := ⟨fun pins s σ H v u R I r q => h.run pins s σ H v u R I r (i _ _ _ _ q)⟩
theorem _root_.L2.PGs.imp {e : List Expr} {t t' : TGs} (h : PGs X e t) (i : ∀ v s H R, t' v s H R → t v s H R) : PGs X e t' := ⟨fun pins s σ H v u R I r q => h.run pins s σ H v u R I r (i _ _ _ _ q)⟩
theorem chg_set {s : L2.St} {i : Nat} {v : Option V} : Chg [i] s (s.set i v) := ⟨by simp, fun j hj => by
  rw [List.getElem?_set_ne]
  intro e
  exact hj (by simp [e])⟩
theorem snd_nm (g : Good X p cy es W) {i : Nat} {x : Str} (hN : cy.N[i]? = some x) (hl : locB cy x = true) : PG X (.Name x pos) (RdG X p es W (.nm i)) :=
  (pg_name g.nd (by rw [g.N]; exact hN) (g.loc hl) (g.locF hl)).imp fun v s H Q ⟨B, b, σ, h, μ, y, st, rx, q⟩ => by
    unfold evT at q
    exact Post.here q st.hr _ (st.env.set rx i) chg_set
theorem snd_gnil : PGs X [] (RdGs X p es W .nil) := pgs_nil.imp fun v s H Q ⟨B, b, σ, h, μ, y, st, rx, q⟩ => by
  unfold evTs at q
  cases rx with
  | nil => exact ⟨rfl, Post.here q st.hr _ st.env ⟨rfl, fun _ _ => rfl⟩⟩
  | cons _ _ => exact q.elim
def plainT : Expr → Bool
  | .Name _ _ => true
  | .Tuple _ _ _ => true
  | .Subscript _ _ _ => true
  | .Attribute _ _ _ => true
  | _ => false
theorem plainT_each {e : Expr} (h : plainT e = true) (es : List Expr) (env : Env) : assignEach (e :: es) env = (false, assign e env) :: assignEach es env := by
  cases e <;> first | rfl | (simp [plainT] at h)
theorem snd_gcons {e : Expr} {es' : List Expr} {t : T} {ts : Ts} (pl : plainT e = true) (h1 : PG X e (RdG X p es W t)) (h2 : PGs X es' (RdGs X p es W ts)) : PGs X (e :: es') (RdGs X p es W (.cons t ts)) :=
  (pgs_cons h1 h2 (by rw [plainT_each pl]; rfl)).imp fun vs s H Q ⟨B, b, σ, h, μ, xs, st, rx, q⟩ => by
    unfold evTs at q
    cases xs with
    | nil => exact q.elim
    | cons x xs =>
      obtain ⟨v, vs, rfl, r, rr⟩ : ∃ v vs', vs = v :: vs' ∧ RV X.K p.fa es μ H x v ∧ RVs X.K p.fa es μ H xs vs' := by
        cases rx with
        | cons r rr => exact ⟨_, _, rfl, r, rr⟩
      have q : Post X.K p.fa B μ H ((evT p.C b t x σ h).bind fun σ h => evTs p.C b ts xs σ h) (KG X p es (Ts.cons t ts).names s Q) (XS p W) := q
      refine ⟨v, vs, rfl, B, b, σ, h, μ, x, st, r, q.bind.mono (fun σ1 h1 μ1 H1 l g z s1 e1 c1 => ?_) fun _ _ _ _ _ _ _ z => z⟩
      refine ⟨B, b, σ1, h1, μ1, xs, ⟨st.bB, Nat.le_trans st.bl l.len, e1, g⟩, rr.mono l st.hr.mu, z.mono (fun σ2 h2 μ2 H2 l2 g2 k s2 e2 c2 => k s2 e2 ⟨c2.1.trans c1.1, fun i hi => ?_⟩) fun _ _ _ _ _ _ _ z => z⟩
      have hi : i ∉ t.names ++ ts.names := hi
      rw [c2.2 i fun z => hi (List.mem_append_right _ z), c1.2 i fun z => hi (List.mem_append_left _ z)]
/-- a tuple of targets takes a tuple or a list -/
theorem pg_both {es : List Expr} {k : Nat} {t : TGs} {n : Nat} (hc : X.calm = true) (h : PGs X es t) (hn : (assignEach es X.env).length = n) (hst : (assignEach es X.env).findIdx? (·.1) = none) :
    PG X (.Tuple es k pos) (fun v σ H Q => gTup X.K n t v σ H Q ∨ gUnl X.K n t v σ H Q) := ⟨fun pins s σ H v u Q I r q => by
  rcases q with q | q
  · exact (pg_tup hc h hn hst).run pins s σ H v u Q I r q
  · exact (pg_unl hc h hn hst).run pins s σ H v u Q I r q⟩
theorem each_len {env : Env} : ∀ {l : List Expr}, l.all plainT = true → (assignEach l env).length = l.length ∧ (assignEach l env).findIdx? (·.1) = none
  | [], _ => ⟨rfl, rfl⟩
  | e :: r, h => by
    simp only [List.all_cons, Bool.and_eq_true] at h
    obtain ⟨a, b⟩ := each_len h.2
    rw [plainT_each h.1]
    refine ⟨by rw [List.length_cons, a, List.length_cons], ?_⟩
    rw [List.findIdx?_cons]
    simp [b]
theorem snd_tp (g : Good X p cy es W) (hc : cy.calm = true) {l : List Expr} {k : Nat} {ts : Ts} (pl : l.all plainT = true) (hl : l.length = ts.len) (h : PGs X l (RdGs X p es W ts)) : PG X (.Tuple l k pos) (RdG X p es W (.tp ts)) := by
  obtain ⟨h1, h2⟩ := each_len (env := X.env) pl
  refine (pg_both (g.calm hc).1 h (h1.trans hl) h2).imp fun v s H Q ⟨B, b, σ, h, μ, x, st, rx, q⟩ => ?_
  unfold evT at q
  cases x with
  | tup xs =>
    obtain ⟨ad, vs, rfl, sq, r⟩ := rx.tupI
    simp only [] at q
    split at q
    · rename_i hv
      exact .inl ⟨ad, vs, rfl, sq, by rw [← r.length]; exact hv, B, b, σ, h, μ, xs, st, r, q⟩
    · exact q.elim
  | lst xs =>
    obtain ⟨ad, vs, rfl, sq, m, r⟩ := rx.lstI
    simp only [] at q
    split at q
    · rename_i hv
      exact .inr ⟨ad, vs, rfl, .inl sq, by rw [← r.length]; exact hv, B, b, σ, h, μ, xs, st, r, q⟩
    · exact q.elim
  | _ => exact q.elim
end
end Mi
end

section
set_option Elab.async false
set_option linter.all false
set_option maxRecDepth 100000
set_option maxHeartbeats 4000000
/-! Snd9: comprehensions -/
namespace Mi
open PySem PySem.Spec PyProof.Rows L2
variable {X : Cx} {p : Pk} {cy : Cy} {es : List (Addr × Nat × Option Addr)} {W : WX}
/-! ### the new list of a comprehension is not seen by its elements -/
section
variable {K : PySem.W.Frag} {fa : Nat → Addr} {B : Nat → Prop} {h : Hs} {μ : Mu} {H : Hp} {D : Addr} {u : HO} {o : HO}
theorem sqt_off {a : Addr} {vs : List V} (e : H D = some u) (iu : isMu u = true) (s : SqT K H a vs) : SqT K (upd H D o) a vs := by
  rcases s with (s | ⟨ob, s⟩) | s
  · refine .inl (.inl ?_)
    rw [upd_ne]
    · exact s
    · rintro rfl; rw [e] at s; cases s; cases iu
  · refine .inl (.inr ⟨ob, ?_⟩)
    rw [upd_ne]
    · exact s
    · rintro rfl; rw [e] at s; cases s; cases iu
  · exact .inr s
theorem sqb_off {a : Addr} {vs : List V} (e : H D = some u) (iu : isMu u = true) (s : SqB K H a vs) : SqB K (upd H D o) a vs := by
  rcases s with ⟨ob, s, d⟩ | s
  · refine .inl ⟨ob, ?_, d⟩
    rw [upd_ne]
    · exact s
    · rintro rfl; rw [e] at s; cases s; cases iu
  · exact .inr s
theorem XF.off {d : Option Addr} {fs : List PV} (e : H D = some u) (iu : isMu u = true) (x : XF H d fs) : XF (upd H D o) d fs := by
  cases d with
  | none => exact x
  | some dd =>
    obtain ⟨i, e1, z⟩ := x
    refine ⟨i, e1, ?_⟩
    rw [upd_ne]
    · exact z
    · rintro rfl; rw [e] at z; cases z; cases iu
mutual
theorem RV.off (e : H D = some u) (iu : isMu u = true) (nf : ¬ μ.F D) : ∀ {x : PV} {v : V}, RV K fa es μ H x v → RV K fa es μ (upd H D o) x v
  | _, _, .non => .non
  | _, _, .bl b => .bl b
  | _, _, .int i => .int i
  | _, _, .str z => .str z
  | _, _, .tup s r => .tup (sqb_off e iu s) (RVs.off e iu nf r)
  | _, _, .lst (a := a) s f r => .lst (by
      have ne : a ≠ D := fun z => nf (z ▸ f)
      rw [upd_ne ne]; exact s) f (RVs.off e iu nf r)
  | _, _, .ref l m => .ref l m
  | _, _, .fn f => .fn f
  | _, _, .exc h x => .exc h (XF.off e iu x)
  | _, _, .scr (a := a) s => .scr (by
      rcases s with ⟨ob, s⟩ | s
      · refine .inl ⟨ob, ?_⟩
        rw [upd_ne]
        · exact s
        · rintro rfl; rw [e] at s; cases s; cases iu
      · exact .inr s)
  | _, _, .rng (a := a) s => .rng (by
      rw [upd_ne]
      · exact s
      · rintro rfl; rw [e] at s; cases s; cases iu)
  | _, _, .exo (a := a) f0 s f x => .exo f0 (by
      have ne : a ≠ D := fun z => nf (z ▸ f)
      rw [upd_ne ne]; exact s) f (XF.off e iu x)
  | _, _, .dct (a := a) s => .dct (by
      rw [upd_ne]
      · exact s
      · rintro rfl; rw [e] at s; cases s; cases iu)
theorem RVs.off (e : H D = some u) (iu : isMu u = true) (nf : ¬ μ.F D) : ∀ {x : List PV} {v : List V}, RVs K fa es μ H x v → RVs K fa es μ (upd H D o) x v
  | _, _, .nil => .nil
  | _, _, .cons r t => .cons (RV.off e iu nf r) (RVs.off e iu nf t)
end
theorem HR.off (g : HR K fa B h μ H) (e : H D = some u) (iu : isMu u = true) (nf : ¬ μ.F D) (nl : ∀ n : Nat, μ.l[n]? ≠ some (some D)) : HR K fa B h μ (upd H D o) := by
  refine ⟨fun n a q => ?_, g.len, fun n ob q nd => ?_, g.inj, fun a q => ?_, g.lows⟩
  · obtain ⟨⟨ob, z, i⟩, f⟩ := g.mu n a q
    have ne : a ≠ D := fun y => nl n (y ▸ q)
    exact ⟨⟨ob, by rw [upd_ne ne]; exact z, i⟩, f⟩
  · obtain ⟨a, z, r⟩ := g.obj n ob q nd
    refine ⟨a, z, ?_⟩
    cases ob with
    | lst xs =>
      obtain ⟨vs, h1, r⟩ := r
      have ne : a ≠ D := fun y => nl n (y ▸ z)
      exact ⟨vs, by rw [upd_ne ne]; exact h1, r.off e iu nf⟩
    | dic _ =>
      obtain ⟨ks, h1, ek, r⟩ := r
      have ne : a ≠ D := fun y => nl n (y ▸ z)
      exact ⟨ks, by rw [upd_ne ne]; exact h1, ek, r.off e iu nf⟩
    | dit _ =>
      obtain ⟨ks, h1, ek, r⟩ := r
      have ne : a ≠ D := fun y => nl n (y ▸ z)
      exact ⟨ks, by rw [upd_ne ne]; exact h1, ek, r.off e iu nf⟩
    | diu _ =>
      obtain ⟨ks, h1, ek, r⟩ := r
      have ne : a ≠ D := fun y => nl n (y ▸ z)
      exact ⟨ks, by rw [upd_ne ne]; exact h1, ek, r.off e iu nf⟩
    | dead => exact r
  · obtain ⟨ob, z⟩ := g.fd a q
    have ne : a ≠ D := fun y => nf (y ▸ q)
    exact ⟨ob, by rw [upd_ne ne]; exact z⟩
theorem Le.off {μ0 : Mu} {H0 : Hp} (l : Le μ0 H0 μ H) (n : H0 D = Option.none) : Le μ0 H0 μ (upd H D o) :=
  ⟨fun a ob q => by
    have ne : a ≠ D := ne_of_none q n
    rcases l.keep a ob q with z | z
    · exact .inl z
    · exact .inr (by rw [upd_ne ne]; exact z), fun a ob q => by
    have ne : a ≠ D := ne_of_none q n
    obtain ⟨o', z⟩ := l.dom a ob q
    exact ⟨o', by rw [upd_ne ne]; exact z⟩, l.liv, l.len, l.fz, l.nf⟩
/-- a list that was made since is neither live nor fixed, later on -/
theorem Le.nl {μ1 : Mu} {H1 : Hp} (l : Le μ H μ1 H1) (e : H D = some o) (nl : ∀ n : Nat, μ.l[n]? ≠ some (some D)) : ∀ n : Nat, μ1.l[n]? ≠ some (some D) := fun n q => by
  rcases l.liv n D q with z | ⟨_, z⟩
  · exact nl n z
  · rw [e] at z; cases z
theorem Le.nfz {μ1 : Mu} {H1 : Hp} (l : Le μ H μ1 H1) (e : H D = some o) (nl : ∀ n : Nat, μ.l[n]? ≠ some (some D)) (nf : ¬ μ.F D) : ¬ μ1.F D := fun q => by
  rcases l.nf D q with z | z | ⟨n, z⟩
  · exact nf z
  · rw [e] at z; cases z
  · exact nl n z
end
def XN : KX := fun _ _ _ _ _ => False
section
variable {α β : Type} {K : PySem.W.Frag} {fa : Nat → Addr} {B : Nat → Prop} {μ μ' : Mu} {H H' : Hp} {r : R α} {f : α → Hs → R β} {k : KA β} {x : KX}
/-- the rules of sequence with the starting state kept -/
theorem Post.bind0 (q : Post K fa B μ H (r.bind f) k x) : Post K fa B μ H r (fun a h _ _ => Post K fa B μ H (f a h) k x) x := by
  cases r with
  | bad => exact q
  | exc c fs h => exact q
  | ok a h => exact fun _ _ _ _ => q
theorem Post.calm0 (q : Post K fa B μ H (r.bind f).calm k x) : Post K fa B μ H r (fun a h _ _ => Post K fa B μ H (f a h).calm k x) XN := by
  cases r with
  | bad => exact q
  | exc c fs h => exact False.elim q
  | ok a h => exact fun _ _ _ _ => q
theorem Post.later {k : KA α} (q : Post K fa B μ H r k x) (l : Le μ H μ' H') : Post K fa B μ' H' r k x := by
  cases r with
  | bad => exact q
  | exc c fs h => exact fun μ2 H2 l2 g2 => q μ2 H2 (l.trans l2) g2
  | ok a h => exact fun μ2 H2 l2 g2 => q μ2 H2 (l.trans l2) g2
end
def WN : WX := fun _ _ _ _ => False
theorem xn_xw {s : L2.St} {c : Nat} {fs : List PV} {h : Hs} {μ : Mu} {H : Hp} (x : XN c fs h μ H) : XW p WN s c fs h μ H := x.elim
theorem xn_xs {c : Nat} {fs : List PV} {h : Hs} {μ : Mu} {H : Hp} (x : XN c fs h μ H) : XS p WN c fs h μ H := x.elim
/-- a comprehension's test -/
def RdC (X : Cx) (p : Pk) (es : List (Addr × Nat × Option Addr)) (m : Es) : TT := fun s H Q => ∃ (B : Nat → Prop) (b : Nat) (σ : En) (h : Hs) (μ : Mu), Stt X.K p es B b σ h μ s H ∧
  Post X.K p.fa B μ H (evC p.C b m σ h) (fun c _ _ H' => Q c H') XN
section
variable {a tg iter elt : Expr} {ifs : List Expr} {pos : Pos} {l : E} {it : I} {t : T} {cs : Es} {scope : Scope} {own : List (Str × Nat)}
theorem compL_app (f : PV → Hs → R (Option PV)) : ∀ (xs : List PV) (acc : List PV) (h : Hs) (x : PV), ((compL f (x :: xs) h).bind fun vs h => R.ok (acc ++ vs) h) = (f x h).bind fun o h => (compL f xs h).bind fun vs h => R.ok ((acc ++ o.toList) ++ vs) h := fun xs acc h x => by
  show ((f x h).bind fun o h => (compL f xs h).bind fun vs h => R.ok (o.toList ++ vs) h).bind _ = _
  cases f x h with
  | bad => rfl
  | exc c fs h => rfl
  | ok o h =>
    show ((compL f xs h).bind fun vs h => R.ok (o.toList ++ vs) h).bind _ = (compL f xs h).bind _
    cases compL f xs h with
    | bad => rfl
    | exc c fs h => rfl
    | ok vs h => show R.ok (acc ++ (o.toList ++ vs)) h = R.ok ((acc ++ o.toList) ++ vs) h; rw [List.append_assoc]
theorem snd_comp (g : Good X p cy es W) (hc : cy.calm = true) (hi : PI X tg iter (RdI X p es W it)) (ok : BlkOk X.N X.env.scope scope own) (hn : ∀ i ∈ t.names, i ∈ own.map (·.2))
    (hg : ∀ (s : Shared) (H : Hp) (C : Addr) (cl : List (Str × Addr)) (fp : List Addr), PG (X.blk s H scope (compEnvC scope cl C X.env) fp) tg (RdG X p es WN t))
    (ht : ∀ (s : Shared) (H : Hp) (C : Addr) (cl : List (Str × Addr)) (fp : List Addr), PTs (X.blk s H scope (compEnvC scope cl C X.env) fp) ifs (RdC X p es cs))
    (he : ∀ (s : Shared) (H : Hp) (C : Addr) (cl : List (Str × Addr)) (fp : List Addr), PE (X.blk s H scope (compEnvC scope cl C X.env) fp) elt (RdE X p es WN l)) (hs : plainE iter = true) :
    (∀ s H Q, RdF X p es W (.comp t it cs l (own.map (·.2))) s H Q → tLc (RdI X p es W it) (RdG X p es WN t) (RdC X p es cs) (RdE X p es WN l) (own.map (·.2)) s H Q) ∧
    PE X (.ListComp elt [⟨tg, iter, ifs, 0⟩] scope pos) (RdF X p es W (.comp t it cs l (own.map (·.2)))) := by
  have imp : ∀ s H Q, RdF X p es W (.comp t it cs l (own.map (·.2))) s H Q → tLc (RdI X p es W it) (RdG X p es WN t) (RdC X p es cs) (RdE X p es WN l) (own.map (·.2)) s H Q := fun s H Q ⟨B, b, σ, h, μ, st, q⟩ => by
    unfold evF at q
    refine ⟨B, b, σ, h, μ, st, q.bind.mono (fun xs h1 μ1 H1 l1 g1 q1 J ir => ?_) fun _ _ _ _ _ _ _ z => z⟩
    have st1 := st.next l1 g1
    intro D nD
    generalize hf : (fun (x : PV) (h : Hs) => (evT p.C b t x (Mi.wipe σ (own.map (·.2))) h).bind fun σ' h => (evC p.C b cs σ' h).bind fun q h => if q then (evE p.C b l σ' h).bind fun v h => R.ok (some v) h else R.ok none h) = f at q1
    have q1 : Post X.K p.fa B μ1 H1 (compL f xs h1).calm (KF X p es H Q) (XW p W s) := q1
    refine ⟨fun i m H' => ∃ (hh : Hs) (μ' : Mu) (acc : List PV) (av : List V), m = xs.length - i ∧ i ≤ xs.length ∧ acc.length ≤ i ∧ H' D = some (.lst av) ∧ RVs X.K p.fa es μ' H' acc av ∧ (∀ n : Nat, μ'.l[n]? ≠ some (some D)) ∧ ¬ μ'.F D ∧ HR X.K p.fa B hh μ' H' ∧ Le μ1 H1 μ' H' ∧
      Post X.K p.fa B μ1 H1 (((compL f (xs.drop i) hh).bind fun vs h => R.ok (acc ++ vs) h).calm) (KF X p es H Q) (XW p W s), ⟨xs.length, h1, μ1, [], [], by simp, Nat.zero_le _, Nat.le_refl _, upd_same, .nil, g1.mu.none nD, g1.nofz nD, g1.same (same_new nD), Le.same (same_new nD), ?_⟩, ?_⟩
    · have e : ((compL f xs h1).bind fun vs h => R.ok ([] ++ vs) h) = compL f xs h1 := by cases compL f xs h1 <;> rfl
      show Post X.K p.fa B μ1 H1 (((compL f xs h1).bind fun vs h => R.ok ([] ++ vs) h).calm) _ _
      rw [e]
      exact q1
    · rintro i m H' ⟨hh, μ', acc, av, rfl, hi, hal, eD, ra, nl, nf, g', l', q'⟩
      by_cases hlt : i < xs.length
      · have hx : xs[i]? = some xs[i] := List.getElem?_eq_getElem hlt
        rw [List.drop_eq_getElem_cons hlt, compL_app] at q'
        refine .inr ⟨ir.go i _ μ' H' l' hx, fun H'' => ∃ (hh : Hs) (μ' : Mu) (acc : List PV) (av : List V), acc.length ≤ i + 1 ∧ H'' D = some (.lst av) ∧ RVs X.K p.fa es μ' H'' acc av ∧ (∀ n : Nat, μ'.l[n]? ≠ some (some D)) ∧ ¬ μ'.F D ∧ HR X.K p.fa B hh μ' H'' ∧ Le μ1 H1 μ' H'' ∧
          Post X.K p.fa B μ1 H1 (((compL f (xs.drop (i + 1)) hh).bind fun vs h => R.ok (acc ++ vs) h).calm) (KF X p es H Q) (XW p W s), fun H'' ⟨hh, μ', acc, av, a1, a2, a3, a4, a5, a6, a7, a8⟩ => ⟨xs.length - (i + 1), by omega, hh, μ', acc, av, rfl, hlt, a1, a2, a3, a4, a5, a6, a7, a8⟩, fun v H2 hy => ?_⟩
        obtain ⟨sm, rv⟩ := ir.yld i _ v μ' H' H2 l' g'.mu hx hy
        have g2 := g'.same sm
        have l2 := l'.trans (Le.same sm)
        have ra2 := ra.mono (Le.same sm) g'.mu
        have eD2 := sm _ _ eD
        -- the element's run
        have q2 := q'.calm0
        subst hf
        have q3 : Post X.K p.fa B μ1 H1 ((evT p.C b t xs[i] (Mi.wipe σ (own.map (·.2))) hh).bind fun σ' h => (evC p.C b cs σ' h).bind fun q h => if q then (evE p.C b l σ' h).bind fun v h => R.ok (some v) h else R.ok none h) _ XN := q2
        have env0 : EnvR X.K p.fa es μ' H' (Mi.wipe σ (own.map (·.2))) (L2.wipe s (own.map (·.2))) := (st1.env.mono l' st1.hr.mu).wipe _
        have bl' : b ≤ μ'.l.length := Nat.le_trans st1.bl l'.len
        refine ⟨B, b, _, hh, μ', xs[i], ⟨st.bB, bl', env0.mono (Le.same sm) g'.mu, g2⟩, rv, ?_⟩
        have q4' := (q3.bind0).later l2
        refine q4'.mono (fun σ3 h3 μ3 H3 l3 g3 q5 s3 env3 ch3 => ?_) fun _ _ _ _ _ _ _ z => z.elim
        refine ⟨ch3.wipe hn |>.trans (wipe_wipe s _), B, b, σ3, h3, μ3, ⟨st.bB, Nat.le_trans bl' l3.len, env3, g3⟩, ((q5.bind0).later (l2.trans l3)).mono (fun c h4 μ4 H4 l4 g4 q6 => ?_) fun _ _ _ _ _ _ _ z => z⟩
        have nl3 := l3.nl eD2 nl
        have nf3 := l3.nfz eD2 nl nf
        obtain ⟨e3⟩ : ∃ _ : H3 D = some (.lst av), True := ⟨(l3.keep D _ eD2).elim (fun ⟨n, z⟩ => absurd z (nl n)) id, trivial⟩
        have nl4 := l4.nl e3 nl3
        have nf4 := l4.nfz e3 nl3 nf3
        have e4 : H4 D = some (.lst av) := (l4.keep D _ e3).elim (fun ⟨n, z⟩ => absurd z (nl3 n)) id
        have ra4 := (ra2.mono l3 g2.mu).mono l4 g3.mu
        cases c with
        | false =>
          have q7 : Post X.K p.fa B μ1 H1 (((compL _ (xs.drop (i + 1)) h4).bind fun vs h => R.ok ((acc ++ (none : Option PV).toList) ++ vs) h).calm) (KF X p es H Q) (XW p W s) := q6 μ4 H4 ((l2.trans l3).trans l4) g4
          simp only [Option.toList_none, List.append_nil] at q7
          exact ⟨h4, μ4, acc, av, by omega, e4, ra4, nl4, nf4, g4, (l2.trans l3).trans l4, q7⟩
        | true =>
          have q6 : Post X.K p.fa B μ1 H1 ((evE p.C b l σ3 h4).bind fun v h => R.ok (some v) h) _ _ := q6
          show RdE X p es WN l s3 H4 _
          refine ⟨B, b, σ3, h4, μ4, ⟨st.bB, Nat.le_trans (Nat.le_trans bl' l3.len) l4.len, env3.mono l4 g3.mu, g4⟩, ((q6.bind0).later ((l2.trans l3).trans l4)).mono (fun z h5 μ5 H5 l5 g5 q7 w rw' => ?_) fun _ _ _ _ _ _ _ z => z.elim⟩
          have nl5 := l5.nl e4 nl4
          have nf5 := l5.nfz e4 nl4 nf4
          have e5 : H5 D = some (.lst av) := (l5.keep D _ e4).elim (fun ⟨n, z⟩ => absurd z (nl4 n)) id
          have ra5 := ra4.mono l5 g4.mu
          have len5 : av.length = acc.length := ra5.length.symm
          refine ⟨av, e5, Nat.lt_of_lt_of_le (by omega) ir.lim, h5, μ5, acc ++ [z], av ++ [w], by simp; omega, upd_same, (ra5.append (.cons rw' .nil)).off e5 rfl nf5, nl5, nf5, g5.off e5 rfl nf5 nl5, (((l2.trans l3).trans l4).trans l5).off nD, ?_⟩
          have q8 : Post X.K p.fa B μ1 H1 (((compL _ (xs.drop (i + 1)) h5).bind fun vs h => R.ok ((acc ++ (some z).toList) ++ vs) h).calm) (KF X p es H Q) (XW p W s) := q7 μ5 H5 (((l2.trans l3).trans l4).trans l5) g5
          simpa only [Option.toList_some] using q8
      · have e : i = xs.length := by omega
        subst e
        refine .inl ⟨ir.stop μ' H' l', ?_⟩
        rw [List.drop_length] at q'
        have q' : ∀ μ2 H2, Le μ1 H1 μ2 H2 → HR X.K p.fa B hh μ2 H2 → KF X p es H Q (acc ++ []) hh μ2 H2 := q'
        rw [List.append_nil] at q'
        exact q' μ' H' l' g' D av (l1.none nD) eD nl nf ra
  exact ⟨imp, (pe_lc (g.calm hc).1 g.nd hi ok hg ht he (fun x => plain_fold hs _ _)).imp imp⟩
where
  wipe_wipe (s : L2.St) (vs : List Nat) : L2.wipe (L2.wipe s vs) vs = L2.wipe s vs := by
    refine List.ext_getElem? fun i => ?_
    by_cases hi : i ∈ vs
    · have key : ∀ (σ : L2.St) (vs : List Nat), i ∈ vs → (L2.wipe σ vs)[i]? = if i < σ.length then some none else none := by
        intro σ vs
        induction vs with
        | nil => intro h; cases h
        | cons v vs ih =>
          intro hm
          unfold L2.wipe
          by_cases hv : v = i
          · subst hv
            rw [List.getElem?_set]
            simp [wipe_length]
          · rw [List.getElem?_set_ne hv]
            rcases List.mem_cons.mp hm with z | z
            · exact absurd z.symm hv
            · exact ih z
      rw [key _ vs hi, key s vs hi, wipe_length]
    · rw [wipe_out hi]
end
end Mi
end

section
set_option Elab.async false
set_option linter.all false
set_option maxRecDepth 100000
set_option maxHeartbeats 4000000
/-! Snd10: statements -/
namespace Mi
open PySem PySem.Spec PyProof.Rows L2
variable {X : Cx} {p : Pk} {cy : Cy} {es : List (Addr × Nat × Option Addr)} {W : WX}
def KS (X : Cx) (p : Pk) (es : List (Addr × Nat × Option Addr)) (D : Ends) : KA Fl := fun fl _ μ' H' => match fl with
  | .nx σ' => ∀ s', EnvR X.K p.fa es μ' H' σ' s' → D.nx s' H'
  | .rt v => ∀ w, RV X.K p.fa es μ' H' v w → D.rt w H'
  | .bk σ' => ∀ s', EnvR X.K p.fa es μ' H' σ' s' → D.bk s' H'
  | .ct σ' => ∀ s', EnvR X.K p.fa es μ' H' σ' s' → D.ct s' H'
def RdS (X : Cx) (p : Pk) (es : List (Addr × Nat × Option Addr)) (W : WX) (m : St) : TS := fun D s H => ∃ (B : Nat → Prop) (b : Nat) (σ : En) (h : Hs) (μ : Mu), Stt X.K p es B b σ h μ s H ∧
  Post X.K p.fa B μ H (evS p.C b m σ h) (KS X p es D) (XS p W)
def RdB (X : Cx) (p : Pk) (es : List (Addr × Nat × Option Addr)) (W : WX) (m : Bl) : TS := fun D s H => ∃ (B : Nat → Prop) (b : Nat) (σ : En) (h : Hs) (μ : Mu), Stt X.K p es B b σ h μ s H ∧
  Post X.K p.fa B μ H (evBl p.C b m σ h) (KS X p es D) (XS p W)
theorem _root_.L2.PS.imp {e : Stmt} {t t' : TS} (h : PS X e t) (i : ∀ D s H, t' D s H → t D s H) : PS X e t' := ⟨fun pins s σ H D I q => h.run pins s σ H D I (i _ _ _ q)⟩
theorem _root_.L2.PSs.imp {e : List Stmt} {t t' : TS} (h : PSs X e t) (i : ∀ D s H, t' D s H → t D s H) : PSs X e t' := ⟨fun pins s σ H D I q => h.run pins s σ H D I (i _ _ _ q)⟩
section
variable {B : Nat → Prop} {b : Nat} {σ : En} {h : Hs} {μ : Mu} {s : L2.St} {H : Hp}
theorem Post.xs {α : Type} {r : R α} {k : KA α} (q : Post X.K p.fa B μ H r k (XS p W)) : Post X.K p.fa B μ H r k (XW p W s) := q.mono (fun _ _ _ _ _ _ z => z) fun _ _ _ _ _ _ _ z => z.xw
theorem Post.xw {α : Type} {r : R α} {k : KA α} (q : Post X.K p.fa B μ H r k (XS p W)) : True := trivial
/-- the first of two; what is left bears exceptions at any slots -/
theorem seqS {β : Type} {m : E} {f : PV → Hs → R β} {k : KA β} (st : Stt X.K p es B b σ h μ s H) (q : Post X.K p.fa B μ H ((evE p.C b m σ h).bind f) k (XS p W)) {Q : VK}
    (hQ : ∀ x h1 μ1 H1 v, Le μ H μ1 H1 → Stt X.K p es B b σ h1 μ1 s H1 → RV X.K p.fa es μ1 H1 x v → Post X.K p.fa B μ1 H1 (f x h1) k (XS p W) → Q v H1) : RdE X p es W m s H Q :=
  ⟨B, b, σ, h, μ, st, q.bind.mono (fun x h1 μ1 H1 l g z v r => hQ x h1 μ1 H1 v l (st.next l g) r z) fun _ _ _ _ _ _ _ z => z.xw⟩
theorem seqST {β : Type} {m : E} {f : PV → Hs → R β} {k : KA β} (st : Stt X.K p es B b σ h μ s H) (q : Post X.K p.fa B μ H ((evE p.C b m σ h).bind f) k (XS p W)) {Q : Bool → Hp → Prop}
    (hf : ∀ x h, (∀ c, x ≠ .bl c) → f x h = .bad) (hQ : ∀ c h1 μ1 H1, Le μ H μ1 H1 → Stt X.K p es B b σ h1 μ1 s H1 → Post X.K p.fa B μ1 H1 (f (.bl c) h1) k (XS p W) → Q c H1) : RdT X p es W m s H Q :=
  ⟨B, b, σ, h, μ, st, q.bind.mono (fun x h1 μ1 H1 l g z => by
    by_cases hc : ∃ c, x = .bl c
    · obtain ⟨c, rfl⟩ := hc
      exact ⟨c, rfl, hQ c h1 μ1 H1 l (st.next l g) z⟩
    · rw [hf x h1 fun c e => hc ⟨c, e⟩] at z
      exact z.elim) fun _ _ _ _ _ _ _ z => z.xw⟩
end
section
variable {a tg e c : Expr} {pos : Pos} {l m : E} {t : T} {b1 b2 : Bl} {s1 s2 : List Stmt} {it : I}
theorem snd_expr (g : Good X p cy es W) (pl : plainE e = true) (nl : isLC e = false) (he : PE X e (RdE X p es W l)) : PS X (.Expr e pos) (RdS X p es W (.expr l)) :=
  (ps_expr he (plain_swap pl nl _ _ _)).imp fun D s H ⟨B, b, σ, h, μ, st, q⟩ => by
    unfold evS at q
    exact seqS st q fun x h1 μ1 H1 v l1 st1 rx q1 => Post.here q1 st1.hr _ st1.env
theorem imp_asg : ∀ D s H, RdS X p es W (.asg t l) D s H → tAsg (RdE X p es W l) (RdG X p es W t) D s H := fun D s H ⟨B, b, σ, h, μ, st, q⟩ => by
  unfold evS at q
  exact seqS st q fun x h1 μ1 H1 v l1 st1 rx q1 => ⟨B, b, σ, h1, μ1, x, st1, rx, q1.bind.mono (fun σ2 h2 μ2 H2 l2 g2 z s' e' _ => Post.here z g2 s' e') fun _ _ _ _ _ _ _ z => z⟩
def noTup : Expr → Bool
  | .Tuple _ _ _ => false
  | .List _ _ => false
  | _ => true
theorem noswap {tg e : Expr} {env : Env} (h : noTup tg = true ∨ noTup e = true) : swappedStores [tg] e env = pure none := by
  rcases h with h | h
  · cases tg <;> first | rfl | (simp [noTup] at h)
  · cases e <;> first | (simp [noTup] at h; done) | (cases tg <;> rfl)
theorem tgt1 {tg : Expr} (h : plainT tg = true) (env : Env) : (assignEach [tg] env).map (·.2) = [assign tg env] := by
  rw [plainT_each h]; rfl
/-- target = e, e no comprehension, not a tuple to names -/
theorem snd_asg (pl : plainE e = true) (nl : isLC e = false) (pt : plainT tg = true) (hw : swappedStores [tg] e X.env = pure none) (he : PE X e (RdE X p es W l)) (hg : PG X tg (RdG X p es W t)) : PS X (.Assign [tg] e pos) (RdS X p es W (.asg t l)) :=
  (ps_asg he hg (by show swapsWith e (some tg) pos.line X.env = _; exact plain_swap pl nl _ _ _) hw (tgt1 pt _)).imp imp_asg
/-- a comprehension to a name or a tuple of names -/
theorem lc_swap {elt : Expr} {gs : List Comprehension} {sc : Scope} {ps : Pos} {tg : Expr} (h : noTup tg = false) (ln : Nat) (env : Env) : swapsWith (.ListComp elt gs sc ps) (some tg) ln env = pure false := by
  cases tg <;> first | rfl | (simp [noTup] at h)
theorem snd_asgLC {elt : Expr} {gs : List Comprehension} {sc : Scope} {ps : Pos} (nt : noTup tg = false) (pt : plainT tg = true) (he : PE X (.ListComp elt gs sc ps) (RdE X p es W l)) (hg : PG X tg (RdG X p es W t)) : PS X (.Assign [tg] (.ListComp elt gs sc ps) pos) (RdS X p es W (.asg t l)) :=
  (ps_asg he hg (lc_swap nt _ _) (noswap (.inr rfl)) (tgt1 pt _)).imp imp_asg
theorem snd_ret (he : PE X e (RdE X p es W l)) : PS X (.Return (some e) pos) (RdS X p es W (.ret l)) :=
  (ps_ret he).imp fun D s H ⟨B, b, σ, h, μ, st, q⟩ => by
    unfold evS at q
    exact seqS st q fun x h1 μ1 H1 v l1 st1 rx q1 => Post.here q1 st1.hr _ rx
theorem snd_retN : PS X (.Return none pos) (RdS X p es W .retN) := ps_retN.imp fun D s H ⟨B, b, σ, h, μ, st, q⟩ => by
  unfold evS at q
  exact Post.here q st.hr _ .non
theorem snd_pass : PS X (.Pass pos) (RdS X p es W .pass) := ps_pass.imp fun D s H ⟨B, b, σ, h, μ, st, q⟩ => by
  unfold evS at q
  exact Post.here q st.hr _ st.env
theorem snd_brk : PS X (.Break pos) (RdS X p es W .brk) := ps_break.imp fun D s H ⟨B, b, σ, h, μ, st, q⟩ => by
  unfold evS at q
  exact Post.here q st.hr _ st.env
theorem snd_cont : PS X (.Continue pos) (RdS X p es W .cont) := ps_continue.imp fun D s H ⟨B, b, σ, h, μ, st, q⟩ => by
  unfold evS at q
  exact Post.here q st.hr _ st.env
theorem snd_bnil : PSs X [] (RdB X p es W .nil) := pss_nil.imp fun D s H ⟨B, b, σ, h, μ, st, q⟩ => by
  unfold evBl at q
  exact Post.here q st.hr _ st.env
theorem snd_bcons {st0 : Stmt} {m : St} (h1 : PS X st0 (RdS X p es W m)) (h2 : PSs X s1 (RdB X p es W b1)) : PSs X (st0 :: s1) (RdB X p es W (.cons m b1)) :=
  (pss_cons h1 h2).imp fun D s H ⟨B, b, σ, h, μ, st, q⟩ => by
    unfold evBl at q
    refine ⟨B, b, σ, h, μ, st, q.bind.mono (fun fl h1 μ1 H1 l g z => ?_) fun _ _ _ _ _ _ _ z => z⟩
    cases fl with
    | nx σ' => exact fun s' e' => ⟨B, b, σ', h1, μ1, ⟨st.bB, Nat.le_trans st.bl l.len, e', g⟩, z⟩
    | rt v => exact (show Post X.K p.fa B μ1 H1 (R.ok (Fl.rt v) h1) (KS X p es D) (XS p W) from z) μ1 H1 .refl g
    | bk σ' => exact (show Post X.K p.fa B μ1 H1 (R.ok (Fl.bk σ') h1) (KS X p es D) (XS p W) from z) μ1 H1 .refl g
    | ct σ' => exact (show Post X.K p.fa B μ1 H1 (R.ok (Fl.ct σ') h1) (KS X p es D) (XS p W) from z) μ1 H1 .refl g
theorem snd_if (hc : PT X c (RdT X p es W l)) (h1 : PSs X s1 (RdB X p es W b1)) (h2 : PSs X s2 (RdB X p es W b2)) : PS X (.If c s1 s2 pos) (RdS X p es W (.ifs l b1 b2)) :=
  (ps_if hc h1 h2).imp fun D s H ⟨B, b, σ, h, μ, st, q⟩ => by
    unfold evS at q
    refine seqST st q (fun x h hx => ?_) fun c h1 μ1 H1 l1 st1 q1 => ?_
    · cases x <;> first | rfl | exact absurd rfl (hx _)
    · cases c with
      | true => exact ⟨B, _, σ, h1, μ1, st1, q1⟩
      | false => exact ⟨B, _, σ, h1, μ1, st1, q1⟩
theorem snd_for (g : Good X p cy es W) (pl : plainE e = true) (hc : cy.calm = true) (hi : PI X tg e (RdI X p es W it)) (hg : PG X tg (RdG X p es W t)) (hb : PSs X s1 (RdB X p es W b1)) : PS X (.For tg e s1 [] pos) (RdS X p es W (.for_ t it b1)) :=
  (ps_for g.po (g.calm hc).1 hi hg hb (hs := fun x => plain_fold pl _ _)).imp fun D s H ⟨B, b, σ, h, μ, st, q⟩ => by
    unfold evS at q
    refine ⟨B, b, σ, h, μ, st, q.bind.mono (fun xs h1 μ1 H1 l1 g1 q1 J ir => ?_) fun _ _ _ _ _ _ _ z => z.xw⟩
    have st1 := st.next l1 g1
    generalize hf : (fun (v : PV) (σ : En) (h : Hs) => (evT p.C b t v σ h).bind fun σ h => evBl p.C b b1 σ h) = f at q1
    refine ⟨fun i m s' H' => ∃ (hh : Hs) (μ' : Mu) (σ' : En), m = xs.length - i ∧ i ≤ xs.length ∧ Stt X.K p es B b σ' hh μ' s' H' ∧ Le μ1 H1 μ' H' ∧ Post X.K p.fa B μ' H' (forL f (xs.drop i) σ' hh) (KS X p es D) (XS p W), ⟨xs.length, h1, μ1, σ, by simp, Nat.zero_le _, st1, .refl, q1⟩, ?_⟩
    rintro i m s' H' ⟨hh, μ', σ', rfl, hi, st', l', q'⟩
    by_cases hlt : i < xs.length
    · have hx : xs[i]? = some xs[i] := List.getElem?_eq_getElem hlt
      rw [List.drop_eq_getElem_cons hlt] at q'
      have q' : Post X.K p.fa B μ' H' ((f xs[i] σ' hh).bind fun fl h => match fl with
        | .nx σ' => forL f (xs.drop (i + 1)) σ' h
        | .ct σ' => forL f (xs.drop (i + 1)) σ' h
        | .bk σ' => .ok (.nx σ') h
        | .rt v => .ok (.rt v) h) (KS X p es D) (XS p W) := q'
      refine .inr ⟨ir.go i _ μ' H' l' hx, fun s'' H'' => ∃ (hh : Hs) (μ' : Mu) (σ' : En), Stt X.K p es B b σ' hh μ' s'' H'' ∧ Le μ1 H1 μ' H'' ∧ Post X.K p.fa B μ' H'' (forL f (xs.drop (i + 1)) σ' hh) (KS X p es D) (XS p W),
        fun s'' H'' ⟨hh, μ', σ', a1, a2, a3⟩ => ⟨xs.length - (i + 1), by omega, hh, μ', σ', rfl, hlt, a1, a2, a3⟩, fun v H2 hy => ?_⟩
      obtain ⟨sm, rv⟩ := ir.yld i _ v μ' H' H2 l' st'.hr.mu hx hy
      have l2 := l'.trans (Le.same sm)
      have st2 := st'.same sm
      have q2 := q'.bind.later (Le.same sm)
      subst hf
      have q3 : Post X.K p.fa B μ' H2 ((evT p.C b t xs[i] σ' hh).bind fun σ h => evBl p.C b b1 σ h) _ (XS p W) := q2
      refine ⟨B, b, σ', hh, μ', xs[i], st2, rv, q3.bind.mono (fun σ3 h3 μ3 H3 l3 g3 q4 s3 e3 _ => ?_) fun _ _ _ _ _ _ _ z => z⟩
      refine ⟨B, b, σ3, h3, μ3, ⟨st.bB, Nat.le_trans st2.bl l3.len, e3, g3⟩, q4.mono (fun fl h4 μ4 H4 l4 g4 q5 => ?_) fun _ _ _ _ _ _ _ z => z⟩
      have bl4 : b ≤ μ4.l.length := Nat.le_trans (Nat.le_trans st2.bl l3.len) l4.len
      have l5 := (l2.trans l3).trans l4
      cases fl with
      | nx σ5 => exact fun s5 e5 => ⟨h4, μ4, σ5, ⟨st.bB, bl4, e5, g4⟩, l5, q5⟩
      | ct σ5 => exact fun s5 e5 => ⟨h4, μ4, σ5, ⟨st.bB, bl4, e5, g4⟩, l5, q5⟩
      | bk σ5 => exact (show Post X.K p.fa B μ4 H4 (R.ok (Fl.nx σ5) h4) (KS X p es D) (XS p W) from q5) μ4 H4 .refl g4
      | rt w => exact (show Post X.K p.fa B μ4 H4 (R.ok (Fl.rt w) h4) (KS X p es D) (XS p W) from q5) μ4 H4 .refl g4
    · have e : i = xs.length := by omega
      subst e
      refine .inl ⟨ir.stop μ' H' l', ?_⟩
      rw [List.drop_length] at q'
      exact Post.here q' st'.hr s' st'.env
theorem snd_while (g : Good X p cy es W) (hc : PT X c (RdT X p es W l)) (hb : PSs X s1 (RdB X p es W b1)) : PS X (.While c s1 [] pos) (RdS X p es W (.whl l b1)) :=
  (ps_while g.po hc hb).imp fun D s H ⟨B, b, σ, h, μ, st, q⟩ => by
    unfold evS at q
    generalize hgg : (fun (σ : En) (h : Hs) => (evE p.C b l σ h).bind fun v h => match v with
      | .bl true => (evBl p.C b b1 σ h).bind fun fl h => match fl with
        | .nx σ' => R.ok (Sum.inl σ') h
        | .ct σ' => .ok (.inl σ') h
        | .bk σ' => .ok (.inr (Fl.nx σ')) h
        | .rt v => .ok (.inr (.rt v)) h
      | .bl false => .ok (.inr (.nx σ)) h
      | _ => .bad) = gg at q
    have q : Post X.K p.fa B μ H (whW gg σ h) (KS X p es D) (XS p W) := q
    have nb : whW gg σ h ≠ .bad := fun z => by rw [z] at q; exact q
    have ex : ∃ n, whN gg n σ h ≠ .bad := Classical.byContradiction fun z => nb (whW_bad fun n => Classical.byContradiction fun y => z ⟨n, y⟩)
    obtain ⟨n, hn⟩ := ex
    rw [whW_eq_of hn] at q
    refine ⟨fun m s' H' => ∃ (hh : Hs) (μ' : Mu) (σ' : En), Stt X.K p es B b σ' hh μ' s' H' ∧ Post X.K p.fa B μ' H' (whN gg m σ' hh) (KS X p es D) (XS p W), ⟨n, h, μ, σ, st, q⟩, ?_⟩
    rintro m s' H' ⟨hh, μ', σ', st', q'⟩
    cases m with
    | zero => exact q'.elim
    | succ m =>
      have q1 : Post X.K p.fa B μ' H' ((gg σ' hh).bind fun s h => match s with
        | .inl σ' => whN gg m σ' h
        | .inr fl => .ok fl h) (KS X p es D) (XS p W) := q'
      have q2 := q1.bind
      have q3 : Post X.K p.fa B μ' H' ((evE p.C b l σ' hh).bind fun v h => match v with
        | .bl true => (evBl p.C b b1 σ' h).bind fun fl h => match fl with
          | .nx σ' => R.ok (Sum.inl σ') h
          | .ct σ' => .ok (.inl σ') h
          | .bk σ' => .ok (.inr (Fl.nx σ')) h
          | .rt v => .ok (.inr (.rt v)) h
        | .bl false => .ok (.inr (.nx σ')) h
        | _ => .bad) (fun s h μ1 H1 => Post X.K p.fa B μ1 H1 (match s with
        | .inl σ' => whN gg m σ' h
        | .inr fl => .ok fl h) (KS X p es D) (XS p W)) (XS p W) := by rw [← hgg] at q2 ⊢; exact q2
      refine seqST st' q3 (fun x h hx => ?_) fun c h1 μ1 H1 l1 st1 q4 => ?_
      · cases x <;> first | rfl | exact absurd rfl (hx _)
      · cases c with
        | false =>
          have q5 := Post.here q4 st1.hr
          show D.nx s' H1
          exact Post.here q5 st1.hr s' st1.env
        | true =>
          rw [if_pos rfl]
          refine ⟨fun s'' H'' => ∃ (hh : Hs) (μ' : Mu) (σ' : En), Stt X.K p es B b σ' hh μ' s'' H'' ∧ Post X.K p.fa B μ' H'' (whN gg m σ' hh) (KS X p es D) (XS p W), fun s'' H'' z => ⟨m, Nat.lt_succ_self m, z⟩, ?_⟩
          have q4 : Post X.K p.fa B μ1 H1 ((evBl p.C b b1 σ' h1).bind fun fl h => match fl with
            | .nx σ' => R.ok (Sum.inl σ') h
            | .ct σ' => .ok (.inl σ') h
            | .bk σ' => .ok (.inr (Fl.nx σ')) h
            | .rt v => .ok (.inr (.rt v)) h) _ (XS p W) := q4
          refine ⟨B, b, σ', h1, μ1, st1, q4.bind.mono (fun fl h4 μ4 H4 l4 g4 q5 => ?_) fun _ _ _ _ _ _ _ z => z⟩
          have bl4 : b ≤ μ4.l.length := Nat.le_trans st1.bl l4.len
          cases fl with
          | nx σ5 => exact fun s5 e5 => ⟨h4, μ4, σ5, ⟨st.bB, bl4, e5, g4⟩, Post.here q5 g4⟩
          | ct σ5 => exact fun s5 e5 => ⟨h4, μ4, σ5, ⟨st.bB, bl4, e5, g4⟩, Post.here q5 g4⟩
          | bk σ5 => exact (show Post X.K p.fa B μ4 H4 (R.ok (Fl.nx σ5) h4) (KS X p es D) (XS p W) from q5 μ4 H4 .refl g4) μ4 H4 .refl g4
          | rt w => exact (show Post X.K p.fa B μ4 H4 (R.ok (Fl.rt w) h4) (KS X p es D) (XS p W) from q5 μ4 H4 .refl g4) μ4 H4 .refl g4
end
end Mi
end

section
set_option Elab.async false
set_option linter.all false
set_option maxRecDepth 100000
set_option maxHeartbeats 4000000
/-! Snd11: exceptions; the check of a text against its small form -/
namespace Mi
open PySem PySem.Spec PyProof.Rows L2
variable {X : Cx} {p : Pk} {cy : Cy} {es : List (Addr × Nat × Option Addr)} {W : WX}
section
variable {a tg e : Expr} {pos pp : Pos} {l m : E} {t : T} {s1 : List Stmt}
theorem snd_raise (g : Good X p cy es W) (hc : cy.calm = true) {c : Nat} {x z : Str} {j : Nat} {p2 p3 : Pos} (hne : c ≠ 2) (hx : cy.tb.clss.lookup c = some x) (gx : globB cy x = true) : PS X (.Raise (some (.Call (.Name x pp) [.Constant (.str z) j p2] [] p3)) none pos) (RdS X p es W (.raise c .nil)) := by
  obtain ⟨h1, _, _, _⟩ := badName_of gx
  obtain ⟨hcl, mk⟩ := g.mkx c x hx
  obtain ⟨B, newId, initId, bm, hb, hin, hk, hr⟩ := mk hne
  have hm := (g.exm c c x hx hcl).1
  refine PS.imp (ps_raise (g.calm hc).1 g.tk (pmk_own hb hin hm hk hr (g.glob gx) h1)) fun D s H ⟨B, b, σ, h, μ, st, q⟩ => ?_
  unfold evS evEs at q
  have q : ∀ μ' H', Le μ H μ' H' → HR X.K p.fa B h μ' H' → XS p W c [] h μ' H' := q
  exact q μ H .refl st.hr _ none _ ⟨rfl, rfl, hcl⟩
theorem snd_raise1 (g : Good X p cy es W) (hc : cy.calm = true) {c : Nat} {x : Str} {p3 : Pos} (hne : c ≠ 2) (hx : cy.tb.clss.lookup c = some x) (gx : globB cy x = true) (pl : plainE a = true) (ha : PE X a (RdE X p es W l)) : PS X (.Raise (some (.Call (.Name x pp) [a] [] p3)) none pos) (RdS X p es W (.raise c (.cons l .nil))) := by
  obtain ⟨h1, _, _, _⟩ := badName_of gx
  obtain ⟨hcl, mk⟩ := g.mkx c x hx
  obtain ⟨B, newId, initId, bm, hb, hin, hk, hr⟩ := mk hne
  have hm := (g.exm c c x hx hcl).1
  refine PS.imp (ps_raise (g.calm hc).1 g.tk (SkE.pmk_own1 hb hin hm hk hr (g.glob gx) ha (plain_star pl _ _) h1)) fun D s H ⟨B, b, σ, h, μ, st, q⟩ => ?_
  unfold evS evEs at q
  have q : Post X.K p.fa B μ H ((evE p.C b l σ h).bind fun x h => (evEs p.C b .nil σ h).bind fun xs h => (R.exc c [] h : R Fl)) (KS X p es D) (XS p W) := by
    cases e : evE p.C b l σ h with
    | bad => rw [e] at q; exact q
    | exc c2 fs h2 => rw [e] at q; exact q
    | ok v h2 => rw [e] at q; unfold evEs at q ⊢; exact q
  refine seqS st q fun x h1 μ1 H1 v l1 st1 rx q1 => ?_
  unfold evEs at q1
  have q1 : ∀ μ' H', Le μ1 H1 μ' H' → HR X.K p.fa B h1 μ' H' → XS p W c [] h1 μ' H' := q1
  exact q1 μ1 H1 .refl st1.hr _ none _ ⟨rfl, rfl, hcl⟩
theorem XF.dict {H : Hp} {d : Option Addr} {fs : List PV} (x : XF H d fs) : ∀ dd, d = some dd → ∃ fs, H dd = some (.xd fs) := fun dd e => by
  subst e
  obtain ⟨i, _, z⟩ := x
  exact ⟨_, z⟩
/-- isinstance of the exception that is handled -/
def rIsX (X : Cx) (p : Pk) (es : List (Addr × Nat × Option Addr)) : List V → Hp → VK → Prop := fun xs H Q => (∃ a c d, (a, c, d) ∈ es ∧ rIsD X.K (p.ca c) a d xs H Q) ∨ rIsO X.K xs H Q
theorem call_isX (g : Good X p cy es W) : CallR X (.builtin "isinstance") (rIsX X p es) := fun pins s σ H xs us Q I r q => q.elim (fun ⟨a, c, d, hm, q⟩ => (g.exi a c d hm).2 pins s σ H xs us Q I r q) fun q => call_isO pins s σ H xs us Q I r q
theorem snd_isx (g : Good X p cy es W) (he : cy.tb.exc = true) {d : Nat} {n x : Str} {p2 : Pos} (hn : cy.tb.clss.lookup d = some n) (hx : x = "isinstance") (gx : globB cy x = true) (gn : globB cy n = true) (pl : plainE a = true) (ha : PE X a (RdE X p es W l)) (hcl : ∃ c, p.cls.contains c = true) :
    PE X (.Call (.Name x pp) [a, .Name n p2] [] pos) (RdE X p es W (.isi l (.own d))) := by
  subst hx
  obtain ⟨h1, h2, h3, _⟩ := badName_of gx
  obtain ⟨k1, k2, k3, _⟩ := badName_of gn
  obtain ⟨c0, hc0⟩ := hcl
  have hm := (g.exm c0 d n hn hc0).1
  have hmi : X.mg "isinstance" = none := g.blt _ (by decide)
  refine (pe_callB (call_isX g) (g.glob gx) hmi (by decide +kernel) (pa_two pl rfl ha (pe_glob (v := .ref (p.ca d)) (g.glob gn) hm rfl k1)) h3 h1 (plain_star pl _ _) (plain_any (by rfl))).imp fun s H Q ⟨B, b, σ, h, μ, st, q⟩ => ?_
  unfold evE at q
  refine seqE st q fun x h1 μ1 H1 v l1 st1 rx q1 => ?_
  obtain ⟨z, e, k⟩ := Post.of q1
  cases x with
  | exc c fs =>
    cases rx with
    | exc hm' xf =>
      cases e
      have hcc := (g.exi _ _ _ hm').1
      exact .inl ⟨_, c, _, hm', xf.dict, .ref (p.ca d), .ref (p.ca d), isSub c d, rfl, fun u r => r, (g.exm c d n hn hcc).2.2, k μ1 H1 .refl st1.hr _ (.bl _)⟩
  | exo c fs =>
    cases rx with
    | exo f0 ha hF xf =>
      cases e
      have hcc := (g.fac c).1.mp f0
      rw [(g.fac c).2] at ha
      exact .inr ⟨_, _, _, .ref (p.ca d), .ref (p.ca d), isSub c d, rfl, (g.exv c hcc he).1, ha, xf.dict, fun u r => r, (g.exm c d n hn hcc).2.2, k μ1 H1 .refl st1.hr _ (.bl _)⟩
  | _ => simp [evIsi] at e
theorem snd_isv (g : Good X p cy es W) (he : cy.tb.exc = true) {x n : Str} {p2 : Pos} (hn : n = "ValueError") (hx : x = "isinstance") (gx : globB cy x = true) (gn : globB cy n = true) (pl : plainE a = true) (ha : PE X a (RdE X p es W l)) (hcl : ∃ c, p.cls.contains c = true) :
    PE X (.Call (.Name x pp) [a, .Name n p2] [] pos) (RdE X p es W (.isi l .valueError)) := by
  subst hx
  subst hn
  obtain ⟨h1, h2, h3, _⟩ := badName_of gx
  obtain ⟨k1, k2, k3, _⟩ := badName_of gn
  obtain ⟨c0, hc0⟩ := hcl
  have hm := (g.exv c0 hc0 he).2.2
  have hmi : X.mg "isinstance" = none := g.blt _ (by decide)
  refine (pe_callB (call_isX g) (g.glob gx) hmi (by decide +kernel) (pa_two pl rfl ha (pe_bltn (v := .ty "ValueError") (u := .type "ValueError") (g.glob gn) hm (by decide +kernel) rfl k3 k1)) h3 h1 (plain_star pl _ _) (plain_any (by rfl))).imp fun s H Q ⟨B, b, σ, h, μ, st, q⟩ => ?_
  unfold evE at q
  refine seqE st q fun x h1 μ1 H1 v l1 st1 rx q1 => ?_
  obtain ⟨z, e, k⟩ := Post.of q1
  cases x with
  | exc c fs =>
    cases rx with
    | exc hm' xf =>
      cases e
      have hcc := (g.exi _ _ _ hm').1
      exact .inl ⟨_, c, _, hm', xf.dict, .ty "ValueError", .type "ValueError", true, rfl, fun u r => r, (g.exv c hcc he).2.1, k μ1 H1 .refl st1.hr _ (.bl _)⟩
  | exo c fs =>
    cases rx with
    | exo f0 ha hF xf =>
      cases e
      have hcc := (g.fac c).1.mp f0
      rw [(g.fac c).2] at ha
      exact .inr ⟨_, _, _, .ty "ValueError", .type "ValueError", true, rfl, (g.exv c hcc he).1, ha, xf.dict, fun u r => r, (g.exv c hcc he).2.1, k μ1 H1 .refl st1.hr _ (.bl _)⟩
  | _ => simp [evIsi] at e

/-! ### try -/
theorem Good.tr (g : Good X p cy es W) {pn : List (Addr × PySem.Obj)} {xe : Value → Shared → Prop} {W' : WX} (tk : Takes (X.tr pn xe) W') (po : PassesOwn (model X.prog X.w) X.A X.env xe) : Good (X.tr pn xe) p cy [] W' where
  N := g.N
  nd := g.nd
  sc := g.sc
  kind := g.kind
  fn := g.fn
  calm := fun h => ⟨(g.calm h).1, rfl⟩
  room := g.room
  top := g.top
  un := g.un
  tk := tk
  po := po
  fns := g.fns
  cons := g.cons
  dics := g.dics
  blt := g.blt
  gcd := g.gcd
  hasgcd := g.hasgcd
  hascmb := g.hascmb
  exm := g.exm
  exv := g.exv
  mkx := fun c x h => by
    obtain ⟨hcl, mk⟩ := g.mkx c x h
    refine ⟨hcl, fun ne => ?_⟩
    obtain ⟨B, newId, initId, bm, hb, hin, hk, hr⟩ := mk ne
    exact ⟨B, newId, initId, bm, hb, hin, hk, hr⟩
  mkt := g.mkt
  fac := g.fac
  exu := fun x h => by cases h
  exi := fun a c d h => by cases h
  exf := fun _ a d h => by cases h
theorem Good.suite (g : Good X p cy es W) {a : Addr} {oe : PySem.Obj} {pn : List (Addr × PySem.Obj)} {c : Nat} {d : Option Addr} (hc : p.cls.contains c = true) (he : cy.tb.exc = true) (hz : Zc (.ref (p.ca c)) d oe) (hf : ∃ vs, oe.data = .fields vs) : Good (X.suite a ((a, oe) :: pn)) p { cy with calm := false, top := false } [(a, c, d)] WN where
  N := g.N
  nd := g.nd
  sc := g.sc
  kind := g.kind
  fn := g.fn
  calm := fun h => nomatch h
  room := fun h => nomatch h
  top := fun h => nomatch h
  un := by
    show (X.A.mark (some (.ref a))).units + 65 < cLine
    exact g.un
  tk := fun u s' ⟨_, _, _, _, _, _, _, _, _, _, _, _, _, _, _, _, z⟩ => z.elim
  po := PassesOwn.never
  fns := g.fns
  cons := g.cons
  dics := g.dics
  blt := g.blt
  gcd := g.gcd
  hasgcd := g.hasgcd
  hascmb := g.hascmb
  exm := g.exm
  exv := g.exv
  mkx := fun c x h => by
    obtain ⟨hcl, mk⟩ := g.mkx c x h
    refine ⟨hcl, fun ne => ?_⟩
    obtain ⟨B, newId, initId, bm, hb, hin, hk, hr⟩ := mk ne
    exact ⟨B, newId, initId, bm, hb, hin, hk, hr⟩
  mkt := g.mkt
  fac := g.fac
  exu := fun x hx y hy => (List.mem_singleton.mp hx).trans (List.mem_singleton.mp hy).symm
  exi := fun a' c' d' h => by
    cases List.mem_singleton.mp h
    exact ⟨hc, call_isD (g.exv c hc he).1 hz hf⟩
  exf := fun ht a' dd h e te pos he' hb => by
    cases List.mem_singleton.mp h
    obtain ⟨_, _, fI, fd, T, _⟩ := g.mkt ht
    have C := (g.exv 2 hc he).1
    exact pe_xf ⟨C.hg, C.hk, C.hs, C.hd⟩ T.ln hz hf he' hb
def tsX (X : Cx) (p : Pk) (sb : Bl) : Addr → Value → Option Addr → TS := fun a cls d D s H => ∃ c, cls = .ref (p.ca c) ∧ p.cls.contains c = true ∧ RdB X p [(a, c, d)] WN sb D s H
/-- the body of a try: one statement over an expression -/
def tryB (k : Nat) (e : E) : Bl := match k with
  | 0 => .cons (.expr e) .nil
  | 1 => .cons (.ret e) .nil
  | k + 2 => .cons (.asg (.nm k) e) .nil
theorem snd_tryAs (g : Good X p cy es W) (hc : cy.calm = true) (ht : cy.top = true) (hx : cy.tb.exc = true) {k : Nat} {c i : Nat} {x n : Str} {np pos' : Pos} {b₀ : Stmt} {suite body : List Stmt} {sb : Bl} (hk : k < 2) (hcl : cy.tb.clss.lookup c = some x) (gx : globB cy x = true)
    (hi : cy.N[i]? = some n) (hn : cy.sc.lookup n = some .local)
    (hb : ∀ (W' : WX) (pn : List (Addr × PySem.Obj)) (xe : Value → Shared → Prop), Takes (X.tr pn xe) W' → PassesOwn (model X.prog X.w) X.A X.env xe → PSs (X.tr pn xe) body (fun D s H => RdE X p [] W' l s H (fun v H' => if k = 0 then D.nx s H' else D.rt v H')))
    (hs : ∀ (a : Addr) (oe : PySem.Obj) (pn : List (Addr × PySem.Obj)) (c' : Nat) (d : Option Addr), p.cls.contains c' = true → Zc (.ref (p.ca c')) d oe → (∃ vs, oe.data = .fields vs) → PSs (X.suite a ((a, oe) :: pn)) (b₀ :: suite) (RdB X p [(a, c', d)] WN sb)) :
    PS X (.Try body [.ExceptHandler (some (.Name x np)) (some n) (b₀ :: suite) pos'] [] [] pos) (RdS X p es W (.try_ k l c (some i) sb)) := by
  obtain ⟨t1, t2, _⟩ := g.top ht
  obtain ⟨h1, _, _, _⟩ := badName_of gx
  have es0 := (g.calm hc).2
  subst es0
  have hcc := (g.mkx c x hcl).1
  refine PS.imp (ps_try_as (i := i) (c := .ref (p.ca c)) (ts := tsX X p sb) (Wout := W) t1 t2 g.nd (by rw [g.N]; exact hi) (by show X.env.scope.names.lookup n = _; rw [g.sc]; exact hn) ⟨g.glob gx, h1, .inl (g.exm c c x hcl hcc).1⟩ g.tk hb ?_) fun D s H ⟨B, b, σ, h, μ, st, q⟩ => ?_
  · intro a oe cls d pn hz hf
    refine ⟨fun pins s σ H D I ⟨c', e1, e2, q⟩ => ?_⟩
    subst e1
    exact (hs a oe pn c' d e2 hz hf).run pins s σ H D I q
  · unfold evS at q
    refine ⟨B, b, σ, h, μ, st, ?_⟩
    cases e : evE p.C b l σ h with
    | bad => rw [e] at q; exact q
    | ok v h' =>
      rw [e] at q
      intro μ1 H1 l1 g1 w rw'
      rcases Nat.lt_or_ge k 1 with hk1 | hk1
      · have : k = 0 := by omega
        subst this
        have q : ∀ μ' H', Le μ H μ' H' → HR X.K p.fa B h' μ' H' → KS X p [] D (.nx σ) h' μ' H' := q
        rw [if_pos rfl]
        exact q μ1 H1 l1 g1 s (st.env.mono l1 st.hr.mu)
      · have : k = 1 := by omega
        subst this
        have q : ∀ μ' H', Le μ H μ' H' → HR X.K p.fa B h' μ' H' → KS X p [] D (.rt v) h' μ' H' := q
        rw [if_neg (by decide)]
        exact q μ1 H1 l1 g1 w rw'
    | exc d fs h' =>
      rw [e] at q
      intro μ1 H1 l1 g1 cls dd ⟨e1, e2, e3⟩
      subst e1
      refine ⟨isSub d c, (g.exm d c x hcl e3).2.1, fun hyes a na => ?_, fun hno => ?_⟩
      · have q : Post X.K p.fa B μ H (if isSub d c = true then ((evBl p.C b sb (σ.set i (some (.exc d fs))) h').bind fun fl h => match fl with
          | .rt v => if v.low h.length = true then R.ok (Fl.rt v) h else R.bad
          | _ => R.bad).calm else R.exc d fs h') (KS X p [] D) (XS p W) := q
        rw [if_pos hyes] at q
        refine ⟨d, rfl, e3, ?_⟩
        have st1 := st.next l1 g1
        have env1 : EnvR X.K p.fa [(a, d, dd)] μ1 H1 (σ.set i (some (.exc d fs))) (s.set i (some (.ref a))) := by
          have w1 : EnvR X.K p.fa [(a, d, dd)] μ1 H1 σ s := ⟨st1.env.1, fun j y q => let ⟨v, a1, r⟩ := st1.env.2 j y q; ⟨v, a1, r.any⟩⟩
          exact w1.set (.exc (by simp) e2) i
        refine ⟨B, b, σ.set i (some (.exc d fs)), h', μ1, ⟨st1.bB, st1.bl, env1, g1⟩, ?_⟩
        have q1 := Post.calm0 q
        refine (q1.later l1).mono (fun fl h2 μ2 H2 l2 g2 q2 => ?_) fun _ _ _ _ _ _ _ z => z.elim
        cases fl with
        | nx _ => exact q2.elim
        | rt v =>
          intro w rw'
          have q2 : Post X.K p.fa B μ H (if v.low h2.length = true then R.ok (Fl.rt v) h2 else R.bad).calm (KS X p [] D) (XS p W) := q2
          split at q2
          · rename_i hl
            have q2 : ∀ μ' H', Le μ H μ' H' → HR X.K p.fa B h2 μ' H' → KS X p [] D (.rt v) h2 μ' H' := q2
            exact q2 μ2 H2 (l1.trans l2) g2 w (rw'.noex _ hl)
          · exact q2.elim
        | bk _ => exact q2.elim
        | ct _ => exact q2.elim
      · have q : Post X.K p.fa B μ H (if isSub d c = true then ((evBl p.C b sb (σ.set i (some (.exc d fs))) h').bind fun fl h => match fl with
          | .rt v => if v.low h.length = true then R.ok (Fl.rt v) h else R.bad
          | _ => R.bad).calm else R.exc d fs h') (KS X p [] D) (XS p W) := q
        rw [if_neg (by rw [hno]; exact Bool.false_ne_true)] at q
        have q : ∀ μ' H', Le μ H μ' H' → HR X.K p.fa B h' μ' H' → XS p W d fs h' μ' H' := q
        exact q μ1 H1 l1 g1 _ _ _ ⟨rfl, e2, e3⟩
/-! ### TextError -/
theorem snd_raiseT (g : Good X p cy es W) (hc : cy.calm = true) (ht : cy.tb.txt = true) {x z : Str} {j : Nat} {p2 p3 : Pos} (hx : cy.tb.clss.lookup 2 = some x) (gx : globB cy x = true) (pl : plainE a = true) (ha : PE X a (RdE X p es W l)) : PS X (.Raise (some (.Call (.Name x pp) [.Constant (.str z) j p2, a] [] p3)) none pos) (RdS X p es W (.raiseT l)) := by
  obtain ⟨h1, _, _, _⟩ := badName_of gx
  obtain ⟨hcl, hs, fI, fd, T, hb⟩ := g.mkt ht
  have hm := (g.exm 2 2 x hx hcl).1
  have dp : X.A.depth + 1 < recursionLimit := by have := (g.room hc).dp; omega
  refine PS.imp (ps_raise (g.calm hc).1 g.tk (pmk_text T hs dp hb (g.glob gx) hm (pa_two (by rfl) pl pe_str ha) h1 (by rfl) (plain_any (by simp [pl])))) fun D s H ⟨B, b, σ, h, μ, st, q⟩ => ?_
  unfold evS at q
  refine seqS st q fun v h1 μ1 H1 u l1 st1 ru q1 => ?_
  cases v with
  | int i =>
    cases ru
    refine ⟨.str z, .int i, rfl, fun d hd => ?_⟩
    have q1 : ∀ μ' H', Le μ1 H1 μ' H' → HR X.K p.fa B h1 μ' H' → XS p W 2 [.int i] h1 μ' H' := q1
    have sm := same_new (o := HO.xd [("line", V.int i)]) hd
    exact q1 μ1 _ (Le.same sm) (st1.hr.same sm) _ (some d) _ ⟨rfl, ⟨i, rfl, upd_same⟩, hcl⟩
  | _ => exact q1.elim
theorem snd_eline (g : Good X p cy es W) (ht : cy.tb.txt = true) {i : Nat} {x f : Str} {p1 p2 : Pos} (hf : f = "line") (ha : PE X (.Name x p1) (RdE X p es W (.var i))) : PE X (.Attribute (.Name x p1) f p2) (RdE X p es W (.eline (.var i))) := by
  subst hf
  refine ⟨fun pins s τ H Q I ⟨B, b, σ, h, μ, st, q⟩ => ?_⟩
  unfold evE evE at q
  have hv : ∃ k, (σ[i]?).join = some (.exc 2 [.int k]) := by
    cases e : (σ[i]?).join with
    | none => rw [e] at q; exact q.elim
    | some v =>
      rw [e] at q
      have q : Post X.K p.fa B μ H (R.of (elineV v) h) (KE' X p es Q) (XW p W τ) := q
      unfold elineV at q
      split at q
      · rename_i c k _
        split at q
        · rename_i hc
          subst hc
          exact ⟨k, rfl⟩
        · exact q.elim
      · exact q.elim
  obtain ⟨k, ek⟩ := hv
  rw [ek] at q
  have q : ∀ μ' H', Le μ H μ' H' → HR X.K p.fa B h μ' H' → KE' X p es Q (.int k) h μ' H' := q
  have e2 : σ[i]? = some (some (.exc 2 [.int k])) := by
    cases z : σ[i]? with
    | none => rw [z] at ek; cases ek
    | some o => rw [z] at ek; exact congrArg some ek
  obtain ⟨v, _, rv⟩ := st.env.2 i _ e2
  cases rv with
  | @exc a _ d _ hm xf =>
    cases d with
    | none => cases xf
    | some dd =>
      obtain ⟨k2, e3, hd⟩ := xf
      cases e3
      refine (g.exf ht a dd hm _ (RdE X p es W (.var i)) p2 ha (by rfl)).run pins s τ H Q I ⟨B, b, σ, h, μ, st, ?_⟩
      unfold evE
      rw [ek]
      intro μ1 H1 l1 g1 u ru
      cases ru with
      | exc hm2 xf2 =>
        cases g.exu _ hm _ hm2
        obtain ⟨k3, e4, hd2⟩ := xf2
        cases e4
        exact ⟨rfl, rfl, dd, _, .int k, rfl, hd2, rfl, q μ1 H1 l1 g1 _ (.int k)⟩
/-- what the suite of the first clause is to do -/
theorem snd_tryT (g : Good X p cy es W) (hc : cy.calm = true) (htp : cy.top = true) (hx : cy.tb.exc = true) {c i : Nat} {x n : Str} {np pos' : Pos} {b₀ : Stmt} {suite body : List Stmt} {more : List ExceptHandler} {sb : Bl} (hcl : cy.tb.clss.lookup c = some x) (gx : globB cy x = true)
    (hi : cy.N[i]? = some n) (hn : cy.sc.lookup n = some .local)
    (hb : ∀ (W' : WX) (pn : List (Addr × PySem.Obj)) (xe : Value → Shared → Prop), Takes (X.tr pn xe) W' → PassesOwn (model X.prog X.w) X.A X.env xe → PSs (X.tr pn xe) body (fun D s H => RdE X p [] W' l s H (fun _ H' => D.nx s H')))
    (hs : ∀ (a : Addr) (oe : PySem.Obj) (pn : List (Addr × PySem.Obj)) (c' : Nat) (d : Option Addr), p.cls.contains c' = true → Zc (.ref (p.ca c')) d oe → (∃ vs, oe.data = .fields vs) → PSs (X.suite a ((a, oe) :: pn)) (b₀ :: suite) (RdB X p [(a, c', d)] WN sb)) :
    PS X (.Try body (.ExceptHandler (some (.Name x np)) (some n) (b₀ :: suite) pos' :: more) [] [] pos) (RdS X p es W (.tryT l c i sb)) := by
  obtain ⟨t1, t2, _⟩ := g.top htp
  obtain ⟨h1, _, _, _⟩ := badName_of gx
  have es0 := (g.calm hc).2
  subst es0
  have hcc := (g.mkx c x hcl).1
  refine PS.imp (ps_try_fst (i := i) (c := .ref (p.ca c)) (ts := tsX X p sb) t1 t2 g.nd (by rw [g.N]; exact hi) (by show X.env.scope.names.lookup n = _; rw [g.sc]; exact hn) (g.glob gx) h1 (g.exm c c x hcl hcc).1 hb ?_) fun D s H ⟨B, b, σ, h, μ, st, q⟩ => ?_
  · intro a oe cls d pn hz hf
    refine ⟨fun pins s σ H D I ⟨c', e1, e2, q⟩ => ?_⟩
    subst e1
    exact (hs a oe pn c' d e2 hz hf).run pins s σ H D I q
  · unfold evS at q
    refine ⟨B, b, σ, h, μ, st, ?_⟩
    cases e : evE p.C b l σ h with
    | bad => rw [e] at q; exact q
    | ok v h' =>
      rw [e] at q
      intro μ1 H1 l1 g1 w rw'
      have q : ∀ μ' H', Le μ H μ' H' → HR X.K p.fa B h' μ' H' → KS X p [] D (.nx σ) h' μ' H' := q
      exact q μ1 H1 l1 g1 s (st.env.mono l1 st.hr.mu)
    | exc d fs h' =>
      rw [e] at q
      have q : Post X.K p.fa B μ H (if isSub d c = true then ((evBl p.C b sb (σ.set i (some (.exc d fs))) h').bind fun fl h => match fl with
          | .rt v => if v.low h.length = true then R.ok (Fl.rt v) h else R.bad
          | _ => R.bad).calm else R.bad) (KS X p [] D) (XS p W) := q
      intro μ1 H1 l1 g1 cls dd ⟨e1, e2, e3⟩
      subst e1
      by_cases hsub : isSub d c = true
      · rw [if_pos hsub] at q
        refine ⟨hsub ▸ (g.exm d c x hcl e3).2.1, fun a na => ⟨d, rfl, e3, ?_⟩⟩
        have st1 := st.next l1 g1
        have env1 : EnvR X.K p.fa [(a, d, dd)] μ1 H1 (σ.set i (some (.exc d fs))) (s.set i (some (.ref a))) := by
          have w1 : EnvR X.K p.fa [(a, d, dd)] μ1 H1 σ s := ⟨st1.env.1, fun j y q => let ⟨v, a1, r⟩ := st1.env.2 j y q; ⟨v, a1, r.any⟩⟩
          exact w1.set (.exc (by simp) e2) i
        refine ⟨B, b, σ.set i (some (.exc d fs)), h', μ1, ⟨st1.bB, st1.bl, env1, g1⟩, ?_⟩
        have q1 := Post.calm0 q
        refine (q1.later l1).mono (fun fl h2 μ2 H2 l2 g2 q2 => ?_) fun _ _ _ _ _ _ _ z => z.elim
        cases fl with
        | nx _ => exact q2.elim
        | rt v =>
          intro w rw'
          have q2 : Post X.K p.fa B μ H (if v.low h2.length = true then R.ok (Fl.rt v) h2 else R.bad).calm (KS X p [] D) (XS p W) := q2
          split at q2
          · rename_i hl
            have q2 : ∀ μ' H', Le μ H μ' H' → HR X.K p.fa B h2 μ' H' → KS X p [] D (.rt v) h2 μ' H' := q2
            exact q2 μ2 H2 (l1.trans l2) g2 w (rw'.noex _ hl)
          · exact q2.elim
        | bk _ => exact q2.elim
        | ct _ => exact q2.elim
      · rw [if_neg hsub] at q
        exact q.elim
/-- try: e, except c as n: return n -/
theorem snd_tryX (g : Good X p cy es W) (hc : cy.calm = true) (htp : cy.top = true) {c i : Nat} {x n : Str} {np np2 rp pos' : Pos} {body : List Stmt} (hcl : cy.tb.clss.lookup c = some x) (gx : globB cy x = true)
    (hi : cy.N[i]? = some n) (hn : cy.sc.lookup n = some .local) (hv : visB cy n = true)
    (hb : ∀ (W' : WX) (pn : List (Addr × PySem.Obj)) (xe : Value → Shared → Prop), Takes (X.tr pn xe) W' → PassesOwn (model X.prog X.w) X.A X.env xe → PSs (X.tr pn xe) body (fun D s H => RdE X p [] W' l s H (fun _ H' => D.nx s H'))) :
    PS X (.Try body [.ExceptHandler (some (.Name x np)) (some n) [.Return (some (.Name n np2)) rp] pos'] [] [] pos) (RdS X p es W (.tryX l c i)) := by
  obtain ⟨t1, t2, t3⟩ := g.top htp
  obtain ⟨h1, _, _, _⟩ := badName_of gx
  obtain ⟨v1, v2, _, _⟩ := badName_of hv
  have es0 := (g.calm hc).2
  subst es0
  have hcc := (g.mkx c x hcl).1
  refine PS.imp (ps_try_keep (i := i) (c := .ref (p.ca c)) t1 t2 t3 g.nd (by rw [g.N]; exact hi) (by show X.env.scope.names.lookup n = _; rw [g.sc]; exact hn) (g.vis hv) v1 v2 (g.glob gx) h1 (g.exm c c x hcl hcc).1 hb) fun D s H ⟨B, b, σ, h, μ, st, q⟩ => ?_
  unfold evS at q
  refine ⟨B, b, σ, h, μ, st, ?_⟩
  cases e : evE p.C b l σ h with
  | bad => rw [e] at q; exact q
  | ok v h' =>
    rw [e] at q
    intro μ1 H1 l1 g1 w rw'
    have q : ∀ μ' H', Le μ H μ' H' → HR X.K p.fa B h' μ' H' → KS X p [] D (.nx σ) h' μ' H' := q
    exact q μ1 H1 l1 g1 s (st.env.mono l1 st.hr.mu)
  | exc d fs h' =>
    rw [e] at q
    have q : Post X.K p.fa B μ H (if isSub d c = true then R.ok (Fl.rt (.exo d fs)) h' else R.bad) (KS X p [] D) (XS p W) := q
    intro μ1 H1 l1 g1 cls dd ⟨e1, e2, e3⟩
    subst e1
    by_cases hsub : isSub d c = true
    · rw [if_pos hsub] at q
      have q : ∀ μ' H', Le μ H μ' H' → HR X.K p.fa B h' μ' H' → KS X p [] D (.rt (.exo d fs)) h' μ' H' := q
      refine ⟨hsub ▸ (g.exm d c x hcl e3).2.1, _, rfl, fun a na => ?_⟩
      have sm := same_new (o := exH (p.ca d) dd a) na
      have gs := g1.same sm
      have F0 : ¬ μ1.F a := g1.nofz na
      have nl : ∀ k : Nat, μ1.l[k]? ≠ some (some a) := fun k z => by
        obtain ⟨⟨o, z2, _⟩, _⟩ := g1.mu k a z
        rw [na] at z2
        cases z2
      have lw : Le μ1 H1 (μ1.frz a) (upd H1 a (exH (p.ca d) dd a)) := {
        keep := fun b o z => .inr (sm b o z)
        dom := fun b o z => ⟨o, sm b o z⟩
        liv := fun n b z => .inl z
        len := Nat.le_refl _
        fz := fun b z => .inl z
        nf := fun b z => z.elim .inl fun z => .inr (.inl (by rw [z]; exact na)) }
      exact q (μ1.frz a) _ (l1.trans lw) (gs.frz upd_same nl) _ (.exo ((g.fac d).1.mpr e3) (by rw [(g.fac d).2]; exact upd_same) (.inr rfl) (lw.xf g1.mu e2))
    · rw [if_neg hsub] at q
      exact q.elim
end
end Mi
end

section
set_option Elab.async false
set_option linter.all false
set_option maxRecDepth 100000
set_option maxHeartbeats 4000000
/-! Snd12: the check -/
namespace Mi
open PySem PySem.Spec PyProof.Rows L2
mutual
/-- the same constant -/
def PV.same : PV → PV → Bool
  | .non, .non => true
  | .bl a, .bl b => a == b
  | .int a, .int b => a == b
  | .str a, .str b => decide (a = b)
  | .fn a, .fn b => a == b
  | .tup a, .tup b => PV.sames a b
  | _, _ => false
def PV.sames : List PV → List PV → Bool
  | [], [] => true
  | x :: xs, y :: ys => PV.same x y && PV.sames xs ys
  | _, _ => false
end
mutual
theorem PV.same_eq : ∀ {x y : PV}, PV.same x y = true → x = y
  | .non, .non, _ => rfl
  | .bl a, .bl b, h => by simp [PV.same] at h; rw [h]
  | .int a, .int b, h => by simp [PV.same] at h; rw [h]
  | .str a, .str b, h => by simp [PV.same] at h; rw [h]
  | .fn a, .fn b, h => by simp [PV.same] at h; rw [h]
  | .tup a, .tup b, h => by simp only [PV.same] at h; rw [PV.sames_eq h]
  | .non, .bl _, h => by simp [PV.same] at h
  | .non, .int _, h => by simp [PV.same] at h
  | .non, .str _, h => by simp [PV.same] at h
  | .non, .fn _, h => by simp [PV.same] at h
  | .non, .tup _, h => by simp [PV.same] at h
  | .non, .lst _, h => by simp [PV.same] at h
  | .non, .ref _, h => by simp [PV.same] at h
  | .non, .exc _ _, h => by simp [PV.same] at h
  | .non, .scr _, h => by simp [PV.same] at h
  | .non, .rng _ _, h => by simp [PV.same] at h
  | .non, .exo _ _, h => by simp [PV.same] at h
  | .non, .dct _, h => by simp [PV.same] at h
  | .bl _, .non, h => by simp [PV.same] at h
  | .bl _, .int _, h => by simp [PV.same] at h
  | .bl _, .str _, h => by simp [PV.same] at h
  | .bl _, .fn _, h => by simp [PV.same] at h
  | .bl _, .tup _, h => by simp [PV.same] at h
  | .bl _, .lst _, h => by simp [PV.same] at h
  | .bl _, .ref _, h => by simp [PV.same] at h
  | .bl _, .exc _ _, h => by simp [PV.same] at h
  | .bl _, .scr _, h => by simp [PV.same] at h
  | .bl _, .rng _ _, h => by simp [PV.same] at h
  | .bl _, .exo _ _, h => by simp [PV.same] at h
  | .bl _, .dct _, h => by simp [PV.same] at h
  | .int _, .non, h => by simp [PV.same] at h
  | .int _, .bl _, h => by simp [PV.same] at h
  | .int _, .str _, h => by simp [PV.same] at h
  | .int _, .fn _, h => by simp [PV.same] at h
  | .int _, .tup _, h => by simp [PV.same] at h
  | .int _, .lst _, h => by simp [PV.same] at h
  | .int _, .ref _, h => by simp [PV.same] at h
  | .int _, .exc _ _, h => by simp [PV.same] at h
  | .int _, .scr _, h => by simp [PV.same] at h
  | .int _, .rng _ _, h => by simp [PV.same] at h
  | .int _, .exo _ _, h => by simp [PV.same] at h
  | .int _, .dct _, h => by simp [PV.same] at h
  | .str _, .non, h => by simp [PV.same] at h
  | .str _, .bl _, h => by simp [PV.same] at h
  | .str _, .int _, h => by simp [PV.same] at h
  | .str _, .fn _, h => by simp [PV.same] at h
  | .str _, .tup _, h => by simp [PV.same] at h
  | .str _, .lst _, h => by simp [PV.same] at h
  | .str _, .ref _, h => by simp [PV.same] at h
  | .str _, .exc _ _, h => by simp [PV.same] at h
  | .str _, .scr _, h => by simp [PV.same] at h
  | .str _, .rng _ _, h => by simp [PV.same] at h
  | .str _, .exo _ _, h => by simp [PV.same] at h
  | .str _, .dct _, h => by simp [PV.same] at h
  | .fn _, .non, h => by simp [PV.same] at h
  | .fn _, .bl _, h => by simp [PV.same] at h
  | .fn _, .int _, h => by simp [PV.same] at h
  | .fn _, .str _, h => by simp [PV.same] at h
  | .fn _, .tup _, h => by simp [PV.same] at h
  | .fn _, .lst _, h => by simp [PV.same] at h
  | .fn _, .ref _, h => by simp [PV.same] at h
  | .fn _, .exc _ _, h => by simp [PV.same] at h
  | .fn _, .scr _, h => by simp [PV.same] at h
  | .fn _, .rng _ _, h => by simp [PV.same] at h
  | .fn _, .exo _ _, h => by simp [PV.same] at h
  | .fn _, .dct _, h => by simp [PV.same] at h
  | .tup _, .non, h => by simp [PV.same] at h
  | .tup _, .bl _, h => by simp [PV.same] at h
  | .tup _, .int _, h => by simp [PV.same] at h
  | .tup _, .str _, h => by simp [PV.same] at h
  | .tup _, .fn _, h => by simp [PV.same] at h
  | .tup _, .lst _, h => by simp [PV.same] at h
  | .tup _, .ref _, h => by simp [PV.same] at h
  | .tup _, .exc _ _, h => by simp [PV.same] at h
  | .tup _, .scr _, h => by simp [PV.same] at h
  | .tup _, .rng _ _, h => by simp [PV.same] at h
  | .tup _, .exo _ _, h => by simp [PV.same] at h
  | .tup _, .dct _, h => by simp [PV.same] at h
  | .lst _, _, h => by simp [PV.same] at h
  | .ref _, _, h => by simp [PV.same] at h
  | .exc _ _, _, h => by simp [PV.same] at h
  | .scr _, _, h => by simp [PV.same] at h
  | .rng _ _, _, h => by simp [PV.same] at h
  | .exo _ _, _, h => by simp [PV.same] at h
  | .dct _, _, h => by simp [PV.same] at h
theorem PV.sames_eq : ∀ {x y : List PV}, PV.sames x y = true → x = y
  | [], [], _ => rfl
  | x :: xs, y :: ys, h => by
    have h := Bool.and_eq_true_iff.mp h
    rw [PV.same_eq h.1, PV.sames_eq h.2]
  | [], _ :: _, h => by simp [PV.sames] at h
  | _ :: _, [], h => by simp [PV.sames] at h
end
def relN (names sc : List (Str × NameKind)) : List (Str × NameKind) := names.map fun (n, k) => if (k == .free && sc.lookup n == some .cell) then (n, .cell) else (n, k)
/-- within a comprehension -/
def Cy.blk (cy : Cy) (scope : Scope) : Cy := { cy with sc := relN scope.names cy.sc, top := false, cap := (scope.names.filter fun y => y.2 == .free).map (·.1) }
def ownP (cy : Cy) (own : List Nat) : List (Str × Nat) := own.map fun i => (cy.N.getD i (Str.ofString ""), i)
def scOf (sc : List (Str × NameKind)) : Scope := { kind := .function, names := sc, isGenerator := false, isCoroutine := false, more := [] }
def callN (cy : Cy) (x : Str) (nm : Str) : Bool := decide (x = nm) && globB cy x
def mthB : Mth → Str → Bool
  | .append, x => decide (x = ("append" : Str))
  | .insert, x => decide (x = ("insert" : Str))
  | .popAt, x => decide (x = ("pop" : Str))
  | .index, x => decide (x = ("index" : Str))
  | .extend, x => decide (x = ("extend" : Str))
  | _, _ => false
def baseB : Expr → Bool
  | .Name _ _ => true
  | .Subscript _ _ _ => true
  | .Constant _ _ _ => true
  | _ => false
/-- what the walk asks of the target -/
def tgI : I → Expr → Bool
  | .enum _, e => match e with
    | .Tuple _ _ _ => true
    | _ => false
  | .zip _ _, e => match e with
    | .Tuple _ _ _ => true
    | _ => false
  | .zipn _, e => match e with
    | .Tuple _ _ _ => true
    | _ => false
  | _, _ => true
def kvsSame : List (List Nat × PV) → List (List Nat × PV) → Bool
  | [], l => l.isEmpty
  | (k, v) :: r, l => match l with
    | (k', v') :: r' => decide (k = k') && PV.same v v' && kvsSame r r'
    | [] => false
theorem kvsSame_eq : ∀ {a b : List (List Nat × PV)}, kvsSame a b = true → a = b
  | [], l, h => by
    unfold kvsSame at h
    cases l with
    | nil => rfl
    | cons _ _ => cases h
  | (k, v) :: r, l, h => by
    unfold kvsSame at h
    cases l with
    | nil => cases h
    | cons q r' =>
      obtain ⟨k', v'⟩ := q
      simp only [Bool.and_eq_true, decide_eq_true_eq] at h
      obtain ⟨⟨h1, h2⟩, h3⟩ := h
      rw [h1, PV.same_eq h2, kvsSame_eq h3]
def ckDin (neg : Bool) : CmpOp → Bool
  | .In => !neg
  | .NotIn => neg
  | _ => false
mutual
def ckE (cy : Cy) : E → Expr → Bool
  | .var i, e => match e with
    | .Name x _ => decide (cy.N[i]? = some x) && visB cy x
    | _ => false
  | .int i, e => match e with
    | .Constant (.int j) _ _ => i == j
    | _ => false
  | .bl i, e => match e with
    | .Constant (.bool j) _ _ => i == j
    | _ => false
  | .non, e => match e with
    | .Constant .none _ _ => true
    | _ => false
  | .str s, e => match e with
    | .Constant (.str z) _ _ => decide (s = z.cps.toList)
    | _ => false
  | .glob i v, e => match e with
    | .Name x _ => globB cy x && (match cy.tb.cons[i]? with
      | some (y, w) => decide (x = y) && PV.same v w
      | none => false)
    | _ => false
  | .gdx i kvs k, e => match e with
    | .Subscript (.Name x _) y _ => globB cy x && plainE y && ckE cy k y && (match cy.tb.dics[i]? with
      | some (z, _, w) => decide (x = z) && kvsSame kvs w
      | none => false)
    | _ => false
  | .op2 o a b, e => match e with
    | .BinOp l op r _ => ckOp o op && ckE cy a l && ckE cy b r
    | _ => false
  | .cmp o a b, e => match e with
    | .Compare l [op] [r] _ => ckCmp o op && plainE r && ckE cy a l && ckE cy b r
    | _ => false
  | .chain o o' a b c, e => match e with
    | .Compare l [op, op'] [r, r'] _ => ckCmp o op && ckCmp o' op' && plainE r && plainE r' && ckE cy a l && ckE cy b r && ckE cy c r'
    | _ => false
  | .neg a, e => match e with
    | .UnaryOp .USub x _ => ckE cy a x
    | _ => false
  | .not_ a, e => match e with
    | .UnaryOp .Not x _ => ckE cy a x
    | _ => false
  | .and_ es, e => match e with
    | .BoolOp .And vs _ => ckL cy es vs
    | _ => false
  | .or_ es, e => match e with
    | .BoolOp .Or vs _ => ckL cy es vs
    | _ => false
  | .ite c a b, e => match e with
    | .IfExp t x y _ => ckE cy c t && tst c t && ckE cy a x && ckE cy b y
    | _ => false
  | .tup es, e => match e with
    | .Tuple vs _ _ => decide (es.len ≤ 1000) && ckEs cy es vs
    | _ => false
  | .lof f, e => ckF cy f e
  | .mof f, e => cy.calm && ckF cy f e
  | .tof f, e => match e with
    | .Call (.Name x _) [a] [] _ => callN cy x "tuple" && plainE a && ckF cy f a
    | _ => false
  | .allc f, e => match e with
    | .Call (.Name x _) [a] [] _ => cy.calm && callN cy x "all" && plainE a && ckF cy f a
    | _ => false
  | .anyc f, e => match e with
    | .Call (.Name x _) [a] [] _ => cy.calm && callN cy x "any" && plainE a && ckF cy f a
    | _ => false
  | .idx a i, e => match e with
    | .Subscript x y _ => plainE y && ckE cy a x && ckE cy i y
    | _ => false
  | .tsl a lo hi, e => match e with
    | .Subscript x (.Slice l h none _) _ => ckE cy a x && ckO cy lo l && ckO cy hi h
    | _ => false
  | .trev a, e => match e with
    | .Subscript x (.Slice none none (some (.UnaryOp .USub (.Constant (.int i) _ _) _)) _) _ => i == 1 && ckE cy a x
    | _ => false
  | .call f es, e => match e with
    | .Call (.Name x _) (a :: r) [] _ => cy.calm && decide (cy.tb.fns.lookup f = some (x, es.len)) && globB cy x && ckEs cy es (a :: r)
    | _ => false
  | .callv ns i es, e => match e with
    | .Call (.Name x _) (a :: r) [] _ => cy.calm && decide (cy.N[i]? = some x) && visB cy x && (ns.all fun n => match cy.tb.fns.lookup n with
      | some (_, k) => k == es.len
      | none => false) && ckEs cy es (a :: r)
    | _ => false
  | .b1 o a, e => match e with
    | .Call (.Name x _) [y] [] _ => cy.calm && (match b1Name o with
      | some n => callN cy x n
      | none => false) && plainE y && ckE cy a y
    | _ => false
  | .b2 o a b, e => match e with
    | .Call (.Name x _) [y, z] [] _ => cy.calm && callN cy x (b2Name o) && (decide (o ≠ .gcd) || cy.tb.gcd) && plainE y && plainE z && ckE cy a y && ckE cy b z
    | _ => false
  | .meth m o es, e => match e with
    | .Call (.Attribute x nm apos) (a :: r) [] cpos => cy.calm && mthB m nm && baseB x && (apos.endLine == cpos.line) && decide (es.len < 20) && ckE cy o x && ckEs cy es (a :: r)
    | _ => false
  | .unk, _ => true
  | .tix o a, e => match e with
    | .Call (.Attribute x nm apos) [y] [] cpos => cy.calm && decide (nm = ("index" : Str)) && baseB x && (apos.endLine == cpos.line) && plainE y && ckE cy o x && ckE cy a y
    | _ => false
  | .lset a, e => match e with
    | .Call (.Name x _) [.Call (.Name y _) [z] [] _] [] _ => cy.calm && callN cy x "len" && callN cy y "set" && plainE z && ckE cy a z
    | _ => false
  | .strI a, e => match e with
    | .Call (.Name x _) [y] [] _ => callN cy x "str" && plainE y && ckE cy a y
    | _ => false
  | .intS a, e => match e with
    | .Call (.Name x _) [y] [] _ => callN cy x "int" && plainE y && ckE cy a y
    | _ => false
  | .sjn o a, e => match e with
    | .Call (.Attribute x nm apos) [y] [] cpos => decide (nm = ("join" : Str)) && baseB x && (apos.endLine == cpos.line) && plainE y && ckE cy o x && ckE cy a y
    | _ => false
  | .insg a b, e => match e with
    | .Compare l [.In] [r] _ => plainE r && ckE cy a l && ckE cy b r
    | _ => false
  | .srep a b, e => match e with
    | .BinOp l .Mult r _ => ckE cy a l && ckE cy b r
    | _ => false
  | .lsetn a, e => match e with
    | .Call (.Name x _) [.Call (.Name y _) [z] [] _] [] _ => cy.calm && callN cy x "len" && callN cy y "set" && plainE z && ckE cy a z
    | _ => false
  | .rngv a b, e => match e with
    | .Call (.Name x _) [y, z] [] _ => callN cy x "range" && plainE y && plainE z && ckE cy a y && ckE cy b z
    | _ => false
  | .dnew, e => match e with
    | .Dict [] [] _ => cy.calm
    | _ => false
  | .dnewt, e => match e with
    | .Dict [] [] _ => cy.calm
    | _ => false
  | .dnewu, e => match e with
    | .Dict [] [] _ => cy.calm
    | _ => false
  | .xix o a, e => match e with
    | .Call (.Attribute x nm apos) [y] [] cpos => cy.calm && decide (nm = ("index" : Str)) && baseB x && (apos.endLine == cpos.line) && plainE y && ckE cy o x && ckE cy a y
    | _ => false
  | .din neg k d, e => match e with
    | .Compare l [op] [r] _ => ckDin neg op && plainE r && ckE cy k l && ckE cy d r
    | _ => false
  | .mint a, e => match e with
    | .Call (.Name x _) [y] [] _ => cy.calm && callN cy x "min" && plainE y && ckE cy a y
    | _ => false
  | .eline a, e => match a, e with
    | .var i, .Attribute (.Name x xp) f _ => cy.tb.txt && decide (f = ("line" : Str)) && ckE cy (.var i) (.Name x xp)
    | _, _ => false
  | .dlen a, e => match e with
    | .Call (.Name x _) [y] [] _ => cy.calm && callN cy x "len" && plainE y && ckE cy a y
    | _ => false
  | .dgd d k z, e => match e with
    | .Call (.Attribute x nm apos) [y, w] [] cpos => decide (nm = ("get" : Str)) && baseB x && (apos.endLine == cpos.line) && plainE y && plainE w && ckE cy d x && ckE cy k y && ckE cy z w
    | _ => false
  | .dget d k, e => match e with
    | .Subscript x y _ => plainE y && ckE cy d x && ckE cy k y
    | _ => false
  | .isi a t, e => match e with
    | .Call (.Name x _) [y, .Name n _] [] _ => callN cy x "isinstance" && globB cy n && plainE y && ckE cy a y && (match t with
      | .own d => cy.tb.exc && decide (cy.tb.clss.lookup d = some n)
      | .valueError => cy.tb.exc && decide (n = ("ValueError" : Str)) && !cy.tb.clss.isEmpty
      | t => match tyName t with
        | some m => decide (n = m.1)
        | none => false)
    | _ => false
  | _, _ => false
def ckO (cy : Cy) : Oe → Option Expr → Bool
  | .no, e => match e with
    | none => true
    | _ => false
  | .so a, e => match e with
    | some x => ckE cy a x
    | none => false
def ckEs (cy : Cy) : Es → List Expr → Bool
  | .nil, l => l.isEmpty
  | .cons a r, l => match l with
    | x :: xs => plainE x && ckE cy a x && ckEs cy r xs
    | [] => false
/-- the parts of an and, an or: at least one -/
def ckL (cy : Cy) : Es → List Expr → Bool
  | .nil, _ => false
  | .cons a r, l => match l with
    | [] => false
    | x :: xs => ckE cy a x && (match r, xs with
      | .nil, [] => true
      | r, xs => ckL cy r xs)
/-- it can be a test -/
def tst : E → Expr → Bool
  | .not_ a, e => match e with
    | .UnaryOp .Not x _ => tst a x
    | _ => false
  | .and_ es, e => match e with
    | .BoolOp .And vs _ => tstL es vs
    | _ => false
  | .or_ es, e => match e with
    | .BoolOp .Or vs _ => tstL es vs
    | _ => false
  | .cmp _ _ _, _ => true
  | .chain _ _ _ _ _, _ => true
  | .din _ _ _, _ => true
  | .ite _ _ _, _ => false
  | _, e => valE e
def tstL : Es → List Expr → Bool
  | .nil, _ => true
  | .cons a r, l => match l with
    | x :: xs => tst a x && tstL r xs
    | [] => false
def ckF (cy : Cy) : F → Expr → Bool
  | .disp es, e => match e with
    | .List vs _ => decide (es.len ≤ 1000) && ckEs cy es vs
    | _ => false
  | .comp t it c l own, e => match e with
    | .ListComp elt [⟨tg, iter, ifs, n⟩] scope _ => cy.calm && decide (n = 0) && (tgI it tg && ckI cy it iter) && plainE iter && blkC cy.N (scOf cy.sc) scope (ownP cy own) && (t.names.all fun i => own.contains i) && ckT (cy.blk scope) t tg && ckC (cy.blk scope) c ifs && ckE (cy.blk scope) l elt
    | _ => false
  | .compw i t l own, e => match e with
    | .ListComp elt [⟨tg, .Name x _, [], n⟩] scope _ => cy.calm && decide (n = 0) && decide (cy.N[i]? = some x) && visB cy x && blkC cy.N (scOf cy.sc) scope (ownP cy own) && (t.names.all fun i => own.contains i) && ckT (cy.blk scope) t tg && ckE (cy.blk scope) l elt
    | _ => false
  | .copy a, e => match e with
    | .Call (.Name x _) [y] [] _ => callN cy x "list" && plainE y && ckE cy a y
    | _ => false
  | .sorted (.ex a), e => match e with
    | .Call (.Name x _) [y] [] _ => callN cy x "sorted" && plainE y && ckE cy a y
    | _ => false
  | .ofI (.rng1 a), e => match e with
    | .Call (.Name x _) [.Call (.Name y _) [z] [] _] [] _ => cy.calm && callN cy x "list" && callN cy y "range" && plainE z && ckE cy a z
    | _ => false
  | .ofI (.rng2 a b), e => match e with
    | .Call (.Name x _) [.Call (.Name y _) [z, w] [] _] [] _ => cy.calm && callN cy x "list" && callN cy y "range" && plainE z && plainE w && ckE cy a z && ckE cy b w
    | _ => false
  | .slice a lo hi, e => match e with
    | .Subscript x (.Slice l h none _) _ => ckE cy a x && ckO cy lo l && ckO cy hi h
    | _ => false
  | .cat a b, e => match e with
    | .BinOp x op y _ => (match op with | .Add => true | _ => false) && ckE cy a x && ckE cy b y
    | _ => false
  | .rep a b, e => match e with
    | .BinOp x op y _ => (match op with | .Mult => true | _ => false) && ckE cy a x && ckE cy b y
    | _ => false
  | .spl a b, e => match e with
    | .Call (.Attribute x nm apos) [y] [] cpos => decide (nm = ("split" : Str)) && baseB x && (apos.endLine == cpos.line) && plainE y && ckE cy a x && ckE cy b y
    | _ => false
  | .wds a, e => match e with
    | .Call (.Attribute x nm apos) [] [] cpos => decide (nm = ("split" : Str)) && baseB x && (apos.endLine == cpos.line) && ckE cy a x
    | _ => false
  | .dvs a, e => match e with
    | .Call (.Name x _) [.Call (.Attribute y nm apos) [] [] cpos] [] _ => cy.calm && callN cy x "sorted" && decide (nm = ("values" : Str)) && baseB y && (apos.endLine == cpos.line) && ckE cy a y
    | _ => false
  | .sset a, e => match e with
    | .Call (.Name x _) [.Call (.Name y _) [z] [] _] [] _ => cy.calm && callN cy x "sorted" && callN cy y "set" && plainE z && ckE cy a z
    | _ => false
  | .srtt a, e => match e with
    | .Call (.Name x _) [y] [] _ => callN cy x "sorted" && plainE y && ckE cy a y
    | _ => false
  | .srtp a, e => match e with
    | .Call (.Name x _) [y] [] _ => callN cy x "sorted" && plainE y && ckE cy a y
    | _ => false
  | .dsort a, e => match e with
    | .Call (.Name x _) [y] [] _ => cy.calm && callN cy x "sorted" && plainE y && ckE cy a y
    | _ => false
  | .rev a, e => match e with
    | .Subscript x (.Slice none none (some (.UnaryOp .USub (.Constant (.int i) _ _) _)) _) _ => i == 1 && ckE cy a x
    | _ => false
  | _, _ => false
def ckC (cy : Cy) : Es → List Expr → Bool
  | .nil, l => l.isEmpty
  | .cons a r, l => match r, l with
    | .nil, [x] => ckE cy a x && tst a x
    | _, _ => false
def ckI (cy : Cy) : I → Expr → Bool
  | .ex a, e => ckE cy a e
  | .chars a, e => ckE cy a e
  | .rng1 a, e => match e with
    | .Call (.Name x _) [y] [] _ => callN cy x "range" && plainE y && ckE cy a y
    | _ => false
  | .rng2 a b, e => match e with
    | .Call (.Name x _) [y, z] [] _ => callN cy x "range" && plainE y && plainE z && ckE cy a y && ckE cy b z
    | _ => false
  | .enum a, e => match e with
    | .Call (.Name x _) [y] [] _ => callN cy x "enumerate" && plainE y && ckE cy a y
    | _ => false
  | .zip a b, e => match e with
    | .Call (.Name x _) [y, z] [] _ => callN cy x "zip" && plainE y && plainE z && ckE cy a y && ckE cy b z
    | _ => false
  | .zipn es, e => match e with
    | .Call (.Name x _) (y :: r) [] _ => callN cy x "zip" && (y :: r).all plainE && ckEs cy es (y :: r)
    | _ => false
  | .comb a b, e => match e with
    | .Call (.Name x _) [y, z] [] _ => cy.tb.comb && callN cy x "combinations" && plainE y && plainE z && ckE cy a y && ckE cy b z
    | _ => false
  | _, _ => false
def ckT (cy : Cy) : T → Expr → Bool
  | .nm i, e => match e with
    | .Name x _ => decide (cy.N[i]? = some x) && locB cy x
    | _ => false
  | .tp ts, e => match e with
    | .Tuple l _ _ => cy.calm && l.all plainT && decide (l.length = ts.len) && ckTs cy ts l
    | _ => false
  | .ix o i, e => match e with
    | .Subscript x y _ => cy.calm && plainE y && ckE cy o x && ckE cy i y
    | _ => false
  | .dix o i, e => match e with
    | .Subscript x y _ => cy.calm && plainE y && ckE cy o x && ckE cy i y
    | _ => false
def ckTs (cy : Cy) : Ts → List Expr → Bool
  | .nil, l => l.isEmpty
  | .cons t ts, l => match l with
    | x :: xs => ckT cy t x && ckTs cy ts xs
    | [] => false
end
end Mi
end

section
set_option Elab.async false
set_option linter.all false
set_option maxRecDepth 100000
set_option maxHeartbeats 4000000
/-! Snd13: stores; the whole of expressions and targets -/
namespace Mi
open PySem PySem.Spec PyProof.Rows L2
/-! ### a live list is changed -/
mutual
theorem PV.low_mono {n m : Nat} (h : n ≤ m) : ∀ {x : PV}, x.low n = true → x.low m = true
  | .non, _ => rfl
  | .bl _, _ => rfl
  | .int _, _ => rfl
  | .str _, _ => rfl
  | .fn _, _ => rfl
  | .ref k, e => by simp only [PV.low, decide_eq_true_eq] at e ⊢; omega
  | .tup xs, e => by simp only [PV.low] at e ⊢; exact PV.lows_mono h e
  | .lst xs, e => by simp only [PV.low] at e ⊢; exact PV.lows_mono h e
  | .exc _ _, e => by simp [PV.low] at e
  | .scr _, _ => rfl
  | .rng _ _, _ => rfl
  | .exo _ _, _ => rfl
  | .dct _, _ => rfl
theorem PV.lows_mono {n m : Nat} (h : n ≤ m) : ∀ {x : List PV}, PV.lows n x = true → PV.lows m x = true
  | [], _ => rfl
  | x :: xs, e => by
    have e := Bool.and_eq_true_iff.mp e
    exact Bool.and_eq_true_iff.mpr ⟨PV.low_mono h e.1, PV.lows_mono h e.2⟩
end
theorem lows_set {n : Nat} {v : PV} (h : v.low n = true) : ∀ {xs : List PV} (j : Nat), PV.lows n xs = true → PV.lows n (xs.set j v) = true
  | [], _, _ => rfl
  | x :: xs, 0, e => by
    have e := Bool.and_eq_true_iff.mp e
    exact Bool.and_eq_true_iff.mpr ⟨h, e.2⟩
  | x :: xs, j + 1, e => by
    have e := Bool.and_eq_true_iff.mp e
    exact Bool.and_eq_true_iff.mpr ⟨e.1, lows_set h j e.2⟩
theorem lows_app {n : Nat} : ∀ {xs ys : List PV}, PV.lows n xs = true → PV.lows n ys = true → PV.lows n (xs ++ ys) = true
  | [], _, _, h => h
  | x :: xs, ys, e, h => by
    have e := Bool.and_eq_true_iff.mp e
    exact Bool.and_eq_true_iff.mpr ⟨e.1, lows_app e.2 h⟩
section
variable {K : PySem.W.Frag} {fa : Nat → Addr} {B : Nat → Prop} {b : Nat} {h : Hs} {μ : Mu} {H : Hp} {a : Addr} {n : Nat} {xs ys : List PV} {vs ws : List V}
theorem HR.put (g : HR K fa B h μ H) (hb : ∀ c, B c → c ≤ b) (e : h[n]? = some (.lst xs)) (ea : μ.l[n]? = some (some a)) (eH : H a = some (.lst vs)) (r : RVs K fa [] μ H ys ws) (hl : ∀ c, c ≤ b → n < c → PV.lows c xs = true → PV.lows c ys = true) :
    HR K fa B (h.set n (.lst ys)) μ (upd H a (.lst ws)) ∧ Le μ H μ (upd H a (.lst ws)) := by
  have nf : ¬ μ.F a := (g.mu n a ea).2
  have hn : n < h.length := (List.getElem?_eq_some_iff.mp e).1
  refine ⟨⟨fun k c q => ?_, by rw [List.length_set]; exact g.len, fun k o q nd => ?_, g.inj, fun c q => ?_, fun c hc k o hk q => ?_⟩, ⟨fun c o q => ?_, fun c o q => ?_, fun _ _ q => .inl q, Nat.le_refl _, fun _ z => z, fun _ z => .inl z⟩⟩
  · obtain ⟨⟨o, z, i⟩, f⟩ := g.mu k c q
    by_cases hc : c = a
    · subst hc; exact ⟨⟨_, upd_same, rfl⟩, f⟩
    · exact ⟨⟨o, by rw [upd_ne hc]; exact z, i⟩, f⟩
  · by_cases hk : n = k
    · subst hk
      rw [List.getElem?_set_self hn] at q
      cases q
      exact ⟨a, ea, ws, upd_same, r.off eH rfl nf⟩
    · rw [List.getElem?_set_ne hk] at q
      obtain ⟨c, z, ro⟩ := g.obj k o q nd
      have hc : c ≠ a := fun y => hk (g.inj n k a ea (y ▸ z))
      refine ⟨c, z, ?_⟩
      cases o with
      | lst zs => obtain ⟨us, h1, r1⟩ := ro; exact ⟨us, by rw [upd_ne hc]; exact h1, r1.off eH rfl nf⟩
      | dic _ => obtain ⟨ks, h1, ek, r1⟩ := ro; exact ⟨ks, by rw [upd_ne hc]; exact h1, ek, r1.off eH rfl nf⟩
      | dit _ => obtain ⟨ks, h1, ek, r1⟩ := ro; exact ⟨ks, by rw [upd_ne hc]; exact h1, ek, r1.off eH rfl nf⟩
      | diu _ => obtain ⟨ks, h1, ek, r1⟩ := ro; exact ⟨ks, by rw [upd_ne hc]; exact h1, ek, r1.off eH rfl nf⟩
      | dead => exact ro
  · obtain ⟨o, z⟩ := g.fd c q
    have hc : c ≠ a := fun y => nf (y ▸ q)
    exact ⟨o, by rw [upd_ne hc]; exact z⟩
  · by_cases hk' : n = k
    · subst hk'
      rw [List.getElem?_set_self hn] at q
      cases q
      exact hl c (hb c hc) hk (g.lows c hc n _ hk e)
    · rw [List.getElem?_set_ne hk'] at q
      exact g.lows c hc k o hk q
  · by_cases hc : c = a
    · exact .inl ⟨n, hc ▸ ea⟩
    · exact .inr (by rw [upd_ne hc]; exact q)
  · by_cases hc : c = a
    · subst hc; exact ⟨_, upd_same⟩
    · exact ⟨o, by rw [upd_ne hc]; exact q⟩
def Mu.kill (μ : Mu) (n : Nat) (a : Addr) : Mu := ⟨μ.l.set n none, fun x => μ.F x ∨ x = a⟩
/-- a live list is locked from here on -/
theorem HR.kill (g : HR K fa B h μ H) (ea : μ.l[n]? = some (some a)) (eH : H a = some (.lst vs)) (r : RVs K fa [] μ H xs vs) :
    Le μ H (μ.kill n a) H ∧ HR K fa B (h.set n .dead) (μ.kill n a) H ∧ RV K fa [] (μ.kill n a) H (.lst xs) (.ref a) := by
  have hn : n < μ.l.length := (List.getElem?_eq_some_iff.mp ea).1
  have cs : ∀ (k : Nat) c, (μ.kill n a).l[k]? = some (some c) → k ≠ n ∧ μ.l[k]? = some (some c) := fun k c q => by
    by_cases hk : n = k
    · subst hk
      have q : (μ.l.set n none)[n]? = some (some c) := q
      rw [List.getElem?_set_self hn] at q; cases q
    · have q : (μ.l.set n none)[k]? = some (some c) := q
      rw [List.getElem?_set_ne hk] at q
      exact ⟨fun z => hk z.symm, q⟩
  have le : Le μ H (μ.kill n a) H := ⟨fun _ _ e => .inr e, fun _ o e => ⟨o, e⟩, fun k c q => .inl (cs k c q).2, by simp [Mu.kill], fun _ z => .inl z, fun c z => z.elim .inl fun y => .inr (.inr ⟨n, y ▸ ea⟩)⟩
  refine ⟨le, ⟨fun k c q => ?_, by simp [Mu.kill, g.len], fun k o q nd => ?_, fun k m c q1 q2 => g.inj k m c (cs k c q1).2 (cs m c q2).2, fun c z => z.elim (g.fd c) fun y => ⟨_, y ▸ eH⟩, fun c hc k o hk q => ?_⟩, ?_⟩
  · obtain ⟨h1, h2⟩ := cs k c q
    obtain ⟨z, f⟩ := g.mu k c h2
    exact ⟨z, fun y => y.elim f fun w => h1 (g.inj k n a (w ▸ h2) ea)⟩
  · by_cases hk : n = k
    · subst hk
      have : n < h.length := by rw [g.len]; exact hn
      rw [List.getElem?_set_self this] at q
      cases q
      exact absurd rfl nd
    · rw [List.getElem?_set_ne hk] at q
      obtain ⟨c, z, ro⟩ := g.obj k o q nd
      refine ⟨c, ?_, ?_⟩
      · show (μ.l.set n none)[k]? = _
        rw [List.getElem?_set_ne hk]; exact z
      · cases o with
        | lst ys => obtain ⟨ws, h1, r1⟩ := ro; exact ⟨ws, h1, r1.mono le g.mu⟩
        | dic _ => obtain ⟨ks, h1, ek, r1⟩ := ro; exact ⟨ks, h1, ek, r1.mono le g.mu⟩
        | dit _ => obtain ⟨ks, h1, ek, r1⟩ := ro; exact ⟨ks, h1, ek, r1.mono le g.mu⟩
        | diu _ => obtain ⟨ks, h1, ek, r1⟩ := ro; exact ⟨ks, h1, ek, r1.mono le g.mu⟩
        | dead => exact ro
  · by_cases hk' : n = k
    · subst hk'
      have : n < h.length := by rw [g.len]; exact hn
      rw [List.getElem?_set_self this] at q
      cases q
      rfl
    · rw [List.getElem?_set_ne hk'] at q
      exact g.lows c hc k o hk q
  · exact .lst eH (.inr rfl) (r.mono le g.mu)
theorem Post.le {α : Type} {μ' : Mu} {H' : Hp} {r : R α} {k : KA α} {x : KX} (q : Post K fa B μ H r k x) (l : Le μ H μ' H') : Post K fa B μ' H' r k x := by
  cases r with
  | bad => exact q
  | exc c fs h => exact fun μ2 H2 l2 g2 => q μ2 H2 (l.trans l2) g2
  | ok b h => exact fun μ2 H2 l2 g2 => q μ2 H2 (l.trans l2) g2
theorem set_self {α : Type} {s : List α} {i : Nat} {v : α} (e : s[i]? = some v) : s.set i v = s := by
  apply List.ext_getElem?
  intro j
  by_cases h : i = j
  · subst h
    rw [List.getElem?_set_self (List.getElem?_eq_some_iff.mp e).1, e]
  · rw [List.getElem?_set_ne h]
theorem stOk_low {v : PV} (h : stOk b n v = true) {c : Nat} (h1 : c ≤ b) (h2 : n < c) : v.low c = true := by
  unfold stOk at h
  rcases Bool.or_eq_true_iff.mp h with z | z
  · have := of_decide_eq_true z; omega
  · exact PV.low_mono (Nat.zero_le _) z
end
variable {X : Cx} {p : Pk} {cy : Cy} {es : List (Addr × Nat × Option Addr)} {W : WX}
section
variable {a b : Expr} {pos pos' : Pos} {l m : E}
theorem plain_assign {o b : Expr} {pos : Pos} {env : Env} (h : plainE b = true) (v : Value) : assign (.Subscript o b pos) env v = (do
      let ov ← holding [v] (eval o env)
      let iv ← holding [v, ov] (eval b env)
      standAt pos
      holding [v, ov, iv] (setItem ov iv v)
      release [v, ov, iv] []) := by
  cases b <;> first | rfl | (simp [plainE] at h)
theorem snd_ix (g : Good X p cy es W) (hc : cy.calm = true) (pb : plainE b = true) (ha : PE X a (RdE X p es W l)) (hb : PE X b (RdE X p es W m)) : PG X (.Subscript a b pos) (RdG X p es W (.ix l m)) := by
  have he := (g.calm hc).2
  subst he
  refine (pg_sub ha hb set_list (fun v => plain_assign pb v)).imp fun v s H Q ⟨B, b, σ, h, μ, x, st, rx, q⟩ => ?_
  unfold evT at q
  refine seqS st q fun o h1 μ1 H1 ov l1 st1 ro q1 => seqS st1 q1 fun i h2 μ2 H2 iv l2 st2 ri q2 => ?_
  have rx2 := (rx.mono l1 st.hr.mu).mono l2 st1.hr.mu
  have ro2 := ro.mono l2 st1.hr.mu
  cases q3 : putX b o i x h2 with
  | none => rw [q3] at q2; exact q2.elim
  | some h' =>
    rw [q3] at q2
    unfold putX at q3
    cases o with
    | ref n =>
      simp only [] at q3
      split at q3
      · rename_i hs
        split at q3
        · rename_i xs e
          cases i with
          | int k =>
            cases ri.intI
            obtain ⟨ad, rfl⟩ := ro2.refI
            obtain ⟨ea, vs, eH, rv⟩ := st2.hr.lst ro2 e
            cases q4 : Mi.ixN xs.length k with
            | none => simp only [q4] at q3; cases q3
            | some j =>
              simp only [q4] at q3
              cases q3
              refine ⟨ad, vs, k, j, rfl, rfl, eH, by rw [← rv.length, ← ixN_eq]; exact q4, ?_⟩
              obtain ⟨g3, l3⟩ := st2.hr.put st2.bB e ea eH (RVs.set rx2 j rv) fun c c1 c2 c3 => lows_set (stOk_low hs c1 c2) j c3
              exact q2 μ2 _ l3 g3 s (st2.env.mono l3 st2.hr.mu) ⟨rfl, fun _ _ => rfl⟩
          | _ => cases q3
        · cases q3
      · cases q3
    | _ => cases q3
end
/-! ### methods of lists -/
theorem base_ok {o : Expr} (h : baseB o = true) (nm : Str) (env : Env) (w : Sem Value) : attributeBase o nm env w = w := by
  cases o <;> first | rfl | (simp [baseB] at h)
theorem plain_all {pos : Pos} {env : Env} : ∀ {l : List Expr}, l.all plainE = true → (backTo pos (starEach l env)).all (fun x => !x.1) = true
  | [], _ => rfl
  | e :: r, h => by
    simp only [List.all_cons, Bool.and_eq_true] at h
    rw [plain_star h.1]
    show (true && (backTo pos (starEach r env)).all (fun x => !x.1)) = true
    rw [plain_all h.2]
    rfl
section
variable {B : Nat → Prop} {b : Nat} {σ : En} {h h' : Hs} {μ : Mu} {s : L2.St} {H : Hp} {x : PV} {v : V} {xs : List PV}
theorem lItems_ok (g : HR X.K p.fa B h μ H) (r : RV X.K p.fa es μ H x v) (e : lItems h x = some xs) : ∃ a vs, v = .ref a ∧ SqL X.K H a vs ∧ RVs X.K p.fa es μ H xs vs := by
  cases x with
  | lst ys =>
    cases e
    cases r with
    | lst h1 h2 h3 => exact ⟨_, _, rfl, .of h1, h3⟩
  | ref n =>
    simp only [lItems] at e
    split at e
    · rename_i ys e1
      cases e
      obtain ⟨ad, rfl⟩ := r.refI
      obtain ⟨ea, vs, eH, rv⟩ := g.lst r e1
      exact ⟨_, _, rfl, .of eH, rv.any⟩
    · cases e
  | _ => cases e
theorem lows_take {n : Nat} : ∀ {xs : List PV} (k : Nat), PV.lows n xs = true → PV.lows n (xs.take k) = true
  | [], k, _ => by simp; rfl
  | x :: xs, 0, _ => rfl
  | x :: xs, k + 1, e => by
    have e := Bool.and_eq_true_iff.mp e
    exact Bool.and_eq_true_iff.mpr ⟨e.1, lows_take k e.2⟩
theorem lows_drop {n : Nat} : ∀ {xs : List PV} (k : Nat), PV.lows n xs = true → PV.lows n (xs.drop k) = true
  | [], k, _ => by simp; rfl
  | x :: xs, 0, e => e
  | x :: xs, k + 1, e => by
    have e := Bool.and_eq_true_iff.mp e
    exact lows_drop k e.2
theorem lows_era {n : Nat} : ∀ {xs : List PV} (k : Nat), PV.lows n xs = true → PV.lows n (xs.eraseIdx k) = true
  | [], k, _ => by simp; rfl
  | x :: xs, 0, e => (Bool.and_eq_true_iff.mp e).2
  | x :: xs, k + 1, e => by
    have e := Bool.and_eq_true_iff.mp e
    exact Bool.and_eq_true_iff.mpr ⟨e.1, lows_era k e.2⟩
end
theorem lows_all {n : Nat} : ∀ {xs : List PV}, (∀ y ∈ xs, y.low n = true) → PV.lows n xs = true
  | [], _ => rfl
  | x :: xs, h => Bool.and_eq_true_iff.mpr ⟨h x List.mem_cons_self, lows_all fun y hy => h y (List.mem_cons_of_mem _ hy)⟩
section
variable {o : E} {ms : Es} {oe e : Expr} {r : List Expr} {nm : Str} {apos cpos : Pos}
theorem imp_meth {m : Mth} {rr : V → List V → Hp → VK → Prop}
    (fin : ∀ (B : Nat → Prop) (b : Nat) (σ : En) (x : PV) (vs : List PV) (h2 : Hs) (μ2 : Mu) (s : L2.St) (H2 : Hp) (v : V) (ws : List V) (r' : PV × Hs) (Q : VK), Stt X.K p es B b σ h2 μ2 s H2 → RV X.K p.fa es μ2 H2 x v → RVs X.K p.fa es μ2 H2 vs ws → evMeth b h2 m x vs = some r' →
      (∀ μ' H', Le μ2 H2 μ' H' → HR X.K p.fa B r'.2 μ' H' → ∀ u, RV X.K p.fa es μ' H' r'.1 u → Q u H') → rr v ws H2 Q) :
    ∀ s H Q, RdE X p es W (.meth m o ms) s H Q → tBM X.K "list" rr (RdE X p es W o) (RdA X p es W ms) s H Q := fun s H Q ⟨B, b, σ, h, μ, st, q⟩ => by
  unfold evE at q
  refine seqE st q fun x h1 μ1 H1 v l1 st1 rx q1 => ?_
  split at q1
  · rename_i hl
    unfold isL at hl
    obtain ⟨xs, hx⟩ := Option.isSome_iff_exists.mp hl
    obtain ⟨a, us, rfl, sq, _⟩ := lItems_ok st1.hr rx hx
    refine ⟨.inl ⟨rfl, _, sq⟩, seqA st1 q1 fun vs h2 μ2 H2 ws l2 st2 rs q2 => ?_⟩
    obtain ⟨z, ez, kz⟩ := Post.of q2.bind
    refine fin B b σ x vs h2 μ2 s H2 _ ws z Q st2 (rx.mono l2 st1.hr.mu) rs ez fun μ' H' l g u ru => ?_
    exact (kz μ2 H2 .refl st2.hr) μ' H' l g u ru
  · exact q1.elim
theorem meth_call (pl : (e :: r).all plainE = true) (hn : (e :: r).length < 20) {rr : V → List V → Hp → VK → Prop} {id : String} {to : TE} {t : TA} (hb : baseB oe = true) (hl : (apos.endLine == cpos.line) = true) (slot : Slot "list" nm id) (hty : typeOf (.builtin id) = pure (.type "method_descriptor")) (hm : MtR X id rr) (ho : PE X oe to) (ha : PA X (e :: r) t) :
    PE X (.Call (.Attribute oe nm apos) (e :: r) [] cpos) (tBM X.K "list" rr to t) := by
  have pl' := pl
  simp only [List.all_cons, Bool.and_eq_true] at pl'
  refine pe_bm PySem.F.plainAttrs_list slot hty hm ho ha (base_ok hb _ _ _) ?_ hl (plain_star pl'.1 _ _) (plain_any pl'.2)
  rw [plain_all pl]
  refine Bool.and_eq_true_iff.mpr ⟨rfl, decide_eq_true ?_⟩
  show (e :: r).length + 0 + 0 < 30
  omega

theorem seq_ix {n j : Nat} {i : Int} (h : Mi.ixN n i = some j) : seqIndex? i n = some j := by
  unfold Mi.ixN at h
  split at h
  · split at h
    · rw [seqIndex_of ‹_› ‹_›]; exact h
    · cases h
  · split at h
    · rw [seqIndex_neg (by omega) (by omega)]; exact h
    · cases h
theorem ixOf_ok {v : PV} : ∀ {xs : List PV} {k j : Nat}, ixOf v xs k = some j → k ≤ j ∧ ∃ x, xs[j - k]? = some x ∧ PV.eqB x v = true ∧ ∀ (i : Nat) (y : PV), i < j - k → xs[i]? = some y → PV.eqB y v = false
  | [], k, j, h => by cases h
  | x :: xs, k, j, h => by
    unfold ixOf at h
    split at h
    · rename_i c
      cases h
      exact ⟨Nat.le_refl _, x, by simp, c, fun i y hi => by omega⟩
    · rename_i c
      obtain ⟨h1, y, h2, h3, h4⟩ := ixOf_ok h
      refine ⟨by omega, y, ?_, h3, fun i z hi hz => ?_⟩
      · rw [show j - k = (j - (k + 1)) + 1 by omega, List.getElem?_cons_succ]
        exact h2
      · cases i with
        | zero => simp at hz; subst hz; simpa using c
        | succ i => exact h4 i z (by omega) (by simpa using hz)
theorem snd_meth (g : Good X p cy es W) (hc : cy.calm = true) {m : Mth} (hm : mthB m nm = true) (hb : baseB oe = true) (hl : (apos.endLine == cpos.line) = true) (hn : (e :: r).length < 20) (pl : (e :: r).all plainE = true) (ho : PE X oe (RdE X p es W o)) (ha : PA X (e :: r) (RdA X p es W ms)) :
    PE X (.Call (.Attribute oe nm apos) (e :: r) [] cpos) (RdE X p es W (.meth m o ms)) := by
  have he := (g.calm hc).2
  subst he
  cases m with
  | append =>
    have hm := of_decide_eq_true hm
    subst hm
    refine (meth_call pl hn hb hl PySem.F.slot_list_append PySem.F.type_list_append mt_append ho ha).imp (imp_meth fun B b σ x vs h2 μ2 s H2 v ws r' Q st rx rs ez k => ?_)
    match x, vs, ws, rx, rs, ez with
    | .ref n, [y], _, rx, .cons (v := w) ry .nil, ez =>
      simp only [evMeth] at ez
      split at ez
      · rename_i hs
        split at ez
        · rename_i xs e1
          split at ez
          · rename_i hx
            cases ez
            obtain ⟨ad, rfl⟩ := rx.refI
            obtain ⟨ea, us, eH, rv⟩ := st.hr.lst rx e1
            obtain ⟨g3, l3⟩ := st.hr.put st.bB e1 ea eH (rv.append (.cons ry .nil)) fun c c1 c2 c3 => lows_app c3 (Bool.and_eq_true_iff.mpr ⟨stOk_low hs c1 c2, rfl⟩)
            exact ⟨ad, us, w, rfl, rfl, eH, by rw [← rv.length]; exact Nat.lt_of_lt_of_le hx (line_le (Nat.le_refl _)), k _ _ l3 g3 _ .non⟩
          · cases ez
        · cases ez
      · cases ez
  | extend =>
    have hm := of_decide_eq_true hm
    subst hm
    refine (meth_call pl hn hb hl PySem.F.slot_list_extend PySem.F.type_list_extend mtExt2 ho ha).imp (imp_meth fun B b σ x vs h2 μ2 s H2 v ws r' Q st rx rs ez k => ?_)
    match x, vs, ws, rx, rs, ez with
    | .ref n, [.lst ys], _, rx, .cons (v := w) ry .nil, ez =>
      simp only [evMeth] at ez
      split at ez
      · rename_i hs
        split at ez
        · rename_i xs e1
          split at ez
          · rename_i hx
            cases ez
            obtain ⟨ad, rfl⟩ := rx.refI
            obtain ⟨ea, us, eH, rv⟩ := st.hr.lst rx e1
            cases ry with
            | lst s2 m2 r2 =>
            obtain ⟨g3, l3⟩ := st.hr.put st.bB e1 ea eH (rv.append r2) fun c c1 c2 c3 => lows_app c3 (lows_all fun y hy => stOk_low (List.all_eq_true.mp hs y hy) c1 c2)
            exact .inl ⟨ad, _, us, _, rfl, rfl, eH, s2, by rw [← rv.length, ← r2.length]; exact Nat.le_trans hx (line_le (Nat.le_refl _)), k _ _ l3 g3 _ .non⟩
          · cases ez
        · cases ez
      · cases ez
    | .ref n, [.tup ys], _, rx, .cons (v := w) ry .nil, ez =>
      simp only [evMeth] at ez
      split at ez
      · rename_i hs
        split at ez
        · rename_i xs e1
          split at ez
          · rename_i hx
            cases ez
            obtain ⟨ad, rfl⟩ := rx.refI
            obtain ⟨ea, us, eH, rv⟩ := st.hr.lst rx e1
            cases ry with
            | tup s2 r2 =>
            obtain ⟨g3, l3⟩ := st.hr.put st.bB e1 ea eH (rv.append r2) fun c c1 c2 c3 => lows_app c3 (lows_all fun y hy => stOk_low (List.all_eq_true.mp hs y hy) c1 c2)
            exact .inr ⟨ad, _, us, _, rfl, rfl, eH, s2.t, by rw [← rv.length, ← r2.length]; exact Nat.le_trans hx (line_le (Nat.le_refl _)), k _ _ l3 g3 _ .non⟩
          · cases ez
        · cases ez
      · cases ez
  | insert =>
    have hm := of_decide_eq_true hm
    subst hm
    refine (meth_call pl hn hb hl PySem.F.slot_list_insert PySem.F.type_list_insert mt_insert ho ha).imp (imp_meth fun B b σ x vs h2 μ2 s H2 v ws r' Q st rx rs ez k => ?_)
    match x, vs, ws, rx, rs, ez with
    | .ref n, [.int i, y], _, rx, .cons ri (.cons (v := w) ry .nil), ez =>
      cases ri.intI
      simp only [evMeth] at ez
      split at ez
      · rename_i hs
        obtain ⟨hs, h0, h1⟩ := hs
        split at ez
        · rename_i xs e1
          split at ez
          · rename_i hx
            cases ez
            obtain ⟨ad, rfl⟩ := rx.refI
            obtain ⟨ea, us, eH, rv⟩ := st.hr.lst rx e1
            obtain ⟨g3, l3⟩ := st.hr.put st.bB e1 ea eH (((rv.take i.toNat).append (.cons ry .nil)).append (rv.drop i.toNat)) fun c c1 c2 c3 => lows_app (lows_app (lows_take _ c3) (Bool.and_eq_true_iff.mpr ⟨stOk_low hs c1 c2, rfl⟩)) (lows_drop _ c3)
            exact ⟨ad, us, i, w, rfl, rfl, eH, by rw [← rv.length]; exact Nat.lt_of_lt_of_le hx (line_le (Nat.le_refl _)), h0, by omega, k _ _ l3 g3 _ .non⟩
          · cases ez
        · cases ez
      · cases ez
  | popAt =>
    have hm := of_decide_eq_true hm
    subst hm
    refine (meth_call pl hn hb hl PySem.F.slot_list_pop PySem.F.type_list_pop mt_popAt ho ha).imp (imp_meth fun B b σ x vs h2 μ2 s H2 v ws r' Q st rx rs ez k => ?_)
    match x, vs, ws, rx, rs, ez with
    | .ref n, [.int i], _, rx, .cons ri .nil, ez =>
      cases ri.intI
      simp only [evMeth] at ez
      split at ez
      · rename_i hs
        obtain ⟨h0, h1⟩ := hs
        split at ez
        · rename_i xs e1
          obtain ⟨j, ej, ez⟩ := Option.bind_eq_some_iff.mp ez
          obtain ⟨u, eu, ez⟩ := Option.map_eq_some_iff.mp ez
          cases ez
          obtain ⟨ad, rfl⟩ := rx.refI
          obtain ⟨ea, us, eH, rv⟩ := st.hr.lst rx e1
          obtain ⟨w, ew, rw'⟩ := rv.get eu
          obtain ⟨g3, l3⟩ := st.hr.put st.bB e1 ea eH (rv.erase j) fun c c1 c2 c3 => lows_era _ c3
          refine ⟨ad, us, i, j, w, rfl, rfl, eH, by omega, by omega, ?_, ew, k _ _ l3 g3 _ (rw'.mono l3 st.hr.mu)⟩
          rw [← rv.length]
          exact seq_ix ej
        · cases ez
      · cases ez
  | index =>
    have hm := of_decide_eq_true hm
    subst hm
    refine (meth_call pl hn hb hl PySem.F.slot_list_index PySem.F.type_list_index mt_index ho ha).imp (imp_meth fun B b σ x vs h2 μ2 s H2 v ws r' Q st rx rs ez k => ?_)
    match vs, ws, rs, ez with
    | [y], _, .cons (v := w) ry .nil, ez =>
      simp only [evMeth] at ez
      obtain ⟨xs, hx, ez⟩ := Option.bind_eq_some_iff.mp ez
      split at ez
      · rename_i hf
        have hf := Bool.and_eq_true_iff.mp hf
        obtain ⟨j, ej, ez⟩ := Option.map_eq_some_iff.mp ez
        cases ez
        obtain ⟨a, us, rfl, sq, rv⟩ := lItems_ok st.hr rx hx
        obtain ⟨_, z, e1, e2, e3⟩ := ixOf_ok ej
        simp only [Nat.sub_zero] at e1 e3
        obtain ⟨zv, ez, rz⟩ := rv.get e1
        have fl : ∀ {i : Nat} {t : PV}, xs[i]? = some t → t.flat = true := fun h => List.all_eq_true.mp hf.2 _ (List.mem_of_getElem? h)
        refine ⟨a, us, w, j, zv, rfl, rfl, sq, flat_of ry hf.1, flats_of rv hf.2, ez, by rw [eqV_of rz ry (fl e1) hf.1]; exact e2, fun i t hi ht => ?_, k _ _ .refl st.hr _ (.int _)⟩
        have hi2 : i < xs.length := by
          have := (List.getElem?_eq_some_iff.mp ht).1
          rw [rv.length]; exact this
        obtain ⟨t', et, rt⟩ := rv.get (List.getElem?_eq_getElem hi2)
        rw [ht] at et
        cases et
        rw [eqV_of rt ry (fl (List.getElem?_eq_getElem hi2)) hf.1]
        exact e3 i _ hi (List.getElem?_eq_getElem hi2)
      · cases ez
  | _ => cases hm
end
/-! ### the whole -/
theorem callN_of {x nm : Str} (h : callN cy x nm = true) : x = nm ∧ globB cy x = true := by
  have h := Bool.and_eq_true_iff.mp h
  exact ⟨of_decide_eq_true h.1, h.2⟩
theorem ckEs_plain : ∀ {ms : Es} {l : List Expr}, ckEs cy ms l = true → l.all plainE = true ∧ ms.len = l.length
  | .nil, l, h => by
    unfold ckEs at h
    cases l with
    | nil => exact ⟨rfl, rfl⟩
    | cons _ _ => cases h
  | .cons a r, l, h => by
    unfold ckEs at h
    cases l with
    | nil => cases h
    | cons x xs =>
      simp only [Bool.and_eq_true] at h
      obtain ⟨h1, h2⟩ := ckEs_plain h.2
      exact ⟨by simp [h.1.1, h1], by show r.len + 1 = xs.length + 1; rw [h2]⟩
theorem lookup_map_relN {names sc : List (Str × NameKind)} {x : Str} : (relN names sc).lookup x = some .cell → (∃ k, names.lookup x = some k ∧ (k = .cell ∨ k = .free)) := by
  unfold relN
  induction names with
  | nil => intro h; cases h
  | cons y r ih =>
    obtain ⟨n, k⟩ := y
    intro h
    rw [List.map_cons] at h
    by_cases hx : x = n
    · subst hx
      rw [List.lookup_cons] 
      simp only [beq_self_eq_true]
      refine ⟨k, rfl, ?_⟩
      simp only [] at h
      split at h
      · rename_i hc
        simp only [Bool.and_eq_true] at hc
        exact .inr (by simpa using hc.1)
      · rw [List.lookup_cons] at h
        simp only [beq_self_eq_true] at h
        cases h
        exact .inl rfl
    · have hb : (x == n) = false := by simpa using hx
      rw [List.lookup_cons, hb]
      have h' : List.lookup x (r.map fun (p : Str × NameKind) => match p with | (n, k) => if (k == .free && sc.lookup n == some .cell) then (n, NameKind.cell) else (n, k)) = some .cell := by
        simp only [] at h
        split at h <;> (rw [List.lookup_cons, hb] at h; exact h)
      exact ih h'
theorem mem_of_lookup {l : List (Str × NameKind)} {x : Str} {k : NameKind} (h : l.lookup x = some k) : (x, k) ∈ l := by
  induction l with
  | nil => cases h
  | cons y r ih =>
    obtain ⟨n, j⟩ := y
    rw [List.lookup_cons] at h
    by_cases hx : x = n
    · subst hx
      simp only [beq_self_eq_true] at h
      cases h
      exact List.mem_cons_self
    · have hb : (x == n) = false := by simpa using hx
      rw [hb] at h
      exact List.mem_cons_of_mem _ (ih h)
theorem Good.blk (g : Good X p cy es W) (hc : cy.calm = true) {scope : Scope} (hk : scope.kind = .function) (s : Shared) (H : Hp) (C : Addr) (cl : List (Str × Addr)) (fp : List Addr) : Good (X.blk s H scope (compEnvC scope cl C X.env) fp) p (cy.blk scope) [] WN where
  N := g.N
  nd := g.nd
  sc := by
    show (relS scope X.env.scope).names = relN scope.names cy.sc
    unfold relS relN
    rw [← g.sc]
    refine List.map_congr_left fun y _ => ?_
    obtain ⟨n, k⟩ := y
    simp only [g.kind]
    have : ((NameKind.free == NameKind.free) : Bool) = true := rfl
    cases k <;> simp
  kind := hk
  fn := fun x h1 h2 => by
    show (scope.names.lookup x == some .cell) = true
    obtain ⟨k, h3, h4⟩ := lookup_map_relN h1
    rcases h4 with h4 | h4
    · subst h4; rw [h3]; rfl
    · subst h4
      exfalso
      have m := mem_of_lookup h3
      have : ((scope.names.filter fun y => y.2 == .free).map (·.1)).contains x = true := by
        rw [List.contains_iff_mem]
        exact List.mem_map.mpr ⟨(x, .free), List.mem_filter.mpr ⟨m, rfl⟩, rfl⟩
      have h2 : ((scope.names.filter fun y => y.2 == .free).map (·.1)).contains x = false := h2
      rw [this] at h2
      cases h2
  calm := fun _ => ⟨(g.calm hc).1, rfl⟩
  room := fun _ => g.room hc
  top := fun h => nomatch h
  un := g.un
  tk := fun u s' ⟨_, _, _, _, _, _, _, _, _, _, _, _, _, _, _, _, z⟩ => z.elim
  po := PassesOwn.never
  fns := g.fns
  cons := g.cons
  dics := g.dics
  blt := g.blt
  gcd := g.gcd
  hasgcd := g.hasgcd
  hascmb := g.hascmb
  exm := g.exm
  exv := g.exv
  mkx := fun c x h => by
    obtain ⟨hcl, mk⟩ := g.mkx c x h
    refine ⟨hcl, fun ne => ?_⟩
    obtain ⟨B, newId, initId, bm, hb, hin, hk, hr⟩ := mk ne
    exact ⟨B, newId, initId, bm, hb, hin, hk, hr⟩
  mkt := g.mkt
  fac := g.fac
  exu := fun x h => by cases h
  exi := fun a c d h => by cases h
  exf := fun _ a d h => by cases h
theorem blkOk_sc {N : List Str} {sc sc' scope : Scope} {own : List (Str × Nat)} (h : sc.names = sc'.names) (k : BlkOk N sc scope own) : BlkOk N sc' scope own := ⟨k.kind, k.uniq, k.ix, fun y hy e => by rw [← h]; exact k.free y hy e, k.own⟩
theorem ownP_ix {own : List Nat} : (ownP cy own).map (·.2) = own := by
  unfold ownP
  rw [List.map_map]
  exact List.map_id' own
end Mi
end

section
set_option Elab.async false
set_option linter.all false
set_option maxRecDepth 100000
set_option maxHeartbeats 4000000
/-! SndA: len(set(..)) -/
namespace Mi
open PySem PySem.Spec PyProof.Rows L2
variable {X : Cx} {p : Pk} {cy : Cy} {es : List (Addr × Nat × Option Addr)} {W : WX}
section
variable {a : E} {e : Expr} {x y : Str} {pos p1 p2 p3 : Pos}
theorem snd_tix {o : E} {oe : Expr} {nm : Str} {apos cpos : Pos} (g : Good X p cy es W) (hc : cy.calm = true) (hn : nm = ("index" : Str)) (hb : baseB oe = true) (hl : (apos.endLine == cpos.line) = true) (pl : plainE e = true) (ho : PE X oe (RdE X p es W o)) (ha : PE X e (RdE X p es W a)) :
    PE X (.Call (.Attribute oe nm apos) [e] [] cpos) (RdE X p es W (.tix o a)) := by
  have he := (g.calm hc).2
  subst he hn
  refine (peMB PySem.F.slot_tuple_index PySem.F.type_tuple_index mtTix ho (pa_one pl ha) (base_ok hb _ _ _) (by rw [plain_all (show ([e] : List Expr).all plainE = true by simp [pl])]; rfl) hl (plain_star pl _ _) (plain_any (l := []) rfl)).imp fun s H Q ⟨B, b, σ, h, μ, st, q⟩ => ?_
  unfold evE at q
  refine seqE st q fun x h1 μ1 H1 v l1 st1 rx q1 => ?_
  cases x with
  | tup xs =>
    have q1 : Post X.K p.fa B μ1 H1 ((evE p.C b a σ h1).bind fun y h => R.of (tixV (.tup xs) y) h) (KE' X p [] Q) (XW p W s) := q1
    obtain ⟨ad, vs, rfl, sq, r⟩ := rx.tupB
    refine ⟨⟨_, _, rfl, sq⟩, seqE st1 q1 fun y h2 μ2 H2 w l2 st2 ry q2 => ?_⟩
    obtain ⟨z, ez, kz⟩ := Post.of q2
    simp only [tixV] at ez
    split at ez
    · rename_i hf
      have hf := Bool.and_eq_true_iff.mp hf
      obtain ⟨j, ej, ez⟩ := Option.map_eq_some_iff.mp ez
      cases ez
      obtain ⟨ad', us, e', sq, rv⟩ := (rx.mono l2 st1.hr.mu).tupI
      cases e'
      obtain ⟨_, t, e1, e2, e3⟩ := ixOf_ok ej
      simp only [Nat.sub_zero] at e1 e3
      obtain ⟨zv, ez, rz⟩ := rv.get e1
      have fl : ∀ {i : Nat} {t : PV}, xs[i]? = some t → t.flat = true := fun h => List.all_eq_true.mp hf.2 _ (List.mem_of_getElem? h)
      refine ⟨ad, us, w, j, zv, rfl, rfl, sq, flat_of ry hf.1, flats_of rv hf.2, ez, by rw [eqV_of rz ry (fl e1) hf.1]; exact e2, fun i t hi ht => ?_, kz μ2 H2 .refl st2.hr _ (.int _)⟩
      have hi2 : i < xs.length := by
        have := (List.getElem?_eq_some_iff.mp ht).1
        rw [rv.length]; exact this
      obtain ⟨t', et, rt⟩ := rv.get (List.getElem?_eq_getElem hi2)
      rw [ht] at et
      cases et
      rw [eqV_of rt ry (fl (List.getElem?_eq_getElem hi2)) hf.1]
      exact e3 i _ hi (List.getElem?_eq_getElem hi2)
    · cases ez
  | _ => exact q1.elim
theorem pe_or {e : Expr} {t1 t2 : TE} (h1 : PE X e t1) (h2 : PE X e t2) : PE X e (fun σ H Q => t1 σ H Q ∨ t2 σ H Q) := ⟨fun pins s σ H Q I q => q.elim (h1.run pins s σ H Q I) (h2.run pins s σ H Q I)⟩
theorem two_ways {r : R PV} {f f1 f2 : PV → Hs → R PV} (e1 : ∀ x h, isTup x = true → f1 x h = f x h) (e2 : ∀ x h, isTup x = false → f2 x h = f x h) : r.bind f = r.bind f1 ∨ r.bind f = r.bind f2 := by
  cases r with
  | bad => exact .inl rfl
  | exc c fs h => exact .inl rfl
  | ok x h =>
    by_cases c : isTup x = true
    · exact .inl (e1 x h c).symm
    · exact .inr (e2 x h (by simpa using c)).symm
theorem snd_xix {o : E} {oe : Expr} {nm : Str} {apos cpos : Pos} (g : Good X p cy es W) (hc : cy.calm = true) (hn : nm = ("index" : Str)) (hb : baseB oe = true) (hl : (apos.endLine == cpos.line) = true) (pl : plainE e = true) (ho : PE X oe (RdE X p es W o)) (ha : PE X e (RdE X p es W a)) :
    PE X (.Call (.Attribute oe nm apos) [e] [] cpos) (RdE X p es W (.xix o a)) := by
  have he := (g.calm hc).2
  subst he hn
  have pa : ([e] : List Expr).all plainE = true := by simp [pl]
  have p1 := peMB PySem.F.slot_tuple_index PySem.F.type_tuple_index mtTix ho (pa_one pl ha) (cpos := cpos) (apos := apos) (base_ok hb _ _ _) (by rw [plain_all pa]; rfl) hl (plain_star pl _ _) (plain_any (l := []) rfl)
  have p2 := meth_call (cpos := cpos) (apos := apos) pa (by simp) hb hl PySem.F.slot_list_index PySem.F.type_list_index mt_index ho (pa_one pl ha)
  refine (pe_or p1 p2).imp fun s H Q ⟨B, b, σ, h, μ, st, q⟩ => ?_
  unfold evE at q
  rcases two_ways (r := evE p.C b o σ h) (f := fun x h => if isTup x || isL h x then (evE p.C b a σ h).bind fun y h => R.of (xixV h x y) h else .bad)
    (f1 := fun x h => if isTup x then (evE p.C b a σ h).bind fun y h => R.of (xixV h x y) h else .bad) (f2 := fun x h => if isL h x then (evE p.C b a σ h).bind fun y h => R.of (xixV h x y) h else .bad)
    (fun x h c => by simp only [c, Bool.true_or, if_true]) (fun x h c => by simp only [c, Bool.false_or]) with e | e
  · rw [e] at q
    refine .inl (seqE st q fun x h1 μ1 H1 v l1 st1 rx q1 => ?_)
    cases x with
    | tup xs =>
      have q1 : Post X.K p.fa B μ1 H1 ((evE p.C b a σ h1).bind fun y h => R.of (xixV h (.tup xs) y) h) (KE' X p [] Q) (XW p W s) := q1
      obtain ⟨ad, vs, rfl, sq, r⟩ := rx.tupB
      refine ⟨⟨_, _, rfl, sq⟩, seqE st1 q1 fun y h2 μ2 H2 w l2 st2 ry q2 => ?_⟩
      obtain ⟨z, ez, kz⟩ := Post.of q2
      simp only [xixV, items, Option.bind_some] at ez
      split at ez
      · rename_i hf
        have hf := Bool.and_eq_true_iff.mp hf
        obtain ⟨j, ej, ez⟩ := Option.map_eq_some_iff.mp ez
        cases ez
        obtain ⟨ad', us, e', sq, rv⟩ := (rx.mono l2 st1.hr.mu).tupI
        cases e'
        obtain ⟨_, t, e1, e2, e3⟩ := ixOf_ok ej
        simp only [Nat.sub_zero] at e1 e3
        obtain ⟨zv, ez, rz⟩ := rv.get e1
        have fl : ∀ {i : Nat} {t : PV}, xs[i]? = some t → t.flat = true := fun h => List.all_eq_true.mp hf.2 _ (List.mem_of_getElem? h)
        refine ⟨ad, us, w, j, zv, rfl, rfl, sq, flat_of ry hf.1, flats_of rv hf.2, ez, by rw [eqV_of rz ry (fl e1) hf.1]; exact e2, fun i t hi ht => ?_, kz μ2 H2 .refl st2.hr _ (.int _)⟩
        have hi2 : i < xs.length := by
          have := (List.getElem?_eq_some_iff.mp ht).1
          rw [rv.length]; exact this
        obtain ⟨t', et, rt⟩ := rv.get (List.getElem?_eq_getElem hi2)
        rw [ht] at et
        cases et
        rw [eqV_of rt ry (fl (List.getElem?_eq_getElem hi2)) hf.1]
        exact e3 i _ hi (List.getElem?_eq_getElem hi2)
      · cases ez
    | _ => exact q1.elim
  · rw [e] at q
    refine .inr (seqE st q fun x h1 μ1 H1 v l1 st1 rx q1 => ?_)
    split at q1
    · rename_i hl
      unfold isL at hl
      obtain ⟨xs0, hx⟩ := Option.isSome_iff_exists.mp hl
      have nt : ∀ ys, x ≠ .tup ys := fun ys e => by subst e; cases hx
      obtain ⟨a0, us0, rfl, sq0, _⟩ := lItems_ok st1.hr rx hx
      refine ⟨.inl ⟨rfl, _, sq0⟩, seqE st1 q1 fun y h2 μ2 H2 w l2 st2 ry q2 => ?_⟩
      obtain ⟨z, ez, kz⟩ := Post.of q2
      simp only [xixV] at ez
      obtain ⟨xs, hx, ez⟩ := Option.bind_eq_some_iff.mp ez
      split at ez
      · rename_i hf
        have hf := Bool.and_eq_true_iff.mp hf
        obtain ⟨j, ej, ez⟩ := Option.map_eq_some_iff.mp ez
        cases ez
        obtain ⟨a, us, e', sq, rv⟩ := list_of st2.hr (rx.mono l2 st1.hr.mu) nt hx
        cases e'
        obtain ⟨_, z, e1, e2, e3⟩ := ixOf_ok ej
        simp only [Nat.sub_zero] at e1 e3
        obtain ⟨zv, ez, rz⟩ := rv.get e1
        have fl : ∀ {i : Nat} {t : PV}, xs[i]? = some t → t.flat = true := fun h => List.all_eq_true.mp hf.2 _ (List.mem_of_getElem? h)
        refine ⟨a0, us, w, j, zv, rfl, rfl, sq, flat_of ry hf.1, flats_of rv hf.2, ez, by rw [eqV_of rz ry (fl e1) hf.1]; exact e2, fun i t hi ht => ?_, kz μ2 H2 .refl st2.hr _ (.int _)⟩
        have hi2 : i < xs.length := by
          have := (List.getElem?_eq_some_iff.mp ht).1
          rw [rv.length]; exact this
        obtain ⟨t', et, rt⟩ := rv.get (List.getElem?_eq_getElem hi2)
        rw [ht] at et
        cases et
        rw [eqV_of rt ry (fl (List.getElem?_eq_getElem hi2)) hf.1]
        exact e3 i _ hi (List.getElem?_eq_getElem hi2)
      · cases ez
    · exact q1.elim
theorem snd_lset (g : Good X p cy es W) (hc : cy.calm = true) (hx0 : x = "len") (hx : globB cy x = true) (hy0 : y = "set") (hy : globB cy y = true) (pl : plainE e = true) (ha : PE X e (RdE X p es W a)) :
    PE X (.Call (.Name x p1) [.Call (.Name y p2) [e] [] p3] [] pos) (RdE X p es W (.lset a)) := by
  subst hx0 hy0
  have hm : X.mg "len" = none := g.blt _ (by decide)
  have hm2 : X.mg "set" = none := g.blt _ (by decide)
  refine (peLset (g.glob hx) hm (g.glob hy) hm2 ha (g.calm hc).1 (plain_star pl _ _)).imp fun s H Q ⟨B, b, σ, h, μ, st, q⟩ => ?_
  unfold evE at q
  refine seqE st q fun x h1 μ1 H1 v l1 st1 rx q1 => ?_
  obtain ⟨z, ez, kz⟩ := Post.of q1
  have ez : ((items h1 x).bind fun xs => (intsP xs).bind fun l => if l.length ≤ 4000 then some (PV.int (fmI [] l).length) else none) = some z := ez
  obtain ⟨xs, e, ez⟩ := Option.bind_eq_some_iff.mp ez
  obtain ⟨ns, e2, ez⟩ := Option.bind_eq_some_iff.mp ez
  split at ez
  · rename_i hl
    cases ez
    by_cases nt : ∃ ys, x = .tup ys
    · obtain ⟨ys, rfl⟩ := nt
      cases e
      obtain ⟨ad, vs, rfl, sq, r⟩ := rx.tupI
      have ev := ints_of r e2
      subst ev
      exact ⟨ad, ns, rfl, .inr sq, hl, kz μ1 H1 .refl st1.hr _ (.int _)⟩
    · obtain ⟨ad, vs, rfl, sq, r⟩ := list_of st1.hr rx (fun ys e => nt ⟨ys, e⟩) e
      have ev := ints_of r e2
      subst ev
      exact ⟨ad, ns, rfl, .inl sq, hl, kz μ1 H1 .refl st1.hr _ (.int _)⟩
  · cases ez
theorem rvs_range {K : PySem.W.Frag} {fa : Nat → Addr} {μ : Mu} {H : Hp} {i j : Int} : RVs K fa es μ H (rangeL i j) (rgV i j) := by
  unfold rangeL rgV
  generalize List.range (j - i).toNat = l
  induction l with
  | nil => exact .nil
  | cons a r ih => exact .cons (.int _) ih
theorem snd_ofI1 (g : Good X p cy es W) (hc : cy.calm = true) (hx0 : x = "list") (hx : globB cy x = true) (hy0 : y = "range") (hy : globB cy y = true) (pl : plainE e = true) (ha : PE X e (RdE X p es W a)) :
    PE X (.Call (.Name x p1) [.Call (.Name y p2) [e] [] p3] [] pos) (RdF X p es W (.ofI (.rng1 a))) := by
  subst hx0 hy0
  have hm : X.mg "list" = none := g.blt _ (by decide)
  have hm2 : X.mg "range" = none := g.blt _ (by decide)
  refine (pe_listRg (g.calm hc).1 (g.glob hx) hm (prg_1 (g.glob hy) hm2 ha (plain_star pl _ _)) (plain_star (e := .Call (.Name "range" p2) [e] [] p3) rfl _ _)).imp fun s H Q ⟨B, b, σ, h, μ, st, q⟩ => ?_
  unfold evF evI at q
  refine seqE st q fun x h1 μ1 H1 v l1 st1 rx q1 => ?_
  cases x with
  | int i =>
    cases rx.intI
    simp only [] at q1
    split at q1
    · rename_i hc
      have hc1 : i ≤ 1000000 := hc.1
      have hc2 := hc.2
      refine ⟨i, rfl, ⟨by omega, by omega, by omega, by omega, by omega⟩, fun pp hp => ?_⟩
      exact post_lst l1 st1.hr hp rvs_range q1
    · exact q1.elim
  | _ => exact q1.elim
theorem snd_ofI2 {a2 : E} {e2 : Expr} (g : Good X p cy es W) (hc : cy.calm = true) (hx0 : x = "list") (hx : globB cy x = true) (hy0 : y = "range") (hy : globB cy y = true) (pl : plainE e = true) (pl2 : plainE e2 = true) (ha : PE X e (RdE X p es W a)) (ha2 : PE X e2 (RdE X p es W a2)) :
    PE X (.Call (.Name x p1) [.Call (.Name y p2) [e, e2] [] p3] [] pos) (RdF X p es W (.ofI (.rng2 a a2))) := by
  subst hx0 hy0
  have hm : X.mg "list" = none := g.blt _ (by decide)
  have hm2 : X.mg "range" = none := g.blt _ (by decide)
  refine (pe_listRg (g.calm hc).1 (g.glob hx) hm (prg_2 (g.glob hy) hm2 ha ha2 (plain_star pl _ _) (plain_star pl2 _ _) (plain_any (by simp [pl2]))) (plain_star (e := .Call (.Name "range" p2) [e, e2] [] p3) rfl _ _)).imp fun s H Q ⟨B, b, σ, h, μ, st, q⟩ => ?_
  unfold evF evI at q
  refine seqE st q fun x h1 μ1 H1 v l1 st1 rx q1 => seqE st1 q1 fun y h2 μ2 H2 w l2 st2 ry q2 => ?_
  cases x with
  | int i =>
    cases y with
    | int j =>
      cases rx.intI
      cases ry.intI
      simp only [] at q2
      split at q2
      · rename_i hc
        obtain ⟨⟨h1, h2, h3, h4⟩, hl⟩ := hc
        have hl : j - i ≤ 1000000 := hl
        refine ⟨i, j, rfl, rfl, ⟨by omega, by omega, by omega, by omega, by omega⟩, fun pp hp => ?_⟩
        exact post_lst (l1.trans l2) st2.hr hp rvs_range q2
      · exact q2.elim
    | _ => exact q2.elim
  | _ => exact q2.elim
end
end Mi
end

section
set_option Elab.async false
set_option linter.all false
set_option maxRecDepth 100000
set_option maxHeartbeats 4000000
/-! TrR: t[::-1] of a tuple -/
namespace HT
open PySem PySem.Spec PyProof.Rows
section
variable {prog : Program} {w : World} {A : Around} {E : Value → Shared → Prop} {s : Shared}
theorem adjust_rev (n : Nat) : Builtin.Slice.sliceAdjust none none (-1) (n : Int) = ((n : Int) - 1, -1) := by
  unfold Builtin.Slice.sliceAdjust
  simp
theorem places_rev (n : Nat) : Builtin.Slice.slicePlaces ((n : Int) - 1) (-1) (-1) = n := by
  unfold Builtin.Slice.slicePlaces
  have h1 : ¬ ((-1 : Int) > 0) := by omega
  have h2 : -(-1 : Int) = 1 := rfl
  simp only [h1, if_false, h2, Int.ediv_one]
  split <;> omega
theorem fm_congr {α β : Type} {f g : α → Option β} : ∀ {l : List α}, (∀ x ∈ l, f x = g x) → l.filterMap f = l.filterMap g
  | [], _ => rfl
  | x :: l, h => by
    rw [List.filterMap_cons, List.filterMap_cons, h x List.mem_cons_self, fm_congr fun y hy => h y (List.mem_cons_of_mem _ hy)]
theorem pick_rev (xs : Array Value) : ((List.range xs.size).filterMap fun (m : Nat) => xs[(((xs.size : Int) - 1) + (m : Int) * (-1)).toNat]?).toArray = xs.toList.reverse.toArray := by
  have e : ∀ m ∈ List.range xs.size, xs[(((xs.size : Int) - 1) + (m : Int) * (-1)).toNat]? = (fun m => xs.toList.reverse[m]?) m := fun m hm => by
    have hm := List.mem_range.mp hm
    have h : (((xs.size : Int) - 1) + (m : Int) * (-1)).toNat = xs.size - 1 - m := by omega
    rw [h]
    show _ = xs.toList.reverse[m]?
    rw [List.getElem?_reverse (by simpa using hm)]
    simp
  rw [fm_congr e]
  congr 1
  have k := PySem.W.krv_all xs.toList.reverse.toArray
  simpa using k
theorem sliceApplied_rev {sl : Addr} {vl vu vs : Value} {n : Nat} {Q : Int × Int × Nat → Shared → Prop} (hs : s.heap.IsSliceOf sl vl vu vs) (pl : IsPart vl none) (pu : IsPart vu none) (ps : IsPart vs (some (-1)))
    (h : Q ((n : Int) - 1, -1, n) s) : wpAny (model prog w) A (Builtin.Slice.sliceApplied (.ref sl) (pure (n : Int))) Q E s := by
  obtain ⟨os, hos, hcs, hds⟩ := id hs
  unfold Builtin.Slice.sliceApplied Builtin.Slice.sliceFields
  refine wpAny_bind (wpAny_bind (wpAny_field hos hds (x := vl) rfl (wpAny_bind (wpAny_field hos hds (x := vu) rfl (wpAny_bind (wpAny_field hos hds (x := vs) rfl (wpAny_pure ?_)))))))
  refine wpAny_bind (slicePart_ ps ?_)
  show wpAny _ _ (if ((-1 : Int) == 0) = true then _ else _) _ _ s
  rw [if_neg (by decide)]
  refine wpAny_bind (slicePart_ pl (wpAny_bind (slicePart_ pu (wpAny_bind (wpAny_pure ?_)))))
  show wpAny _ _ (match Builtin.Slice.sliceAdjust none none (-1) (n : Int) with | (lo, hi) => pure (lo, (-1 : Int), Builtin.Slice.slicePlaces lo hi (-1))) _ _ s
  rw [adjust_rev n]
  show wpAny _ _ (pure ((n : Int) - 1, (-1 : Int), Builtin.Slice.slicePlaces ((n : Int) - 1) (-1) (-1))) _ _ s
  rw [places_rev]
  exact wpAny_pure h
theorem getItem_tuple_rev {t sl : Addr} {items : Array Value} {vl vu vs : Value} {Q : Value → Shared → Prop} (ht : IsTup s.heap t items) (hs : s.heap.IsSliceOf sl vl vu vs) (pl : IsPart vl none) (pu : IsPart vu none) (ps : IsPart vs (some (-1)))
    (h : Q (.ref s.heap.objs.size) { s with heap := s.heap.push { cls := .type "tuple", data := .seq items.toList.reverse.toArray } })
    (hsz : items.size ≤ sizeLine) : wpAny (model prog w) A (getItem (.ref t) (.ref sl)) Q E s := by
  have htake : sizeOk (.seq items.toList.reverse.toArray) := by
    show items.toList.reverse.toArray.size ≤ sizeLine
    rw [List.size_toArray, List.length_reverse, Array.length_toList]
    exact hsz
  obtain ⟨os, hos, hcs, hds⟩ := id hs
  have hTs : s.TypeIs (.ref sl) "slice" := ⟨os, hos, hcs⟩
  unfold getItem
  try with_reducible refine wpAny_holding ?_
  first | refine wpAny_bind (wpAny_pure ?_) | skip
  refine wpAny_bind (wpAny_sequenceKey ht.typeIs (by decide) ?_)
  refine wpAny_bind (wpAny_callSpecial?_slot (name := Str.ofString "__getitem__") ht.typeIs PyProof.Rows.slot_tuple_getitem
    (wpAny_call_entry PyProof.Rows.slot_tuple_getitem ht.typeIs entry_tuple_getitem ?_ (args_tuple_getitem _ _)))
  show wpAny _ _ (Builtin.Tuple.tupleItemsOf (.ref t) >>= _) _ _ s
  refine wpAny_bind (tupleItemsOf_ ht ?_)
  refine wpAny_bind (wpAny_typeOf hTs ?_)
  rw [if_pos (by decide)]
  refine wpAny_bind (sliceApplied_rev hs pl pu ps ?_)
  have hno : ¬ ((((items.size : Int) - 1) == 0 && (-1 : Int) == 1 && items.size == items.size) = true) := by
    intro q
    rw [Bool.and_eq_true, Bool.and_eq_true] at q
    exact absurd q.1.2 (by decide)
  show wpAny _ _ (if (((items.size : Int) - 1) == 0 && (-1 : Int) == 1 && items.size == items.size) = true then _ else _) _ _ s
  rw [if_neg hno, pick_rev]
  first
    | exact wpAny_bind (m := Builtin.Tuple.tupleExact _) (wpAny_newObj_type (wpAny_pure ⟨_, rfl, wpAny_pure h⟩) htake)
    | exact wpAny_bind (m := Builtin.Tuple.tupleExact _) (wpAny_newObj_type (wpAny_bind (wpAny_pure (wpAny_pure ⟨_, rfl, wpAny_pure h⟩))) htake)
    | exact wpAny_bind (wpAny_bind (m := Builtin.Tuple.tupleExact _) (wpAny_newObj_type (wpAny_pure (wpAny_pure ⟨_, rfl, wpAny_pure h⟩)) htake))
    | exact wpAny_bind (wpAny_bind (m := Builtin.Tuple.tupleExact _) (wpAny_newObj_type (wpAny_pure ⟨_, rfl, wpAny_pure h⟩) htake))
end
end HT
namespace Mi
open PySem PySem.Spec PyProof.Rows L2
section
variable {X : Cx}
def tRevT (K : PySem.W.Frag) (te : TE) : TE := fun σ H Q => te σ H fun x H1 => ∃ a xs, x = .ref a ∧ SqT K H1 a xs ∧ NewB H1 xs.reverse Q
theorem pe_revT {e : Expr} {te : TE} {k : Nat} {p1 p2 p3 pos : Pos} (he : PE X e te) : PE X (.Subscript e (.Slice none none (some (.UnaryOp .USub (.Constant (.int 1) k p1) p2)) p3) pos) (tRevT X.K te) := by
  refine ⟨fun pins s σ H Q I h => ?_⟩
  refine Subscript_ (thn (he.run pins s σ H _ I h) fun v s1 ⟨x, H1, I1, r1, q1⟩ => ?_)
  obtain ⟨a, xs, ex, hx, q⟩ := q1
  subst ex
  cases r1
  have hst : PO X (some (.UnaryOp .USub (.Constant (.int 1) k p1) p2)) (tPart (tUn (rU fun i => .int (-i)) (tC (.int 1)))) := po_some (pe_un un_neg pe_int)
  refine wpAny_Slice (thn (po_none.run pins s1 σ H1 (fun o H2 => o = none ∧ H2 = H1) I1 ⟨rfl, rfl⟩) fun vl s2 ⟨l, H2, I2, pl, el, e2⟩ => ?_)
  subst el e2
  refine thn (po_none.run pins s2 σ H2 (fun o H3 => o = none ∧ H3 = H2) I2 ⟨rfl, rfl⟩) fun vu s3 ⟨u, H3, I3, pu, eu, e3⟩ => ?_
  subst eu e3
  refine thn (hst.run pins s3 σ H3 (fun o H4 => o = some (-1) ∧ H4 = H3) I3 ⟨1, rfl, -1, rfl, rfl, rfl⟩) fun vs s4 ⟨o, H4, I4, ps, eo, e4⟩ => ?_
  subst eo e4
  have I5 : Inv X pins σ H4 { s4 with heap := s4.heap.push { cls := .type "slice", data := .fields #[vl, vu, vs] } } := I4.kept (t' := s4.toks) fun b ob q => Heap.get?_push_of_some _ q
  obtain ⟨its, r, ht, hz⟩ := I5.tuple hx
  have hlen := r.length
  show wpAny (model X.prog X.w) X.A (subscriptTail e (.Slice none none (some (.UnaryOp .USub (.Constant (.int 1) k p1) p2)) p3) (.ref a) (.ref s4.heap.objs.size)) (EP X pins σ Q) X.xe { s4 with heap := s4.heap.push { cls := .type "slice", data := .fields #[vl, vu, vs] } }
  refine tail_any (ops := [.ref a, .ref s4.heap.objs.size]) ht.typeIs (PyProof.Rows.slot_tuple_getitem.lookup) ?_ (by with_unfolding_all rfl)
  refine HT.getItem_tuple_rev ht (Heap.IsSliceOf.new _ vl vu vs) pl pu ps ?_ (by rw [List.size_toArray]; omega)
  refine ⟨.ref _, _, layB (tk := s4.toks) I5 (fun b ob q => Heap.get?_push_of_some _ q) (Nat.le_refl _) (Heap.get?_push_size _ rfl) r.reverse (by rw [List.length_reverse]; exact hz), rfl, q _ _ (I5.hok.fresh (Nat.le_refl _)) rfl⟩
end
end Mi
end

section
set_option Elab.async false
set_option linter.all false
set_option maxRecDepth 100000
set_option maxHeartbeats 4000000
/-! SndD: dicts with ints as keys; ranges held; sorted(set(..)) -/
namespace Mi
open PySem PySem.Spec PyProof.Rows L2
/-! ### tables -/
section
variable {K : PySem.W.Frag} {fa : Nat → Addr} {es : List (Addr × Nat × Option Addr)} {μ : Mu} {H : Hp}
/-- a table and what it stands for -/
inductive RKs (K : PySem.W.Frag) (fa : Nat → Addr) (es : List (Addr × Nat × Option Addr)) (μ : Mu) (H : Hp) : List (PV × PV) → List (Key × V) → Prop
  | nil : RKs K fa es μ H [] []
  | cons {k : Key} {x : PV} {v : V} {xs : List (PV × PV)} {vs : List (Key × V)} : RV K fa es μ H x v → RKs K fa es μ H xs vs → RKs K fa es μ H ((kPV k, x) :: xs) ((k, v) :: vs)
theorem RKs.of : ∀ {xs : List (PV × PV)} {vs : List (Key × V)}, xs.map (·.1) = vs.map (fun q => kPV q.1) → RVs K fa es μ H (xs.map (·.2)) (vs.map (·.2)) → RKs K fa es μ H xs vs
  | [], [], _, _ => .nil
  | [], _ :: _, e, _ => by simp at e
  | _ :: _, [], e, _ => by simp at e
  | (k, x) :: xs, (k', v) :: vs, e, r => by
    simp only [List.map_cons, List.cons.injEq] at e
    simp only [List.map_cons] at r
    cases r with
    | cons a b =>
    obtain ⟨e1, e2⟩ := e
    have e1 : k = kPV k' := e1
    subst e1
    exact .cons a (RKs.of e2 b)
theorem RKs.keys : ∀ {xs : List (PV × PV)} {vs : List (Key × V)}, RKs K fa es μ H xs vs → xs.map (·.1) = vs.map (fun q => kPV q.1)
  | _, _, .nil => rfl
  | _, _, .cons a b => by rw [List.map_cons, List.map_cons, b.keys]
theorem RKs.vals : ∀ {xs : List (PV × PV)} {vs : List (Key × V)}, RKs K fa es μ H xs vs → RVs K fa es μ H (xs.map (·.2)) (vs.map (·.2))
  | _, _, .nil => .nil
  | _, _, .cons a b => by rw [List.map_cons, List.map_cons]; exact .cons a b.vals
theorem RKs.length : ∀ {xs : List (PV × PV)} {vs : List (Key × V)}, RKs K fa es μ H xs vs → xs.length = vs.length
  | _, _, .nil => rfl
  | _, _, .cons a b => by rw [List.length_cons, List.length_cons, b.length]
theorem isI_key (i : Int) (k : Key) : isI i (kPV k) = decide (k = (.inl i : Key)) := by
  cases k with
  | inl j =>
    show (j == i) = _
    by_cases h : j = i
    · subst h; simp
    · have : ¬ ((Sum.inl j : Key) = Sum.inl i) := fun e => h (by injection e)
      rw [decide_eq_false this]
      simpa using h
  | inr s =>
    have : ¬ ((Sum.inr s : Key) = Sum.inl i) := fun e => by cases e
    rw [decide_eq_false this]
    rfl
theorem RKs.look (i : Int) : ∀ {xs : List (PV × PV)} {vs : List (Key × V)}, RKs K fa es μ H xs vs → (lookI i xs = none ∧ valV vs (.inl i) = none) ∨ ∃ x v, lookI i xs = some x ∧ valV vs (.inl i) = some v ∧ RV K fa es μ H x v
  | _, _, .nil => .inl ⟨rfl, rfl⟩
  | _, _, .cons (k := k) (x := x) (v := v) (xs := xs) (vs := vs) a b => by
    have hk := isI_key i k
    by_cases h : k = (.inl i : Key)
    · rw [decide_eq_true h] at hk
      refine .inr ⟨x, v, ?_, ?_, a⟩
      · unfold lookI; rw [List.find?_cons]; simp only [hk]; rfl
      · exact valV_pos (p := (k, v)) h
    · rw [decide_eq_false h] at hk
      have e1 : lookI i ((kPV k, x) :: xs) = lookI i xs := by unfold lookI; rw [List.find?_cons]; simp only [hk]
      have e2 : valV ((k, v) :: vs) (.inl i) = valV vs (.inl i) := valV_neg (p := (k, v)) h
      rw [e1, e2]
      exact RKs.look i b
theorem RKs.any (i : Int) : ∀ {xs : List (PV × PV)} {vs : List (Key × V)}, RKs K fa es μ H xs vs → xs.any (fun p => isI i p.1) = vs.any (fun p => decide (p.1 = (.inl i : Key)))
  | _, _, .nil => rfl
  | _, _, .cons a b => by rw [List.any_cons, List.any_cons, isI_key, RKs.any i b]
theorem RKs.repl (i : Int) {y : PV} {u : V} (r : RV K fa es μ H y u) : ∀ {xs : List (PV × PV)} {vs : List (Key × V)}, RKs K fa es μ H xs vs → RKs K fa es μ H (xs.map fun p => if isI i p.1 then (p.1, y) else p) (vs.map fun p => if p.1 = (.inl i : Key) then (p.1, u) else p)
  | _, _, .nil => .nil
  | _, _, .cons (k := k) (x := x) (v := v) a b => by
    rw [List.map_cons, List.map_cons]
    have hk := isI_key i k
    have ih := RKs.repl i r b
    by_cases h : k = (.inl i : Key)
    · rw [decide_eq_true h] at hk
      have e1 : (if isI i (kPV k, x).1 = true then ((kPV k, x).1, y) else (kPV k, x)) = (kPV k, y) := if_pos hk
      have e2 : (if (k, v).1 = (.inl i : Key) then ((k, v).1, u) else (k, v)) = (k, u) := if_pos h
      rw [e1, e2]
      exact .cons r ih
    · rw [decide_eq_false h] at hk
      have e1 : (if isI i (kPV k, x).1 = true then ((kPV k, x).1, y) else (kPV k, x)) = (kPV k, x) := if_neg (by rw [hk]; simp)
      have e2 : (if (k, v).1 = (.inl i : Key) then ((k, v).1, u) else (k, v)) = (k, v) := if_neg h
      rw [e1, e2]
      exact .cons a ih
theorem RKs.snoc {k : Key} {y : PV} {u : V} (r : RV K fa es μ H y u) : ∀ {xs : List (PV × PV)} {vs : List (Key × V)}, RKs K fa es μ H xs vs → RKs K fa es μ H (xs ++ [(kPV k, y)]) (vs ++ [(k, u)])
  | _, _, .nil => .cons r .nil
  | _, _, .cons a b => .cons a (RKs.snoc r b)
theorem RKs.put (i : Int) {y : PV} {u : V} (r : RV K fa es μ H y u) {xs : List (PV × PV)} {vs : List (Key × V)} (a : RKs K fa es μ H xs vs) : RKs K fa es μ H (putI i y xs) (putK vs (.inl i) u) := by
  unfold putI putK
  rw [a.any i]
  split
  · exact a.repl i r
  · exact a.snoc (k := .inl i) r
theorem RKs.mono {μ' : Mu} {H' : Hp} (p : Le μ H μ' H') (m : MuOk μ H) : ∀ {x : List (PV × PV)} {v : List (Key × V)}, RKs K fa es μ H x v → RKs K fa es μ' H' x v
  | _, _, .nil => .nil
  | _, _, .cons a b => .cons (a.mono p m) (RKs.mono p m b)
theorem low_put {n : Nat} {i : Int} {y : PV} (hy : y.low n = true) {xs : List (PV × PV)} (h : (xs.all fun p => p.1.low n && p.2.low n) = true) : ((putI i y xs).all fun p => p.1.low n && p.2.low n) = true := by
  unfold putI
  split
  · rw [List.all_map]
    refine List.all_eq_true.mpr fun p hp => ?_
    have z := List.all_eq_true.mp h p hp
    simp only [Function.comp]
    split
    · simp only [Bool.and_eq_true] at z ⊢
      exact ⟨z.1, hy⟩
    · exact z
  · rw [List.all_append, h]
    simp [hy, PV.low]
end
section
variable {K : PySem.W.Frag} {fa : Nat → Addr} {B : Nat → Prop} {b : Nat} {h : Hs} {μ : Mu} {H : Hp} {a : Addr} {n : Nat} {es : List (Addr × Nat × Option Addr)}
theorem HR.dic {kvs : List (PV × PV)} (g : HR K fa B h μ H) (r : RV K fa es μ H (.ref n) (.ref a)) (e : h[n]? = some (.dic kvs)) : μ.l[n]? = some (some a) ∧ ∃ ks, H a = some (.dK ks) ∧ RKs K fa [] μ H kvs ks := by
  obtain ⟨a', q, o⟩ := g.obj n _ e (by intro z; cases z)
  obtain ⟨ks, h1, h2, h3⟩ := o
  cases r with
  | ref l m => cases m a' q; exact ⟨q, ks, h1, .of h2 h3⟩
theorem HR.putD {kvs kvs' : List (PV × PV)} {ks ks' : List (Key × V)} (g : HR K fa B h μ H) (hb : ∀ c, B c → c ≤ b) (e : h[n]? = some (.dic kvs)) (ea : μ.l[n]? = some (some a)) (eH : H a = some (.dK ks)) (r : RKs K fa [] μ H kvs' ks')
    (hl : ∀ c, c ≤ b → n < c → (kvs.all fun p => p.1.low c && p.2.low c) = true → (kvs'.all fun p => p.1.low c && p.2.low c) = true) :
    HR K fa B (h.set n (.dic kvs')) μ (upd H a (.dK ks')) ∧ Le μ H μ (upd H a (.dK ks')) := by
  have nf : ¬ μ.F a := (g.mu n a ea).2
  have hn : n < h.length := (List.getElem?_eq_some_iff.mp e).1
  refine ⟨⟨fun k c q => ?_, by rw [List.length_set]; exact g.len, fun k o q nd => ?_, g.inj, fun c q => ?_, fun c hc k o hk q => ?_⟩, ⟨fun c o q => ?_, fun c o q => ?_, fun _ _ q => .inl q, Nat.le_refl _, fun _ z => z, fun _ z => .inl z⟩⟩
  · obtain ⟨⟨o, z, i⟩, f⟩ := g.mu k c q
    by_cases hc : c = a
    · subst hc; exact ⟨⟨_, upd_same, rfl⟩, f⟩
    · exact ⟨⟨o, by rw [upd_ne hc]; exact z, i⟩, f⟩
  · by_cases hk : n = k
    · subst hk
      rw [List.getElem?_set_self hn] at q
      cases q
      exact ⟨a, ea, ks', upd_same, r.keys, r.vals.off eH rfl nf⟩
    · rw [List.getElem?_set_ne hk] at q
      obtain ⟨c, z, ro⟩ := g.obj k o q nd
      have hc : c ≠ a := fun y => hk (g.inj n k a ea (y ▸ z))
      refine ⟨c, z, ?_⟩
      cases o with
      | lst zs => obtain ⟨us, h1, r1⟩ := ro; exact ⟨us, by rw [upd_ne hc]; exact h1, r1.off eH rfl nf⟩
      | dic _ => obtain ⟨ks, h1, ek, r1⟩ := ro; exact ⟨ks, by rw [upd_ne hc]; exact h1, ek, r1.off eH rfl nf⟩
      | dit _ => obtain ⟨ks, h1, ek, r1⟩ := ro; exact ⟨ks, by rw [upd_ne hc]; exact h1, ek, r1.off eH rfl nf⟩
      | diu _ => obtain ⟨ks, h1, ek, r1⟩ := ro; exact ⟨ks, by rw [upd_ne hc]; exact h1, ek, r1.off eH rfl nf⟩
      | dead => exact ro
  · obtain ⟨o, z⟩ := g.fd c q
    have hc : c ≠ a := fun y => nf (y ▸ q)
    exact ⟨o, by rw [upd_ne hc]; exact z⟩
  · by_cases hk' : n = k
    · subst hk'
      rw [List.getElem?_set_self hn] at q
      cases q
      exact hl c (hb c hc) hk (g.lows c hc n _ hk e)
    · rw [List.getElem?_set_ne hk'] at q
      exact g.lows c hc k o hk q
  · by_cases hc : c = a
    · exact .inl ⟨n, hc ▸ ea⟩
    · exact .inr (by rw [upd_ne hc]; exact q)
  · by_cases hc : c = a
    · subst hc; exact ⟨_, upd_same⟩
    · exact ⟨o, by rw [upd_ne hc]; exact q⟩
theorem HR.allocD {kvs : List (PV × PV)} {ks : List (Key × V)} (g : HR K fa B h μ H) (hb : ∀ c, B c → c ≤ b) (bl : b ≤ μ.l.length) (e : H a = some (.dK ks)) (nl : ∀ n : Nat, μ.l[n]? ≠ some (some a)) (nf : ¬ μ.F a) (r : RKs K fa [] μ H kvs ks) :
    HR K fa B (h ++ [.dic kvs]) (μ.add a) H := by
  have hlen := g.len
  have old : ∀ n : Nat, n < μ.l.length → (μ.add a).l[n]? = μ.l[n]? := fun n l => List.getElem?_append_left l
  have new : (μ.add a).l[μ.l.length]? = some (some a) := by simp [Mu.add]
  have cs : ∀ (n : Nat) c, (μ.add a).l[n]? = some (some c) → (n < μ.l.length ∧ μ.l[n]? = some (some c)) ∨ (n = μ.l.length ∧ c = a) := fun n c q => by
    by_cases z : n < μ.l.length
    · exact .inl ⟨z, old n z ▸ q⟩
    · by_cases z2 : n = μ.l.length
      · subst z2
        rw [new] at q
        cases q
        exact .inr ⟨rfl, rfl⟩
      · rw [List.getElem?_eq_none (by simp [Mu.add]; omega)] at q; cases q
  refine ⟨fun n c q => ?_, by simp [Mu.add, hlen], fun n o q nd => ?_, fun n m c q1 q2 => ?_, g.fd, fun c hc n o hn q => ?_⟩
  · rcases cs n c q with ⟨_, z⟩ | ⟨_, z⟩
    · exact g.mu n c z
    · subst z; exact ⟨⟨_, e, rfl⟩, nf⟩
  · by_cases z : n < h.length
    · rw [List.getElem?_append_left z] at q
      obtain ⟨c, q1, ro⟩ := g.obj n o q nd
      refine ⟨c, by rw [old n (by omega)]; exact q1, ?_⟩
      cases o with
      | lst ys => obtain ⟨ws, h1, r1⟩ := ro; exact ⟨ws, h1, r1.add⟩
      | dic _ => obtain ⟨ks, h1, ek, r1⟩ := ro; exact ⟨ks, h1, ek, r1.add⟩
      | dit _ => obtain ⟨ks, h1, ek, r1⟩ := ro; exact ⟨ks, h1, ek, r1.add⟩
      | diu _ => obtain ⟨ks, h1, ek, r1⟩ := ro; exact ⟨ks, h1, ek, r1.add⟩
      | dead => exact ro
    · by_cases z2 : n = h.length
      · subst z2
        have q : (h ++ [Obj.dic kvs])[h.length]? = some o := q
        rw [List.getElem?_append_right (Nat.le_refl _)] at q
        simp at q
        subst q
        exact ⟨a, by rw [hlen]; exact new, ks, e, r.keys, r.vals.add⟩
      · rw [List.getElem?_eq_none (by simp; omega)] at q; cases q
  · rcases cs n c q1 with ⟨_, z⟩ | ⟨l, z⟩
    · rcases cs m c q2 with ⟨_, z'⟩ | ⟨_, z'⟩
      · exact g.inj n m c z z'
      · subst z'; exact absurd z (nl n)
    · rcases cs m c q2 with ⟨_, z'⟩ | ⟨l', z'⟩
      · subst z; exact absurd z' (nl m)
      · omega
  · have := hb c hc
    rw [List.getElem?_append_left (by omega)] at q
    exact g.lows c hc n o hn q
/-- any object in the place of another one -/
theorem HR.putX {o1 o2 : Obj} {u1 u2 : HO} (g : HR K fa B h μ H) (hb : ∀ c, B c → c ≤ b) (e : h[n]? = some o1) (ea : μ.l[n]? = some (some a)) (eH : H a = some u1) (i1 : isMu u1 = true) (i2 : isMu u2 = true) (ro : OR K fa μ (upd H a u2) a o2)
    (hl : ∀ c, c ≤ b → n < c → o1.low c = true → o2.low c = true) : HR K fa B (h.set n o2) μ (upd H a u2) ∧ Le μ H μ (upd H a u2) := by
  have nf : ¬ μ.F a := (g.mu n a ea).2
  have hn : n < h.length := (List.getElem?_eq_some_iff.mp e).1
  refine ⟨⟨fun k c q => ?_, by rw [List.length_set]; exact g.len, fun k o q nd => ?_, g.inj, fun c q => ?_, fun c hc k o hk q => ?_⟩, ⟨fun c o q => ?_, fun c o q => ?_, fun _ _ q => .inl q, Nat.le_refl _, fun _ z => z, fun _ z => .inl z⟩⟩
  · obtain ⟨⟨o, z, i⟩, f⟩ := g.mu k c q
    by_cases hc : c = a
    · subst hc; exact ⟨⟨_, upd_same, i2⟩, f⟩
    · exact ⟨⟨o, by rw [upd_ne hc]; exact z, i⟩, f⟩
  · by_cases hk : n = k
    · subst hk
      rw [List.getElem?_set_self hn] at q
      cases q
      exact ⟨a, ea, ro⟩
    · rw [List.getElem?_set_ne hk] at q
      obtain ⟨c, z, ro⟩ := g.obj k o q nd
      have hc : c ≠ a := fun y => hk (g.inj n k a ea (y ▸ z))
      refine ⟨c, z, ?_⟩
      cases o with
      | lst zs => obtain ⟨us, h1, r1⟩ := ro; exact ⟨us, by rw [upd_ne hc]; exact h1, r1.off eH i1 nf⟩
      | dic _ => obtain ⟨ks, h1, ek, r1⟩ := ro; exact ⟨ks, by rw [upd_ne hc]; exact h1, ek, r1.off eH i1 nf⟩
      | dit _ => obtain ⟨ks, h1, ek, r1⟩ := ro; exact ⟨ks, by rw [upd_ne hc]; exact h1, ek, r1.off eH i1 nf⟩
      | diu _ => obtain ⟨ks, h1, ek, r1⟩ := ro; exact ⟨ks, by rw [upd_ne hc]; exact h1, ek, r1.off eH i1 nf⟩
      | dead => exact ro
  · obtain ⟨o, z⟩ := g.fd c q
    have hc : c ≠ a := fun y => nf (y ▸ q)
    exact ⟨o, by rw [upd_ne hc]; exact z⟩
  · by_cases hk' : n = k
    · subst hk'
      rw [List.getElem?_set_self hn] at q
      cases q
      exact hl c (hb c hc) hk (g.lows c hc n _ hk e)
    · rw [List.getElem?_set_ne hk'] at q
      exact g.lows c hc k o hk q
  · by_cases hc : c = a
    · exact .inl ⟨n, hc ▸ ea⟩
    · exact .inr (by rw [upd_ne hc]; exact q)
  · by_cases hc : c = a
    · subst hc; exact ⟨_, upd_same⟩
    · exact ⟨o, by rw [upd_ne hc]; exact q⟩
/-- any new object -/
theorem HR.allocX {o1 : Obj} {u : HO} (g : HR K fa B h μ H) (hb : ∀ c, B c → c ≤ b) (bl : b ≤ μ.l.length) (e : H a = some u) (iu : isMu u = true) (nl : ∀ n : Nat, μ.l[n]? ≠ some (some a)) (nf : ¬ μ.F a) (r : OR K fa (μ.add a) H a o1) :
    HR K fa B (h ++ [o1]) (μ.add a) H := by
  have hlen := g.len
  have old : ∀ n : Nat, n < μ.l.length → (μ.add a).l[n]? = μ.l[n]? := fun n l => List.getElem?_append_left l
  have new : (μ.add a).l[μ.l.length]? = some (some a) := by simp [Mu.add]
  have cs : ∀ (n : Nat) c, (μ.add a).l[n]? = some (some c) → (n < μ.l.length ∧ μ.l[n]? = some (some c)) ∨ (n = μ.l.length ∧ c = a) := fun n c q => by
    by_cases z : n < μ.l.length
    · exact .inl ⟨z, old n z ▸ q⟩
    · by_cases z2 : n = μ.l.length
      · subst z2
        rw [new] at q
        cases q
        exact .inr ⟨rfl, rfl⟩
      · rw [List.getElem?_eq_none (by simp [Mu.add]; omega)] at q; cases q
  refine ⟨fun n c q => ?_, by simp [Mu.add, hlen], fun n o q nd => ?_, fun n m c q1 q2 => ?_, g.fd, fun c hc n o hn q => ?_⟩
  · rcases cs n c q with ⟨_, z⟩ | ⟨_, z⟩
    · exact g.mu n c z
    · subst z; exact ⟨⟨_, e, iu⟩, nf⟩
  · by_cases z : n < h.length
    · rw [List.getElem?_append_left z] at q
      obtain ⟨c, q1, ro⟩ := g.obj n o q nd
      refine ⟨c, by rw [old n (by omega)]; exact q1, ?_⟩
      cases o with
      | lst ys => obtain ⟨ws, h1, r1⟩ := ro; exact ⟨ws, h1, r1.add⟩
      | dic _ => obtain ⟨ks, h1, ek, r1⟩ := ro; exact ⟨ks, h1, ek, r1.add⟩
      | dit _ => obtain ⟨ks, h1, ek, r1⟩ := ro; exact ⟨ks, h1, ek, r1.add⟩
      | diu _ => obtain ⟨ks, h1, ek, r1⟩ := ro; exact ⟨ks, h1, ek, r1.add⟩
      | dead => exact ro
    · by_cases z2 : n = h.length
      · subst z2
        have q : (h ++ [o1])[h.length]? = some o := q
        rw [List.getElem?_append_right (Nat.le_refl _)] at q
        simp at q
        subst q
        exact ⟨a, by rw [hlen]; exact new, r⟩
      · rw [List.getElem?_eq_none (by simp; omega)] at q; cases q
  · rcases cs n c q1 with ⟨_, z⟩ | ⟨l, z⟩
    · rcases cs m c q2 with ⟨_, z'⟩ | ⟨_, z'⟩
      · exact g.inj n m c z z'
      · subst z'; exact absurd z (nl n)
    · rcases cs m c q2 with ⟨_, z'⟩ | ⟨l', z'⟩
      · subst z; exact absurd z' (nl m)
      · omega
  · have := hb c hc
    rw [List.getElem?_append_left (by omega)] at q
    exact g.lows c hc n o hn q
theorem Le.add {μ0 : Mu} {H0 : Hp} (l : Le μ0 H0 μ H) (n0 : H0 a = Option.none) : Le μ0 H0 (μ.add a) H := by
  refine ⟨l.keep, l.dom, fun n c z => ?_, by simp [Mu.add]; exact Nat.le_succ_of_le l.len, l.fz, l.nf⟩
  by_cases y : n < μ.l.length
  · have z : (μ.l ++ [some a])[n]? = some (some c) := z
    rw [List.getElem?_append_left y] at z
    exact l.liv n c z
  · by_cases y2 : n = μ.l.length
    · subst y2
      have z : (μ.l ++ [some a])[μ.l.length]? = some (some c) := z
      simp at z
      exact .inr ⟨l.len, z ▸ n0⟩
    · rw [List.getElem?_eq_none (by simp [Mu.add]; omega)] at z; cases z
end
/-! ### dicts with tuples of ints as keys, all values True -/
def TdRd (K : PySem.W.Frag) (H : Hp) (a : Addr) (xs : List (List Int × Addr × Value)) : Prop := H a = some (TdO a xs) ∧ ∀ x ∈ xs, SqT K H x.2.1 (x.1.map V.int)
section
variable {K : PySem.W.Frag} {fa : Nat → Addr} {B : Nat → Prop} {h : Hs} {μ : Mu} {H : Hp} {a : Addr} {n : Nat} {es : List (Addr × Nat × Option Addr)}
theorem intsP_map : ∀ {l : List Int}, intsP (l.map PV.int) = some l
  | [] => rfl
  | a :: r => by
    have e : intsP ((a :: r).map PV.int) = (intsP (r.map PV.int)).map (a :: ·) := rfl
    rw [e, intsP_map]; rfl
theorem intsP_eq : ∀ {xs : List PV} {l : List Int}, intsP xs = some l → xs = l.map PV.int
  | [], l, e => by cases e; rfl
  | x :: xs, l, e => by
    cases x with
    | int i =>
      have e : (intsP xs).map (i :: ·) = some l := e
      obtain ⟨l', e1, e2⟩ := Option.map_eq_some_iff.mp e
      subst e2
      rw [intsP_eq e1]; rfl
    | _ => cases e
theorem RV.tupIs {l : List Int} {v : V} (r : RV K fa es μ H (Mi.tupI l) v) : ∃ b, v = .ref b ∧ SqT K H b (l.map V.int) := by
  obtain ⟨b, vs, rfl, sq, r⟩ := RV.tupI (xs := l.map PV.int) r
  cases ints_of r intsP_map
  exact ⟨b, rfl, sq⟩
theorem tds_of : ∀ {xs : List (List Int × Addr × Value)}, RVs K fa es μ H ((xs.map (·.1)).map tupI) (xs.map fun x => V.ref x.2.1) → ∀ x ∈ xs, SqT K H x.2.1 (x.1.map V.int)
  | [], _, x, hx => by simp at hx
  | y :: r, hr, x, hx => by
    rw [List.map_cons, List.map_cons, List.map_cons] at hr
    cases hr with
    | cons h1 h2 =>
      rcases List.mem_cons.mp hx with e | hx
      · subst e
        obtain ⟨b, e, sq⟩ := h1.tupIs
        cases e
        exact sq
      · exact tds_of h2 x hx
theorem HR.dit {ks : List (List Int)} (g : HR K fa B h μ H) (r : RV K fa es μ H (.ref n) (.ref a)) (e : h[n]? = some (.dit ks)) : μ.l[n]? = some (some a) ∧ ∃ xs, ks = xs.map (·.1) ∧ TdRd K H a xs ∧ RVs K fa [] μ H (ks.map tupI) (xs.map fun x => V.ref x.2.1) := by
  obtain ⟨a', q, o⟩ := g.obj n _ e (by intro z; cases z)
  obtain ⟨xs, h1, h2, h3⟩ := o
  cases r with
  | ref l m => cases m a' q; exact ⟨q, xs, h2, ⟨h1, tds_of (by rw [← h2]; exact h3)⟩, h3⟩
theorem HR.diu {kvs : List (List Int × Int)} (g : HR K fa B h μ H) (r : RV K fa es μ H (.ref n) (.ref a)) (e : h[n]? = some (.diu kvs)) : μ.l[n]? = some (some a) ∧ ∃ xs, (kvs.map (·.1) = xs.map (·.1) ∧ Vals (kvs.map fun q => V.int q.2) (xs.map fun x => x.2.2)) ∧ TdRd K H a xs ∧ RVs K fa [] μ H ((kvs.map (·.1)).map tupI) (xs.map fun x => V.ref x.2.1) := by
  obtain ⟨a', q, o⟩ := g.obj n _ e (by intro z; cases z)
  obtain ⟨xs, h1, h2, h3⟩ := o
  cases r with
  | ref l m => cases m a' q; exact ⟨q, xs, h2, ⟨h1, tds_of (by rw [← h2.1]; exact h3)⟩, h3⟩
theorem atKey_has (l : List Int) : ∀ xs : List (List Int × Addr × Value), (atKey xs l).isSome = (xs.map (·.1)).contains l
  | [] => rfl
  | x :: r => by
    have ih := atKey_has l r
    unfold atKey at ih ⊢
    rw [List.find?_cons, List.map_cons, List.contains_cons]
    by_cases e : x.1 = l
    · have h1 : decide (x.1 = l) = true := decide_eq_true e
      rw [h1, e, beq_self_eq_true]; rfl
    · have h1 : decide (x.1 = l) = false := decide_eq_false e
      have h2 : (l == x.1) = false := beq_eq_false_iff_ne.mpr fun z => e z.symm
      rw [h1, h2, Bool.false_or]; exact ih
theorem look_at : ∀ {kvs : List (List Int × Int)} {xs : List (List Int × Addr × Value)} {l : List Int} {i : Int}, kvs.map (·.1) = xs.map (·.1) → Vals (kvs.map fun q => V.int q.2) (xs.map fun x => x.2.2) → lookU l kvs = some i → ∃ p, atKey xs l = some p ∧ RelV (V.int i) p.2
  | [], _, _, _, _, _, e => by cases e
  | q :: r, [], _, _, e, _, _ => by cases e
  | q :: r, x :: xs, l, i, e, v, h => by
    rw [List.map_cons, List.map_cons] at e v
    injection e with e1 e2
    cases v with
    | cons v1 v2 =>
      unfold lookU at h
      rw [List.find?_cons] at h
      unfold atKey
      rw [List.find?_cons]
      by_cases c : q.1 = l
      · have h1 : decide (q.1 = l) = true := decide_eq_true c
      
        have h2 : decide (x.1 = l) = true := decide_eq_true (e1 ▸ c)
        rw [h1] at h
        rw [h2]
        cases h
        exact ⟨_, rfl, v1⟩
      · have h1 : decide (q.1 = l) = false := decide_eq_false c
        have h2 : decide (x.1 = l) = false := decide_eq_false (e1 ▸ c)
        rw [h1] at h
        rw [h2]
        exact look_at e2 v2 h
theorem putU_keys {kvs : List (List Int × Int)} {l : List Int} {i : Int} : (putU l i kvs).map (·.1) = putT l (kvs.map (·.1)) := by
  unfold putU putT
  split
  · rw [List.map_map]
    refine List.map_congr_left fun q _ => ?_
    show (if q.1 = l then (q.1, i) else q).1 = q.1
    split <;> rfl
  · rw [List.map_append]; rfl
theorem vals_putAt {l : List Int} {i : Int} {r : Value} (hr : RelV (V.int i) r) : ∀ {kvs : List (List Int × Int)} {xs : List (List Int × Addr × Value)}, kvs.map (·.1) = xs.map (·.1) → Vals (kvs.map fun q => V.int q.2) (xs.map fun x => x.2.2) →
    Vals ((kvs.map fun q => if q.1 = l then (q.1, i) else q).map fun q => V.int q.2) ((xs.map (putAt l r)).map fun x => x.2.2)
  | [], [], _, _ => .nil
  | [], _ :: _, e, _ => by cases e
  | _ :: _, [], e, _ => by cases e
  | q :: ks, x :: xs, e, v => by
    rw [List.map_cons, List.map_cons] at e v
    injection e with e1 e2
    cases v with
    | cons v1 v2 =>
      refine .cons ?_ (vals_putAt hr e2 v2)
      show RelV (V.int (if q.1 = l then (q.1, i) else q).2) (putAt l r x).2.2
      unfold putAt
      by_cases c : q.1 = l
      · rw [if_pos c, if_pos (e1 ▸ c)]; exact hr
      · rw [if_neg c, if_neg (e1 ▸ c)]; exact v1
theorem stored_vals {kvs : List (List Int × Int)} {xs : List (List Int × Addr × Value)} {l : List Int} {b : Addr} {i : Int} {r : Value} (hr : RelV (V.int i) r) (e : kvs.map (·.1) = xs.map (·.1)) (v : Vals (kvs.map fun q => V.int q.2) (xs.map fun x => x.2.2)) :
    Vals ((putU l i kvs).map fun q => V.int q.2) ((storedH xs l b r).map fun x => x.2.2) := by
  unfold putU storedH
  rw [atKey_has, e]
  split
  · exact vals_putAt hr e v
  · rw [List.map_append, List.map_append]
    exact v.append (.cons hr .nil)
theorem stored_keys {xs : List (List Int × Addr × Value)} {l : List Int} {b : Addr} {v : Value} : (storedH xs l b v).map (·.1) = putT l (xs.map (·.1)) := by
  unfold storedH putT
  rw [atKey_has]
  split
  · rw [List.map_map]
    refine List.map_congr_left fun x _ => ?_
    show (putAt l v x).1 = x.1
    unfold putAt
    split <;> rfl
  · rw [List.map_append]; rfl
theorem stored_rv {xs : List (List Int × Addr × Value)} {l : List Int} {b : Addr} {v : Value} (r : RVs K fa es μ H ((xs.map (·.1)).map tupI) (xs.map fun x => V.ref x.2.1)) (rb : RV K fa es μ H (tupI l) (.ref b)) :
    RVs K fa es μ H ((putT l (xs.map (·.1))).map tupI) ((storedH xs l b v).map fun x => V.ref x.2.1) := by
  unfold storedH putT
  rw [atKey_has]
  split
  · have e : ((xs.map (putAt l v)).map (fun x : List Int × Addr × Value => V.ref x.2.1)) = xs.map fun x => V.ref x.2.1 := by
      rw [List.map_map]
      refine List.map_congr_left fun x _ => ?_
      show V.ref (putAt l v x).2.1 = _
      unfold putAt
      split <;> rfl
    rw [e]; exact r
  · rw [List.map_append, List.map_append]
    exact r.append (.cons rb .nil)
end
section
variable {X : Cx} {pins : List (Addr × PySem.Obj)} {σ : L2.St} {H : Hp} {s : Shared} {a b : Addr} {l : List Int} {xs : List (List Int × Addr × Value)} {A : Around} {E : Value → Shared → Prop}
theorem intsAre_it {P : Program} {w : World} : ∀ {l : List Int} {us : List Value}, Vals (l.map V.int) us → ItemsAre (PySem.intKind P w) l us
  | [], _, r => by cases r; exact .nil
  | k :: ks, _, r => by
    rw [List.map_cons] at r
    cases r with
    | cons h t =>
      obtain ⟨t', e⟩ := h
      subst e
      exact .cons (by show Value.isInt k (.int k t') = true; simp [Value.isInt]) (intsAre_it t)
theorem td_key (I : Inv X pins σ H s) (sq : SqT X.K H b (l.map V.int)) : (tupleKind (PySem.intKind X.prog X.w)).is s.heap l b := by
  obtain ⟨its, r, ⟨o, h1, h2, n, h3⟩, _⟩ := I.tuple sq
  exact ⟨o, its.toArray, n, h1, h2, h3, by simpa using intsAre_it r⟩
theorem td_of (I : Inv X pins σ H s) (t : TdRd X.K H a xs) : (a == sysModules) = false ∧ xs.length ≤ sizeLine ∧ s.heap.DictOfH (tupleKind (PySem.intKind X.prog X.w)) a xs := by
  obtain ⟨h1, h2, o, es, ep, h3, h4, h5, h6, h7⟩ := (show ObjOk X.prog X.w H s.heap a (TdO a xs) from I.hok a _ t.1).1
  exact ⟨h1, h2, o, es, ep, h3, h4, h5, h6, fun x hx => td_key I (t.2 x hx), h7⟩
theorem td_stable {φ : List (List Int × Addr × Value)} (h1 h2 : Heap) (p : tdP a φ h1) (k : ∀ o, h1.get? a = some o → h2.get? a = some o) : tdP a φ h2 := by
  obtain ⟨z1, z2, o, es, ep, z3, z⟩ := p
  exact ⟨z1, z2, o, es, ep, k o z3, z⟩
theorem td_in {Q : Value → Shared → Prop} (hu : A.units + 1 < cLine) (I : Inv X pins σ H s) (t : TdRd X.K H a xs) (sq : SqT X.K H b (l.map V.int)) (h : ∀ s', Inv X pins σ H s' → Q (.bool ((xs.map (·.1)).contains l)) s') :
    wpAny (model X.prog X.w) A (compareOp .In (.ref b) (.ref a)) Q E s := by
  obtain ⟨hd, _, dd⟩ := td_of I t
  refine wpAny_in_heap (tupleKind_room_in1 hu) (td_key I sq) hd dd ?_
  rw [atKey_has]
  exact h _ (I.tok _)
theorem td_notIn {Q : Value → Shared → Prop} (hu : A.units + 1 < cLine) (I : Inv X pins σ H s) (t : TdRd X.K H a xs) (sq : SqT X.K H b (l.map V.int)) (h : ∀ s', Inv X pins σ H s' → Q (.bool (!(xs.map (·.1)).contains l)) s') :
    wpAny (model X.prog X.w) A (compareOp .NotIn (.ref b) (.ref a)) Q E s := by
  obtain ⟨hd, _, dd⟩ := td_of I t
  refine wpAny_notIn_heap (tupleKind_room_in1 hu) (td_key I sq) hd dd ?_
  rw [atKey_has]
  exact h _ (I.tok _)
theorem td_set {Q : Unit → Shared → Prop} {r : Value} (hu : A.units + 1 < cLine) (I : Inv X pins σ H s) (t : TdRd X.K H a xs) (sq : SqT X.K H b (l.map V.int)) (hl : xs.length < sizeLine) (h : ∀ s', Inv X pins σ (upd H a (TdO a (storedH xs l b r))) s' → Q () s') :
    wpAny (model X.prog X.w) A (setItem (.ref a) (.ref b) r) Q E s := by
  obtain ⟨hd, hz, dd⟩ := td_of I t
  refine wpAny_setItem_heap (hsz := hz) (tupleKind_room_in1 hu) (td_key I sq) dd fun h' dd' hs => h _ ?_
  obtain ⟨o, es, ep, h1, h2, h3, h4, _, h5⟩ := dd'
  have hlen : (storedH xs l b r).length ≤ sizeLine := by
    unfold storedH
    split
    · rw [List.length_map]; exact hz
    · rw [List.length_append]; exact hl
  exact d_write I (by rw [t.1]; exact True.intro) hs ⟨o, h1⟩ ⟨⟨hd, hlen, o, es, ep, h1, h2, h3, h4, h5⟩, ⟨o, h1⟩, td_stable⟩
/-- {}, its keys tuples of ints -/
def tDNewP : TE := fun _ H Q => ∀ p, H p = none → Q (.ref p) (upd H p (TdO p []))
theorem pe_dnewP {pos : Pos} : PE X (.Dict [] [] pos) tDNewP := ⟨fun pins s σ H Q I h => by
  have hg : (s.heap.push { cls := .type "dict", data := .dict #[] }).get? s.heap.objs.size = some { cls := .type "dict", data := .dict #[] } := Heap.get?_push_size _ rfl
  refine wpAny_Dict_empty ⟨.ref s.heap.objs.size, _, I.laid (a := s.heap.objs.size) (o := TdO s.heap.objs.size []) (t' := s.toks) (fun _ _ q => Heap.get?_push_of_some _ q) (Nat.le_refl _) ?_, rfl, h _ (I.hok.fresh (Nat.le_refl _))⟩
  exact ⟨⟨beq_eq_false_iff_ne.mpr (Ne.symm (Nat.ne_of_lt I.big)), Nat.zero_le _, _, #[], 0, hg, ⟨rfl, rfl, rfl⟩, rfl, rfl, List.nodup_nil⟩, ⟨_, hg⟩, td_stable⟩⟩
end
variable {X : Cx} {p : Pk} {cy : Cy} {es : List (Addr × Nat × Option Addr)} {W : WX}
section
variable {a b : Expr} {pos pos' pp : Pos} {l m : E}
theorem snd_dnew (g : Good X p cy es W) (hc : cy.calm = true) : PE X (.Dict [] [] pos) (RdE X p es W .dnew) := by
  have he := (g.calm hc).2
  subst he
  exact (pe_dnewK).imp fun s H Q ⟨B, b, σ, h, μ, st, q⟩ => by
    unfold evE at q
    intro a0 hn
    have q : ∀ μ' H', Le μ H μ' H' → HR X.K p.fa B (h ++ [.dic []]) μ' H' → KE' X p [] Q (.ref h.length) (h ++ [.dic []]) μ' H' := q
    have sm : Same H (upd H a0 (.dK [])) := same_new hn
    have g1 := st.hr.same sm
    have l1 : Le μ H μ (upd H a0 (.dK [])) := Le.same sm
    have g2 := g1.allocD st.bB st.bl upd_same (st.hr.mu.none hn) (st.hr.nofz hn) .nil
    refine q (μ.add a0) _ (l1.add hn) g2 _ (.ref (by simp [Mu.add, st.hr.len]) fun a' z => ?_)
    have z : (μ.l ++ [some a0])[h.length]? = some (some a') := z
    rw [st.hr.len] at z
    simp at z
    exact z.symm
theorem snd_dnewt (g : Good X p cy es W) (hc : cy.calm = true) : PE X (.Dict [] [] pos) (RdE X p es W .dnewt) := by
  have he := (g.calm hc).2
  subst he
  exact (pe_dnewP).imp fun s H Q ⟨B, b, σ, h, μ, st, q⟩ => by
    unfold evE at q
    intro a0 hn
    have q : ∀ μ' H', Le μ H μ' H' → HR X.K p.fa B (h ++ [.dit []]) μ' H' → KE' X p [] Q (.ref h.length) (h ++ [.dit []]) μ' H' := q
    have sm : Same H (upd H a0 (TdO a0 [])) := same_new hn
    have g1 := st.hr.same sm
    have l1 : Le μ H μ (upd H a0 (TdO a0 [])) := Le.same sm
    have g2 := g1.allocX (o1 := .dit []) st.bB st.bl upd_same rfl (st.hr.mu.none hn) (st.hr.nofz hn) ⟨[], upd_same, rfl, .nil⟩
    refine q (μ.add a0) _ (l1.add hn) g2 _ (.ref (by simp [Mu.add, st.hr.len]) fun a' z => ?_)
    have z : (μ.l ++ [some a0])[h.length]? = some (some a') := z
    rw [st.hr.len] at z
    simp at z
    exact z.symm
theorem snd_dnewu (g : Good X p cy es W) (hc : cy.calm = true) : PE X (.Dict [] [] pos) (RdE X p es W .dnewu) := by
  have he := (g.calm hc).2
  subst he
  exact (pe_dnewP).imp fun s H Q ⟨B, b, σ, h, μ, st, q⟩ => by
    unfold evE at q
    intro a0 hn
    have q : ∀ μ' H', Le μ H μ' H' → HR X.K p.fa B (h ++ [.diu []]) μ' H' → KE' X p [] Q (.ref h.length) (h ++ [.diu []]) μ' H' := q
    have sm : Same H (upd H a0 (TdO a0 [])) := same_new hn
    have g1 := st.hr.same sm
    have l1 : Le μ H μ (upd H a0 (TdO a0 [])) := Le.same sm
    have g2 := g1.allocX (o1 := .diu []) st.bB st.bl upd_same rfl (st.hr.mu.none hn) (st.hr.nofz hn) ⟨[], upd_same, ⟨rfl, .nil⟩, .nil⟩
    refine q (μ.add a0) _ (l1.add hn) g2 _ (.ref (by simp [Mu.add, st.hr.len]) fun a' z => ?_)
    have z : (μ.l ++ [some a0])[h.length]? = some (some a') := z
    rw [st.hr.len] at z
    simp at z
    exact z.symm
theorem dic_of {B : Nat → Prop} {h : Hs} {μ : Mu} {H : Hp} {i : Int} {x y : PV} {v : V} (g : HR X.K p.fa B h μ H) (rx : RV X.K p.fa es μ H (.ref n) v) {kvs : List (PV × PV)} (e : h[n]? = some (.dic kvs)) : ∃ ad ks, v = .ref ad ∧ H ad = some (.dK ks) ∧ RKs X.K p.fa [] μ H kvs ks := by
  obtain ⟨ad, rfl⟩ := rx.refI
  obtain ⟨_, ks, h1, h2⟩ := g.dic rx e
  exact ⟨ad, ks, rfl, h1, h2⟩
theorem val_dct {i : Int} : ∀ {l : List (Int × Int)}, valV (l.map fun p => ((.inl p.1 : Key), V.int p.2)) (.inl i) = (lookD i l).map V.int
  | [] => rfl
  | p :: l => by
    rw [List.map_cons]
    by_cases h : p.1 = i
    · have hb : (p.1 == i) = true := by simpa using h
      have e1 : lookD i (p :: l) = some p.2 := by unfold lookD; rw [List.find?_cons]; simp only [hb]; rfl
      rw [e1]
      exact valV_pos (p := ((.inl p.1 : Key), V.int p.2)) (by show (Sum.inl p.1 : Key) = Sum.inl i; rw [h])
    · have hb : (p.1 == i) = false := by simpa using h
      have e1 : lookD i (p :: l) = lookD i l := by unfold lookD; rw [List.find?_cons]; simp only [hb]
      rw [e1, ← val_dct]
      exact valV_neg (p := ((.inl p.1 : Key), V.int p.2)) (by show ¬ (Sum.inl p.1 : Key) = Sum.inl i; intro z; injection z with z; exact h z)
/-- d[y], its keys ints, or tuples of ints with ints as values -/
def tDGetU (K : PySem.W.Frag) (td ty : TE) : TE := fun σ H Q => td σ H fun x H1 => ty σ H1 fun y H2 => (∃ a v, x = .ref a ∧ DGet H2 a y (some v) ∧ Q v H2) ∨
  ∃ (a b : Addr) (xs : List (List Int × Addr × Value)) (l : List Int) (i : Int) (p : Addr × Value), x = .ref a ∧ y = .ref b ∧ TdRd K H2 a xs ∧ SqT K H2 b (l.map V.int) ∧ atKey xs l = some p ∧ RelV (V.int i) p.2 ∧ Q (.int i) H2
theorem pe_dgetU {o i : Expr} {td ty : TE} (hu : X.A.units + 1 < cLine) (ho : PE X o td) (hi : PE X i ty) (hs : NoSl i) : PE X (.Subscript o i pos) (tDGetU X.K td ty) := by
  refine ⟨fun pins s σ H Q I h => ?_⟩
  refine subD_of PySem.F.slot_dict_getitem.lookup hs (thn (ho.run pins s σ H _ I h) fun u s1 ⟨x, H1, I1, rx, q1⟩ => thn (hi.run pins s1 σ H1 _ I1 q1) fun iv s2 ⟨y, H2, I2, ry, q2⟩ => ?_)
  rcases q2 with ⟨a, v, ex, g, q2⟩ | ⟨a, b, xs, l, i, p, ex, ey, t, sq, hp, hr, q2⟩
  · subst ex
    obtain rfl : u = Value.ref a := rx
    exact ⟨dict_typeIs I2 g, d_getItem hu I2 g ry fun w' s3 I3 rw' => ⟨v, H2, I3, rw', q2⟩⟩
  · subst ex
    subst ey
    obtain rfl : u = Value.ref a := rx
    obtain rfl : iv = Value.ref b := ry
    obtain ⟨hd, _, dd⟩ := td_of I2 t
    exact ⟨dd.typeIs, wpAny_getItem_heap (tupleKind_room_in1 hu) (td_key I2 sq) dd hp ⟨.int i, H2, I2.tok _, hr, q2⟩⟩
theorem snd_dget (g : Good X p cy es W) (pb : plainE b = true) (ha : PE X a (RdE X p es W l)) (hb : PE X b (RdE X p es W m)) : PE X (.Subscript a b pos) (RdE X p es W (.dget l m)) :=
  (pe_dgetU (by have := g.un; omega) ha hb (fun ov iv => plain_ix pb ov iv)).imp fun s H Q ⟨B, b, σ, h, μ, st, q⟩ => by
    unfold evE at q
    refine seqE st q fun y h1 μ1 H1 v l1 st1 ry q1 => seqE st1 q1 fun x h2 μ2 H2 w l2 st2 rx q2 => ?_
    obtain ⟨z, ez, kz⟩ := Post.of q2
    have ry := ry.mono l2 st1.hr.mu
    cases x with
    | int i =>
      cases y with
      | ref n =>
        simp only [dgetV] at ez
        split at ez
        · rename_i kvs e
          cases rx.intI
          obtain ⟨ad, ks, rfl, h1, h2⟩ := dic_of (i := 0) (x := .non) (y := .non) st2.hr ry e
          rcases h2.look i with ⟨z1, _⟩ | ⟨x, v, z1, z2, r⟩
          · rw [z1] at ez; cases ez
          · rw [z1] at ez
            cases ez
            exact .inl ⟨ad, v, rfl, by rw [← z2]; exact DGet.k (k := .inl i) h1, kz μ2 H2 .refl st2.hr _ r.any⟩
        · cases ez
      | dct l =>
        cases rx.intI
        cases ry with
        | @dct ad o _ hd =>
        simp only [dgetV] at ez
        cases q : lookD i l with
        | none => rw [q] at ez; cases ez
        | some v =>
          rw [q] at ez
          cases ez
          exact .inl ⟨ad, .int v, rfl, .inl ⟨_, .inl i, .inr ⟨o, hd⟩, rfl, by rw [val_dct, q]; rfl⟩, kz μ2 H2 .refl st2.hr _ (.int v)⟩
      | _ => cases ez
    | tup ys =>
      cases y with
      | ref n =>
        simp only [dgetV] at ez
        split at ez
        · rename_i kvs e
          obtain ⟨l, el, e2⟩ := Option.bind_eq_some_iff.mp ez
          obtain ⟨i, ei, e3⟩ := Option.map_eq_some_iff.mp e2
          cases intsP_eq el
          obtain ⟨ad, rfl⟩ := ry.refI
          obtain ⟨_, xs, ⟨hk, hv⟩, t, _⟩ := st2.hr.diu ry e
          obtain ⟨b', rfl, sq⟩ := RV.tupIs (l := l) rx
          obtain ⟨p0, hp, hr⟩ := look_at hk hv ei
          subst e3
          exact .inr ⟨ad, b', xs, l, i, p0, rfl, rfl, t, sq, hp, hr, kz μ2 H2 .refl st2.hr _ (.int i)⟩
        · cases ez
      | _ => cases ez
    | _ => cases ez
def rDin (K : PySem.W.Frag) (neg : Bool) : R2 := fun y x H Q => (∃ a o, x = .ref a ∧ DGet H a y o ∧ Q (.bl (if neg then !o.isSome else o.isSome)) H) ∨
  ∃ a b xs, ∃ l : List Int, x = .ref a ∧ y = .ref b ∧ TdRd K H a xs ∧ SqT K H b (l.map V.int) ∧ Q (.bl (if neg then !(xs.map (·.1)).contains l else (xs.map (·.1)).contains l)) H
theorem op_din (hu : X.A.units + 1 < cLine) {neg : Bool} {op : CmpOp} (ho : ckDin neg op = true) : OpR X (compareOp op) (rDin X.K neg) := by
  intro pins s σ H y x u v Q I ry rx h
  rcases h with ⟨a, o, rfl, g, q⟩ | ⟨a, b, xs, l, rfl, rfl, t, sq, q⟩
  · obtain rfl : v = Value.ref a := rx
    cases op <;> first | (cases ho; done) | skip
    · have : neg = false := by simpa [ckDin] using ho
      subst this
      exact d_in hu I g ry fun s' I' => ⟨.bl o.isSome, H, I', rfl, q⟩
    · have : neg = true := ho
      subst this
      exact d_notIn hu I g ry fun s' I' => ⟨.bl (!o.isSome), H, I', rfl, q⟩
  · obtain rfl : v = Value.ref a := rx
    obtain rfl : u = Value.ref b := ry
    cases op <;> first | (cases ho; done) | skip
    · have : neg = false := by simpa [ckDin] using ho
      subst this
      exact td_in hu I t sq fun s' I' => ⟨.bl _, H, I', rfl, q⟩
    · have : neg = true := ho
      subst this
      exact td_notIn hu I t sq fun s' I' => ⟨.bl _, H, I', rfl, q⟩
theorem imp_din {neg : Bool} : ∀ s H Q, RdE X p es W (.din neg l m) s H Q → tOp (rDin X.K neg) (RdE X p es W l) (RdE X p es W m) s H Q := fun s H Q ⟨B, b, σ, h, μ, st, q⟩ => by
  unfold evE at q
  refine seqE st q fun x h1 μ1 H1 v l1 st1 rx q1 => seqE st1 q1 fun y h2 μ2 H2 w l2 st2 ry q2 => ?_
  obtain ⟨z, ez, kz⟩ := Post.of q2
  have rx := rx.mono l2 st1.hr.mu
  obtain ⟨r, er, ez⟩ := Option.map_eq_some_iff.mp ez
  cases x with
  | int i =>
    cases y with
    | ref n =>
      simp only [dinV] at er
      split at er
      · rename_i kvs e
        cases er
        cases rx.intI
        obtain ⟨ad, ks, rfl, h1, h2⟩ := dic_of (i := 0) (x := .non) (y := .non) st2.hr ry e
        refine .inl ⟨ad, valV ks (.inl i), rfl, DGet.k (k := .inl i) h1, ?_⟩
        have es : (valV ks (.inl i)).isSome = (lookI i kvs).isSome := by
          rcases h2.look i with ⟨z1, z2⟩ | ⟨x, v, z1, z2, r⟩
          · rw [z1, z2]; rfl
          · rw [z1, z2]; rfl
        rw [es]
        subst ez
        exact kz μ2 H2 .refl st2.hr _ (.bl _)
      · cases er
    | dct l =>
      cases rx.intI
      cases ry with
      | @dct ad o _ hd =>
      simp only [dinV] at er
      cases er
      refine .inl ⟨ad, (lookD i l).map V.int, rfl, .inl ⟨_, .inl i, .inr ⟨o, hd⟩, rfl, val_dct.symm⟩, ?_⟩
      subst ez
      rw [Option.isSome_map]
      exact kz μ2 H2 .refl st2.hr _ (.bl _)
    | _ => cases er
  | tup ys =>
    cases y with
    | ref n =>
      simp only [dinV] at er
      split at er
      · rename_i ks e
        obtain ⟨l, el, er2⟩ := Option.map_eq_some_iff.mp er
        cases intsP_eq el
        obtain ⟨ad, rfl⟩ := ry.refI
        obtain ⟨_, xs, hk, t, _⟩ := st2.hr.dit ry e
        obtain ⟨b', rfl, sq⟩ := RV.tupIs (l := l) rx
        refine .inr ⟨ad, b', xs, l, rfl, rfl, t, sq, ?_⟩
        rw [← hk]
        subst er2
        subst ez
        exact kz μ2 H2 .refl st2.hr _ (.bl _)
      · rename_i kvs e
        obtain ⟨l, el, er2⟩ := Option.map_eq_some_iff.mp er
        cases intsP_eq el
        obtain ⟨ad, rfl⟩ := ry.refI
        obtain ⟨_, xs, ⟨hk, _⟩, t, _⟩ := st2.hr.diu ry e
        obtain ⟨b', rfl, sq⟩ := RV.tupIs (l := l) rx
        refine .inr ⟨ad, b', xs, l, rfl, rfl, t, sq, ?_⟩
        rw [← hk]
        subst er2
        subst ez
        exact kz μ2 H2 .refl st2.hr _ (.bl _)
      · cases er
    | _ => cases er
  | _ => cases er
theorem snd_din (g : Good X p cy es W) {neg : Bool} {op : CmpOp} (ho : ckDin neg op = true) (pb : plainE b = true) (ha : PE X a (RdE X p es W l)) (hb : PE X b (RdE X p es W m)) :
    PE X (.Compare a [op] [b] pos) (RdE X p es W (.din neg l m)) ∧ PT X (.Compare a [op] [b] pos) (RdT X p es W (.din neg l m)) := by
  have h1 := op_din (X := X) (by have := g.un; omega) ho
  exact ⟨(pe_cmpR h1 ha hb (plain_mark pb op)).imp imp_din, (pt_cmpR h1 ha hb (plain_mark pb op)).imp fun s H Q q => imp_din s H _ (rd_test q)⟩
theorem set_dic (hu : X.A.units + 1 < cLine) : PSet X (fun x y v H Q => (∃ a H', x = .ref a ∧ DPut H a y v H' ∧ Q H') ∨
    ∃ a b xs, ∃ l : List Int, x = .ref a ∧ y = .ref b ∧ TdRd X.K H a xs ∧ SqT X.K H b (l.map V.int) ∧ xs.length < sizeLine ∧ ∀ r, RelV v r → Q (upd H a (TdO a (storedH xs l b r)))) := by
  intro pins s σ H o i v ov iv u Q I ro ri rv h
  rcases h with ⟨a, H', rfl, g, q⟩ | ⟨a, b, xs, l, rfl, rfl, t, sq, hl, q⟩
  · obtain rfl : ov = Value.ref a := ro
    exact d_setItem hu I g ri rv fun s' I' => ⟨H', I', q⟩
  · obtain rfl : ov = Value.ref a := ro
    obtain rfl : iv = Value.ref b := ri
    exact td_set hu I t sq hl fun s' I' => ⟨_, I', q _ rv⟩
theorem snd_dix (g : Good X p cy es W) (hc : cy.calm = true) (pb : plainE b = true) (ha : PE X a (RdE X p es W l)) (hb : PE X b (RdE X p es W m)) : PG X (.Subscript a b pos) (RdG X p es W (.dix l m)) := by
  have he := (g.calm hc).2
  subst he
  refine (pg_sub ha hb (set_dic (by have := g.un; omega)) (fun v => plain_assign pb v)).imp fun v s H Q ⟨B, b, σ, h, μ, x, st, rx, q⟩ => ?_
  unfold evT at q
  refine seqS st q fun o h1 μ1 H1 ov l1 st1 ro q1 => seqS st1 q1 fun i h2 μ2 H2 iv l2 st2 ri q2 => ?_
  have rx2 := (rx.mono l1 st.hr.mu).mono l2 st1.hr.mu
  have ro2 := ro.mono l2 st1.hr.mu
  cases q3 : dputV b h2 o i x with
  | none => rw [q3] at q2; exact q2.elim
  | some h' =>
    rw [q3] at q2
    unfold dputV at q3
    cases o with
    | ref n =>
      cases i with
      | int k =>
        simp only [] at q3
        split at q3
        · rename_i hs
          split at q3
          · rename_i kvs e
            split at q3
            · rename_i hl
              cases q3
              cases ri.intI
              obtain ⟨ad, rfl⟩ := ro2.refI
              obtain ⟨ea, ks, eH, rk⟩ := st2.hr.dic ro2 e
              obtain ⟨g3, l3⟩ := st2.hr.putD st2.bB e ea eH (rk.put k rx2) fun c c1 c2 c3 => low_put (stOk_low hs c1 c2) c3
              refine .inl ⟨ad, _, rfl, DPut.k (k := .inl k) eH (by rw [← rk.length]; exact Nat.lt_of_lt_of_le hl (line_le (Nat.le_refl _))), ?_⟩
              exact q2 μ2 _ l3 g3 s (st2.env.mono l3 st2.hr.mu) ⟨rfl, fun _ _ => rfl⟩
            · cases q3
          · cases q3
        · cases q3
      | tup ys =>
        simp only [] at q3
        cases x with
        | bl c =>
          cases c with
          | true =>
            simp only [] at q3
            split at q3
            · rename_i ks e
              split at q3
              · rename_i hl
                obtain ⟨l, el, q4⟩ := Option.map_eq_some_iff.mp q3
                cases intsP_eq el
                subst q4
                obtain ⟨ad, rfl⟩ := ro2.refI
                obtain ⟨ea, xs, hk, t, rr⟩ := st2.hr.dit ro2 e
                obtain ⟨b', eb, sq⟩ := RV.tupIs (l := l) ri
                subst eb
                have nf : ¬ μ2.F ad := (st2.hr.mu n ad ea).2
                refine .inr ⟨ad, b', xs, l, rfl, rfl, t, sq, ?_, fun r _ => ?_⟩
                · have : xs.length = ks.length := by rw [hk, List.length_map]
                  rw [this]
                  exact Nat.lt_of_lt_of_le hl (line_le (Nat.le_refl _))
                · obtain ⟨g3, l3⟩ := st2.hr.putX (o2 := .dit (putT l ks)) (u2 := TdO ad (storedH xs l b' r)) st2.bB e ea t.1 rfl rfl
                    ⟨_, upd_same, by rw [hk, stored_keys], by rw [hk] at rr ⊢; exact (stored_rv (v := r) rr ri).off t.1 rfl nf⟩ (fun _ _ _ _ => rfl)
                  exact q2 μ2 _ l3 g3 s (st2.env.mono l3 st2.hr.mu) ⟨rfl, fun _ _ => rfl⟩
              · cases q3
            · cases q3
          | false => cases q3
        | int i =>
          simp only [] at q3
          split at q3
          · rename_i kvs e
            split at q3
            · rename_i hl
              obtain ⟨l, el, q4⟩ := Option.map_eq_some_iff.mp q3
              cases intsP_eq el
              subst q4
              obtain ⟨ad, rfl⟩ := ro2.refI
              obtain ⟨ea, xs, ⟨hk, hv⟩, t, rr⟩ := st2.hr.diu ro2 e
              obtain ⟨b', eb, sq⟩ := RV.tupIs (l := l) ri
              subst eb
              cases rx2.intI
              have nf : ¬ μ2.F ad := (st2.hr.mu n ad ea).2
              refine .inr ⟨ad, b', xs, l, rfl, rfl, t, sq, ?_, fun r hr => ?_⟩
              · have : xs.length = kvs.length := by
                  have := congrArg List.length hk
                  rw [List.length_map, List.length_map] at this
                  exact this.symm
                rw [this]
                exact Nat.lt_of_lt_of_le hl (line_le (Nat.le_refl _))
              · obtain ⟨g3, l3⟩ := st2.hr.putX (o2 := .diu (putU l i kvs)) (u2 := TdO ad (storedH xs l b' r)) st2.bB e ea t.1 rfl rfl
                  ⟨_, upd_same, ⟨by rw [putU_keys, hk, stored_keys], stored_vals hr hk hv⟩, by rw [putU_keys]; rw [hk] at rr ⊢; exact (stored_rv (v := r) rr ri).off t.1 rfl nf⟩ (fun _ _ _ _ => rfl)
                exact q2 μ2 _ l3 g3 s (st2.env.mono l3 st2.hr.mu) ⟨rfl, fun _ _ => rfl⟩
            · cases q3
          · cases q3
        | _ => cases q3
      | _ => cases q3
    | _ => cases q3
theorem snd_rngv (g : Good X p cy es W) {x : Str} (hx0 : x = "range") (hx : globB cy x = true) (pa : plainE a = true) (pb : plainE b = true) (ha : PE X a (RdE X p es W l)) (hb : PE X b (RdE X p es W m)) : PE X (.Call (.Name x pp) [a, b] [] pos) (RdE X p es W (.rngv l m)) := by
  subst hx0
  have hm : X.mg "range" = none := g.blt _ (by decide)
  obtain ⟨h1, h2, h3, _⟩ := badName_of hx
  refine (pe_callTy cr_range2 (g.glob hx) hm (by decide +kernel) (pa_two pa pb ha hb) h3 h1 (plain_star pa [b] X.env) (plain_any (by simp [pb]))).imp fun s H Q ⟨B, b, σ, h, μ, st, q⟩ => ?_
  unfold evE at q
  refine seqE st q fun x h1 μ1 H1 v l1 st1 rx q1 => seqE st1 q1 fun y h2 μ2 H2 w l2 st2 ry q2 => ?_
  obtain ⟨z, ez, kz⟩ := Post.of q2
  cases x with
  | int i =>
    cases y with
    | int j =>
      cases rx.intI
      cases ry.intI
      simp only [rngV] at ez
      split at ez
      · cases ez
        refine ⟨i, j, rfl, fun a0 hn => ?_⟩
        have sm : Same H2 (upd H2 a0 (.rng i j)) := same_new hn
        exact kz μ2 _ (Le.same sm) (st2.hr.same sm) _ (.rng upd_same)
      · cases ez
    | _ => cases ez
  | _ => cases ez
/-! ### t[::-1] of a tuple -/
theorem snd_trev {k : Nat} {p1 p2 p3 : Pos} (ha : PE X a (RdE X p es W l)) : PE X (.Subscript a (.Slice none none (some (.UnaryOp .USub (.Constant (.int 1) k p1) p2)) p3) pos) (RdE X p es W (.trev l)) :=
  (pe_revT ha).imp fun s H Q ⟨B, b, σ, h, μ, st, q⟩ => by
    unfold evE at q
    refine seqE st q fun x h1 μ1 H1 v l1 st1 rx q1 => ?_
    cases x with
    | tup xs =>
      obtain ⟨ad, vs, rfl, sq, r⟩ := rx.tupB
      refine ⟨ad, vs, rfl, sq.t, fun pp ob hp hd => ?_⟩
      have q1 : ∀ μ' H', Le μ1 H1 μ' H' → HR X.K p.fa B h1 μ' H' → KE' X p es Q (.tup xs.reverse) h1 μ' H' := q1
      have sm : Same H1 (upd H1 pp (.frz ob (.tup vs.reverse))) := same_new hp
      exact q1 μ1 _ (Le.same sm) (st1.hr.same sm) _ (newTup st1.hr.mu hp hd r.reverse)
    | _ => exact q1.elim
end
end Mi
end

section
set_option Elab.async false
set_option linter.all false
set_option maxRecDepth 100000
set_option maxHeartbeats 4000000
/-! SndE: comprehensions over a live list of ints -/
namespace Mi
open PySem PySem.Spec PyProof.Rows L2
variable {X : Cx} {p : Pk} {cy : Cy} {es : List (Addr × Nat × Option Addr)} {W : WX}
theorem intsP_get : ∀ {xs : List PV} {ns : List Int}, intsP xs = some ns → xs = ns.map PV.int
  | [], ns, e => by cases e; rfl
  | x :: r, ns, e => by
    cases x with
    | int y =>
      simp only [intsP] at e
      cases q : intsP r with
      | none => rw [q] at e; cases e
      | some bs =>
        rw [q] at e
        cases e
        rw [intsP_get q]; rfl
    | _ => simp [intsP] at e
theorem wch_ok {K : PySem.W.Frag} {fa : Nat → Addr} {B : Nat → Prop} {h : Hs} {μ : Mu} {H : Hp} {n : Nat} {a : Addr} {ns : List Int} (g : HR K fa B h μ H) (r : RV K fa es μ H (.ref n) (.ref a)) (e : wch n ns h = true) : SqL K H a (ns.map V.int) := by
  unfold wch at e
  split at e
  · rename_i ys ey
    have e := of_decide_eq_true e
    obtain ⟨_, vs, h1, rv⟩ := g.lst r ey
    rw [ints_ofN rv e] at h1
    exact .of h1
  · cases e
theorem live_ok {σ : En} {h : Hs} {i n : Nat} {xs : List PV} {ns : List Int} (e : liveI σ h i = some (n, xs, ns)) : (σ[i]?).join = some (.ref n) ∧ xs = ns.map PV.int := by
  unfold liveI at e
  split at e
  · rename_i m q
    split at e
    · rename_i ys ey
      obtain ⟨z, ez, e⟩ := Option.map_eq_some_iff.mp e
      cases e
      exact ⟨q, intsP_get ez⟩
    · cases e
  · cases e
section
variable {tg elt : Expr} {px pos : Pos} {l : E} {t : T} {scope : Scope} {own : List (Str × Nat)} {i : Nat} {x : Str}
theorem snd_compw (g : Good X p cy es W) (hc : cy.calm = true) (hN : cy.N[i]? = some x) (hv : visB cy x = true) (ok : BlkOk X.N X.env.scope scope own) (hn : ∀ i ∈ t.names, i ∈ own.map (·.2))
    (hg : ∀ (s : Shared) (H : Hp) (C : Addr) (cl : List (Str × Addr)) (fp : List Addr), PG (X.blk s H scope (compEnvC scope cl C X.env) fp) tg (RdG X p es WN t))
    (he : ∀ (s : Shared) (H : Hp) (C : Addr) (cl : List (Str × Addr)) (fp : List Addr), PE (X.blk s H scope (compEnvC scope cl C X.env) fp) elt (RdE X p es WN l)) :
    (∀ s H Q, RdF X p es W (.compw i t l (own.map (·.2))) s H Q → tLc (iSeq X.K (RdE X p es W (.var i))) (RdG X p es WN t) tYes (RdE X p es WN l) (own.map (·.2)) s H Q) ∧
    PE X (.ListComp elt [⟨tg, .Name x px, [], 0⟩] scope pos) (RdF X p es W (.compw i t l (own.map (·.2)))) := by
  have imp : ∀ s H Q, RdF X p es W (.compw i t l (own.map (·.2))) s H Q → tLc (iSeq X.K (RdE X p es W (.var i))) (RdG X p es WN t) tYes (RdE X p es WN l) (own.map (·.2)) s H Q := fun s H Q ⟨B, b, σ, h, μ1, st1, q1⟩ => by
    unfold evF at q1
    split at q1
    · rename_i n xs ns hlv
      obtain ⟨hvar, hxs⟩ := live_ok hlv
      have hlen : xs.length = ns.length := by rw [hxs, List.length_map]
      have hget : ∀ (i : Nat) (h : i < ns.length), xs[i]? = some (.int (ns[i]'h)) := fun i h => by rw [hxs]; simp [h]
      refine ⟨B, b, σ, h, μ1, st1, ?_⟩
      unfold evE
      rw [hvar]
      intro μ1' H1 l0 g1 v rv
      obtain ⟨a, rfl⟩ := rv.refI
      have st1 := st1.next l0 g1
      have q1 := q1.later l0
      generalize hf : (fun (x : PV) (h : Hs) => (evT p.C b t x (Mi.wipe σ (own.map (·.2))) h).bind fun σ' h => evE p.C b l σ' h) = f at q1
      have hc0 : wch n ns h = true := by
        cases xs with
        | nil =>
          simp only [coW] at q1
          split at q1
          · assumption
          · exact q1.elim
        | cons y r =>
          simp only [coW] at q1
          split at q1
          · assumption
          · exact q1.elim
      refine ⟨a, rfl, ns.map V.int, .inl ⟨wch_ok g1 rv hc0, fun hz => ?_⟩⟩
      have hz : xs.length ≤ sizeLine := by rw [List.length_map] at hz; omega
      intro D nD
      have rvD := rv
      refine ⟨fun i m H' => ∃ (hh : Hs) (μ' : Mu) (acc : List PV) (av : List V), m = xs.length - i ∧ i ≤ xs.length ∧ acc.length = i ∧ H' D = some (.lst av) ∧ RVs X.K p.fa es μ' H' acc av ∧ (∀ n : Nat, μ'.l[n]? ≠ some (some D)) ∧ ¬ μ'.F D ∧ HR X.K p.fa B hh μ' H' ∧ Le μ1' H1 μ' H' ∧
        Post X.K p.fa B μ1' H1 ((coW (wch n ns) f (xs.drop i) acc hh).calm) (KF X p es H Q) (XW p W s), ⟨xs.length, h, μ1', [], [], by simp, Nat.zero_le _, rfl, upd_same, .nil, g1.mu.none nD, g1.nofz nD, g1.same (same_new nD), Le.same (same_new nD), q1⟩, ?_⟩
      rintro i m H' ⟨hh, μ', acc, av, rfl, hi, hal, eD, ra, nl, nf, g', l', q'⟩
      have rv' := rv.mono l' g1.mu
      by_cases hlt : i < xs.length
      · have hx : xs[i]? = some (.int (ns[i]'(by omega))) := hget i (by omega)
        have hnx : (ns.map V.int)[i]? = some (V.int (ns[i]'(by omega))) := by simp [List.getElem?_map, List.getElem?_eq_getElem (show i < ns.length by omega)]
        have hxe : xs[i] = .int (ns[i]'(by omega)) := by rw [List.getElem?_eq_getElem hlt] at hx; exact Option.some.inj hx
        rw [List.drop_eq_getElem_cons hlt] at q'
        simp only [coW] at q'
        split at q'
        · rename_i hcw
          have sq := wch_ok g' rv' hcw
          refine .inr ⟨⟨_, _, sq, hnx⟩, fun H'' => ∃ (hh : Hs) (μ' : Mu) (acc : List PV) (av : List V), acc.length = i + 1 ∧ H'' D = some (.lst av) ∧ RVs X.K p.fa es μ' H'' acc av ∧ (∀ n : Nat, μ'.l[n]? ≠ some (some D)) ∧ ¬ μ'.F D ∧ HR X.K p.fa B hh μ' H'' ∧ Le μ1' H1 μ' H'' ∧
            Post X.K p.fa B μ1' H1 ((coW (wch n ns) f (xs.drop (i + 1)) acc hh).calm) (KF X p es H Q) (XW p W s), fun H'' ⟨hh, μ', acc, av, a1, a2, a3, a4, a5, a6, a7, a8⟩ => ⟨xs.length - (i + 1), by omega, hh, μ', acc, av, rfl, hlt, a1, a2, a3, a4, a5, a6, a7, a8⟩, fun v H2 hy => ?_⟩
          obtain ⟨eH, hy⟩ := hy
          have eH := eH.symm
          subst eH
          have hv := hy _ sq
          rw [hnx] at hv
          cases hv
          have q2 := q'.calm0
          subst hf
          have q3 : Post X.K p.fa B μ1' H1 ((evT p.C b t xs[i] (Mi.wipe σ (own.map (·.2))) hh).bind fun σ' h => evE p.C b l σ' h) _ XN := q2
          rw [hxe] at q3
          have env0 : EnvR X.K p.fa es μ' H' (Mi.wipe σ (own.map (·.2))) (L2.wipe s (own.map (·.2))) := (st1.env.mono l' g1.mu).wipe _
          have bl' : b ≤ μ'.l.length := Nat.le_trans st1.bl l'.len
          refine ⟨B, b, _, hh, μ', .int (ns[i]'(by omega)), ⟨st1.bB, bl', env0, g'⟩, .int _, ?_⟩
          refine ((q3.bind0).later l').mono (fun σ3 h3 μ3 H3 l3 g3 q5 s3 env3 ch3 => ?_) fun _ _ _ _ _ _ _ z => z.elim
          refine ⟨ch3.wipe hn |>.trans (snd_comp.wipe_wipe s _), ?_⟩
          show RdE X p es WN l s3 H3 _
          have nl3 := l3.nl eD nl
          have nf3 := l3.nfz eD nl nf
          have e3 : H3 D = some (.lst av) := (l3.keep D _ eD).elim (fun ⟨n, z⟩ => absurd z (nl n)) id
          have ra3 := ra.mono l3 g'.mu
          refine ⟨B, b, σ3, h3, μ3, ⟨st1.bB, Nat.le_trans bl' l3.len, env3, g3⟩, (q5.later (l'.trans l3)).mono (fun z h5 μ5 H5 l5 g5 q7 w rw' => ?_) fun _ _ _ _ _ _ _ z => z.elim⟩
          have nl5 := l5.nl e3 nl3
          have nf5 := l5.nfz e3 nl3 nf3
          have e5 : H5 D = some (.lst av) := (l5.keep D _ e3).elim (fun ⟨n, z⟩ => absurd z (nl3 n)) id
          have ra5 := ra3.mono l5 g3.mu
          have len5 : av.length = acc.length := ra5.length.symm
          exact ⟨av, e5, Nat.lt_of_lt_of_le (by omega) hz, h5, μ5, acc ++ [z], av ++ [w], by simp; omega, upd_same, (ra5.append (.cons rw' .nil)).off e5 rfl nf5, nl5, nf5, g5.off e5 rfl nf5 nl5, ((l'.trans l3).trans l5).off nD, q7⟩
        · exact q'.elim
      · have e : i = xs.length := by omega
        subst e
        rw [List.drop_length] at q'
        simp only [coW] at q'
        split at q'
        · rename_i hcw
          refine .inl ⟨⟨_, wch_ok g' rv' hcw, by rw [List.length_map]; omega⟩, ?_⟩
          have q' : ∀ μ2 H2, Le μ1' H1 μ2 H2 → HR X.K p.fa B hh μ2 H2 → KF X p es H Q acc hh μ2 H2 := q'
          exact q' μ' H' l' g' D av (l0.none nD) eD nl nf ra
        · exact q'.elim
    · exact q1.elim
  exact ⟨imp, (pe_lc (g.calm hc).1 g.nd (pi_seq (snd_var g hN hv)) ok hg (fun _ _ _ _ _ => pts_nil) he (fun x => plain_fold rfl _ _)).imp imp⟩

/-! ### name = {k: v for ..} -/
theorem ps_setDc {i : Nat} {y : Str} {py : Pos} {kx vx tg iter : Expr} {ifs : List Expr} {scope : Scope} {own : List (Str × Nat)} {pos spos : Pos} {wi : TI} {g : TG} {tt : TT} {tk tv : TE} (hc : X.calm = true) (hN : X.N.Nodup) (hy : X.N[i]? = some y) (hyl : X.env.scope.names.lookup y = some .local)
    (hsw : swapsWith (.DictComp kx vx [⟨tg, iter, ifs, 0⟩] scope pos) (some (.Name y py)) spos.line X.env = pure true) (hi : PI X tg iter wi) (ok : BlkOk X.N X.env.scope scope own)
    (hg : ∀ (s : Shared) (H : Hp) (C : Addr) (cl : List (Str × Addr)) (fp : List Addr), PG (X.blk s H scope (compEnvC scope cl C X.env) fp) tg g) (ht : ∀ (s : Shared) (H : Hp) (C : Addr) (cl : List (Str × Addr)) (fp : List Addr), PTs (X.blk s H scope (compEnvC scope cl C X.env) fp) ifs tt)
    (hk : ∀ (s : Shared) (H : Hp) (C : Addr) (cl : List (Str × Addr)) (fp : List Addr), PE (X.blk s H scope (compEnvC scope cl C X.env) fp) kx tk)
    (he : ∀ (s : Shared) (H : Hp) (C : Addr) (cl : List (Str × Addr)) (fp : List Addr), PE (X.blk s H scope (compEnvC scope cl C X.env) fp) vx tv) (hs : ∀ x, foldedSetIterable iter X.env x = pure x := by intro _; rfl) :
    PS X (.Assign [.Name y py] (.DictComp kx vx [⟨tg, iter, ifs, 0⟩] scope pos) spos) (tAsg (tDc wi g tt tk tv (own.map (·.2))) (gName i)) := by
  refine ⟨fun pins s σ H D I h => ?_⟩
  rw [exec_Assign_Name_used _ _ _ _ hsw]
  refine wpAny_bind (wpAny_standAt (wpAny_bind ?_))
  show wpAny _ X.A (do let _ ← comprehension (.DictComp kx vx [⟨tg, iter, ifs, 0⟩] scope pos) scope X.env (firstIterPos [⟨tg, iter, ifs, 0⟩] pos) newDict false (eval iter X.env) (some (assign (.Name y py) X.env))) _ _ s
  have h : tDc wi g tt tk tv (own.map (·.2)) σ H (fun x H1 => gName i x σ H1 D.nx) := h
  refine wpAny_bind (thn (dc_core (Qf := fun _ s' => SP X pins D .next s') hc hN I hi ok hg ht hk he hs h fun L C s' m H' I' q hn f => ?_) fun _ s' hq => wpAny_pure (wpAny_pure hq))
  show wpAny _ _ (assign (.Name y py) X.env (.ref L)) _ _ _
  refine wpAny_assign_Name (store_ok2 (v := V.ref L) I' hN hy (.inl hyl) rfl (fun s2 I2 ⟨a, sb, ha⟩ => ?_) (.inr hyl))
  obtain ⟨f0, f1, f2, f3, f4, f5⟩ := f
  have haC : C ≠ a := by
    rcases ha with z | z
    · rw [z]; exact f1
    · exact fun e => f4 y a z e.symm
  refine ⟨m, hn.sameBut sb haC, fun h3 sb3 => ?_⟩
  exact ⟨_, H', I2.turned (t' := s2.toks) (fun b o hb e => (sb3.2 b hb).trans e) f0 f1 f3 f4 f5, q⟩
theorem sw_trueD {kx vx : Expr} {gs : List Comprehension} {scope : Scope} {pos py : Pos} {y : Str} {l : Nat} {env : Env} (hk : env.scope.kind = .function) (hy : env.scope.names.lookup y = some .local) (hl : (py.line == pos.line) = true)
    (ha : (scope.names.any fun (n, k) => n == y && (k == .local || k == .cell)) = false) : swapsWith (.DictComp kx vx gs scope pos) (some (.Name y py)) l env = pure true := by
  have ky : env.kindOf y = some .local := hy
  have hb : env.blockKind = .function := by unfold Env.blockKind; rw [hk]; rfl
  unfold swapsWith
  simp only [hb, ky, ha, Expr.pos, hl]
  rfl
theorem Post.calmB {α β γ : Type} {K : PySem.W.Frag} {fa : Nat → Addr} {B : Nat → Prop} {μ : Mu} {H : Hp} {r : R α} {f : α → Hs → R β} {f2 : β → Hs → R γ} {k : KA γ} {x : KX} (q : Post K fa B μ H (((r.bind f).calm).bind f2) k x) : Post K fa B μ H r (fun a h _ _ => Post K fa B μ H (((f a h).calm).bind f2) k x) XN := by
  cases r with
  | bad => exact q
  | exc c fs h => exact False.elim q
  | ok a h => exact fun _ _ _ _ => q
theorem snd_dasg {kx vx : Expr} {k v : E} {j : Nat} {y : Str} {py spos : Pos} (g : Good X p cy es W) (hc : cy.calm = true) (hN : cy.N[i]? = some x) (hv : visB cy x = true) (hNj : cy.N[j]? = some y) (hloc : cy.sc.lookup y = some .local)
    (hsw : swapsWith (.DictComp kx vx [⟨tg, .Name x px, [], 0⟩] scope pos) (some (.Name y py)) spos.line X.env = pure true) (ok : BlkOk X.N X.env.scope scope own) (hn : ∀ i ∈ t.names, i ∈ own.map (·.2))
    (hg : ∀ (s : Shared) (H : Hp) (C : Addr) (cl : List (Str × Addr)) (fp : List Addr), PG (X.blk s H scope (compEnvC scope cl C X.env) fp) tg (RdG X p es WN t))
    (hk : ∀ (s : Shared) (H : Hp) (C : Addr) (cl : List (Str × Addr)) (fp : List Addr), PE (X.blk s H scope (compEnvC scope cl C X.env) fp) kx (RdE X p es WN k))
    (he : ∀ (s : Shared) (H : Hp) (C : Addr) (cl : List (Str × Addr)) (fp : List Addr), PE (X.blk s H scope (compEnvC scope cl C X.env) fp) vx (RdE X p es WN v)) :
    PS X (.Assign [.Name y py] (.DictComp kx vx [⟨tg, .Name x px, [], 0⟩] scope pos) spos) (RdS X p es W (.dasg j i t k v (own.map (·.2)))) := by
  have es0 := (g.calm hc).2
  subst es0
  refine (ps_setDc (g.calm hc).1 g.nd (by rw [g.N]; exact hNj) (by rw [g.sc]; exact hloc) hsw (pi_seq (snd_var g hN hv)) ok hg (fun _ _ _ _ _ => pts_nil) hk he (fun x => plain_fold rfl _ _)).imp fun Dn s H ⟨B, b, σ, h, μ1, st1, q1⟩ => ?_
  unfold evS at q1
  split at q1
  · rename_i n xs ns hlv
    obtain ⟨hvar, hxs⟩ := live_ok hlv
    have hlen : xs.length = ns.length := by rw [hxs, List.length_map]
    have hget : ∀ (i : Nat) (h : i < ns.length), xs[i]? = some (.int (ns[i]'h)) := fun i h => by rw [hxs]; simp [h]
    refine ⟨B, b, σ, h, μ1, st1, ?_⟩
    unfold evE
    rw [hvar]
    intro μ1' H1 l0 g1 w0 rv
    obtain ⟨a, rfl⟩ := rv.refI
    have st1 := st1.next l0 g1
    have q1 := q1.later l0
    generalize hf : (fun (x : PV) (h : Hs) => (evT p.C b t x (Mi.wipe σ (own.map (·.2))) h).bind fun σ' h => (evE p.C b k σ' h).bind fun kv h => (evE p.C b v σ' h).bind fun vv h => R.ok (kv, vv) h) = f at q1
    generalize hfin : (fun (kvs : List (PV × PV)) (h : Hs) => R.ok (Fl.nx (σ.set j (some (.ref h.length)))) (h ++ [Obj.dic kvs])) = fin at q1
    have hc0 : wch n ns h = true := by
      cases xs with
      | nil =>
        simp only [dcW] at q1
        split at q1
        · assumption
        · exact q1.elim
      | cons y r =>
        simp only [dcW] at q1
        split at q1
        · rename_i z; exact (Bool.and_eq_true_iff.mp z).1
        · exact q1.elim
    refine ⟨a, rfl, ns.map V.int, .inl ⟨wch_ok g1 rv hc0, fun hz => ?_⟩⟩
    have hz : xs.length ≤ sizeLine := by rw [List.length_map] at hz; omega
    intro D nD
    refine ⟨fun i m H' => ∃ (hh : Hs) (μ' : Mu) (acc : List (PV × PV)) (av : List (Key × V)), m = xs.length - i ∧ i ≤ xs.length ∧ H' D = some (.dK av) ∧ RKs X.K p.fa [] μ' H' acc av ∧ (∀ n : Nat, μ'.l[n]? ≠ some (some D)) ∧ ¬ μ'.F D ∧ HR X.K p.fa B hh μ' H' ∧ Le μ1' H1 μ' H' ∧
      Post X.K p.fa B μ1' H1 (((dcW (wch n ns) f (xs.drop i) acc hh).calm).bind fin) (KS X p [] Dn) (XS p W), ⟨xs.length, h, μ1', [], [], by simp, Nat.zero_le _, upd_same, .nil, g1.mu.none nD, g1.nofz nD, g1.same (same_new nD), Le.same (same_new nD), q1⟩, ?_⟩
    rintro i m H' ⟨hh, μ', acc, av, rfl, hi, eD, ra, nl, nf, g', l', q'⟩
    have rv' := rv.mono l' g1.mu
    by_cases hlt : i < xs.length
    · have hx : xs[i]? = some (.int (ns[i]'(by omega))) := hget i (by omega)
      have hnx : (ns.map V.int)[i]? = some (V.int (ns[i]'(by omega))) := by simp [List.getElem?_map, List.getElem?_eq_getElem (show i < ns.length by omega)]
      have hxe : xs[i] = .int (ns[i]'(by omega)) := by rw [List.getElem?_eq_getElem hlt] at hx; exact Option.some.inj hx
      rw [List.drop_eq_getElem_cons hlt] at q'
      simp only [dcW] at q'
      split at q'
      · rename_i hcw
        have hcw := Bool.and_eq_true_iff.mp hcw
        have hlim : acc.length < LINE := of_decide_eq_true hcw.2
        have sq := wch_ok g' rv' hcw.1
        refine .inr ⟨⟨_, _, sq, hnx⟩, fun H'' => ∃ (hh : Hs) (μ' : Mu) (acc : List (PV × PV)) (av : List (Key × V)), H'' D = some (.dK av) ∧ RKs X.K p.fa [] μ' H'' acc av ∧ (∀ n : Nat, μ'.l[n]? ≠ some (some D)) ∧ ¬ μ'.F D ∧ HR X.K p.fa B hh μ' H'' ∧ Le μ1' H1 μ' H'' ∧
          Post X.K p.fa B μ1' H1 (((dcW (wch n ns) f (xs.drop (i + 1)) acc hh).calm).bind fin) (KS X p [] Dn) (XS p W), fun H'' ⟨hh, μ', acc, av, a2, a3, a4, a5, a6, a7, a8⟩ => ⟨xs.length - (i + 1), by omega, hh, μ', acc, av, rfl, hlt, a2, a3, a4, a5, a6, a7, a8⟩, fun v0 H2 hy => ?_⟩
        obtain ⟨eH, hy⟩ := hy
        have eH := eH.symm
        subst eH
        have hv := hy _ sq
        rw [hnx] at hv
        cases hv
        have q2 := q'.calmB
        subst hf
        have q3 : Post X.K p.fa B μ1' H1 ((evT p.C b t xs[i] (Mi.wipe σ (own.map (·.2))) hh).bind fun σ' h => (evE p.C b k σ' h).bind fun kv h => (evE p.C b v σ' h).bind fun vv h => R.ok (kv, vv) h) _ XN := q2
        rw [hxe] at q3
        have env0 : EnvR X.K p.fa [] μ' H' (Mi.wipe σ (own.map (·.2))) (L2.wipe s (own.map (·.2))) := (st1.env.mono l' g1.mu).wipe _
        have bl' : b ≤ μ'.l.length := Nat.le_trans st1.bl l'.len
        refine ⟨B, b, _, hh, μ', .int (ns[i]'(by omega)), ⟨st1.bB, bl', env0, g'⟩, .int _, ?_⟩
        refine ((q3.bind0).later l').mono (fun σ3 h3 μ3 H3 l3 g3 q5 s3 env3 ch3 => ?_) fun _ _ _ _ _ _ _ z => z.elim
        refine ⟨ch3.wipe hn |>.trans (snd_comp.wipe_wipe s _), ?_⟩
        show RdE X p [] WN k s3 H3 _
        have nl3 := l3.nl eD nl
        have nf3 := l3.nfz eD nl nf
        have e3 : H3 D = some (.dK av) := (l3.keep D _ eD).elim (fun ⟨n, z⟩ => absurd z (nl n)) id
        have ra3 := ra.mono l3 g'.mu
        refine ⟨B, b, σ3, h3, μ3, ⟨st1.bB, Nat.le_trans bl' l3.len, env3, g3⟩, ((q5.bind0).later (l'.trans l3)).mono (fun kv h4 μ4 H4 l4 g4 q6 kw rk => ?_) fun _ _ _ _ _ _ _ z => z.elim⟩
        have nl4 := l4.nl e3 nl3
        have nf4 := l4.nfz e3 nl3 nf3
        have e4 : H4 D = some (.dK av) := (l4.keep D _ e3).elim (fun ⟨n, z⟩ => absurd z (nl3 n)) id
        have ra4 := ra3.mono l4 g3.mu
        show RdE X p [] WN v s3 H4 _
        refine ⟨B, b, σ3, h4, μ4, ⟨st1.bB, Nat.le_trans (Nat.le_trans bl' l3.len) l4.len, env3.mono l4 g3.mu, g4⟩, ((q6.bind0).later ((l'.trans l3).trans l4)).mono (fun z h5 μ5 H5 l5 g5 q7 w rw' => ?_) fun _ _ _ _ _ _ _ z => z.elim⟩
        have nl5 := l5.nl e4 nl4
        have nf5 := l5.nfz e4 nl4 nf4
        have e5 : H5 D = some (.dK av) := (l5.keep D _ e4).elim (fun ⟨n, z⟩ => absurd z (nl4 n)) id
        have ra5 := ra4.mono l5 g4.mu
        have q7 := q7 μ5 H5 (((l'.trans l3).trans l4).trans l5) g5
        cases kv with
        | int kk =>
          cases rk.intI
          have rr := (ra5.put kk rw')
          exact ⟨av, .inl kk, rfl, e5, by rw [← ra5.length]; exact Nat.lt_of_lt_of_le hlim (line_le (Nat.le_refl _)), h5, μ5, putI kk z acc, putK av (.inl kk) w, upd_same, RKs.of rr.keys (rr.vals.off e5 rfl nf5), nl5, nf5, g5.off e5 rfl nf5 nl5, (((l'.trans l3).trans l4).trans l5).off nD, q7⟩
        | _ => exact q7.elim
      · exact q'.elim
    · have e : i = xs.length := by omega
      subst e
      rw [List.drop_length] at q'
      simp only [dcW] at q'
      split at q'
      · rename_i hcw
        refine .inl ⟨⟨_, wch_ok g' rv' hcw, by rw [List.length_map]; omega⟩, ?_⟩
        subst hfin
        have q' : ∀ μ2 H2, Le μ1' H1 μ2 H2 → HR X.K p.fa B (hh ++ [Obj.dic acc]) μ2 H2 → KS X p [] Dn (.nx (σ.set j (some (.ref hh.length)))) (hh ++ [Obj.dic acc]) μ2 H2 := q'
        have bl' : b ≤ μ'.l.length := Nat.le_trans st1.bl l'.len
        have g2 := g'.allocD st1.bB bl' eD nl nf ra
        have l2 : Le μ1' H1 (μ'.add D) H' := l'.add nD
        have env2 : EnvR X.K p.fa [] (μ'.add D) H' σ s := st1.env.mono l2 g1.mu
        refine q' (μ'.add D) H' l2 g2 _ (env2.set (.ref (by simp [Mu.add, g'.len]) fun a' z => ?_) j)
        have z : (μ'.l ++ [some D])[hh.length]? = some (some a') := z
        rw [g'.len] at z
        simp at z
        exact z.symm
      · exact q'.elim
  · exact q1.elim
end
end Mi
end

section
set_option Elab.async false
set_option linter.all false
set_option maxRecDepth 100000
set_option maxHeartbeats 4000000
/-! CmA: itertools.combinations -/
namespace Mi
open PySem PySem.Spec PyProof.Rows L2
abbrev StepF := Nat → List Nat → Option (List Nat)
def cmOk (f : StepF) (n r : Nat) : Bool := ((cmbs n r)[0]? == (if r ≤ n then some (List.range r) else none)) && ((List.range (cmbs n r).length).all fun i => match (cmbs n r)[i]? with
  | some l => f n l == (cmbs n r)[i + 1]? && l.length == r && l.all fun j => decide (j < n)
  | none => false)
def cmAll (f : StepF) : Bool := (List.range 8).all fun n => (List.range 8).all fun r => cmOk f n r
theorem slot_cmb_next : Slot "itertools.combinations" "__next__" "itertools.combinations.__next__" :=
  .of (owner := "itertools.combinations") (n := "__next__") (by rw [typeLookup_type, builtinLookup_eq_fast]; kernel_rfl) (by decide +kernel) (by decide +kernel) (by decide +kernel)
    (by first | exact .inl (by decide +kernel) | exact .inr (by decide +kernel)) (by rw [isSubtype_type]; kernel_rfl)
theorem entry_cmb_next : entryFor table "itertools.combinations.__next__" = some Builtin.«itertools.combinations.__next__» := entryFor_of_tree (by kernel_rfl)
theorem args_cmb_next (a : Value) : argsOk "itertools.combinations.__next__" ⟨[a], []⟩ := by unfold argsOk; kernel_rfl
section
variable {prog : Program} {w : World} {A : Around} {E : Value → Shared → Prop} {s : Shared} {z P : Addr}
/-- the iterator's record -/
def cmO (P : Addr) (st : Int) (last : Value) (ix : List Nat) : PySem.Obj := { cls := .type "itertools.combinations", data := .fields (#[Value.ref P, rawInt st, last] ++ (ix.map fun (n : Nat) => rawInt n).toArray) }
theorem cm_size {P : Addr} {st : Int} {last : Value} {ix : List Nat} : (#[Value.ref P, rawInt st, last] ++ (ix.map fun (n : Nat) => rawInt n).toArray).size = 3 + ix.length := by simp; omega
theorem cm_num {st : Int} {last : Value} {ix : List Nat} {Q : List Nat → Shared → Prop} (hz : s.heap.get? z = some (cmO P st last ix)) (h : Q ix s) : wpAny (model prog w) A (Builtin.Itertools.itNumbersFrom (.ref z) 3) Q E s := by
  unfold Builtin.Itertools.itNumbersFrom
  refine wpAny_bind (wpAny_load hz ?_)
  show wpAny _ _ (pure _) _ _ s
  refine wpAny_pure ?_
  have e : (((#[Value.ref P, rawInt st, last] ++ (ix.map fun (n : Nat) => rawInt n).toArray).toList.drop 3).map fun | .int n _ => n.toNat | _ => 0) = ix := by
    simp [rawInt]
    exact List.map_id' ix
  show Q (((#[Value.ref P, rawInt st, last] ++ (ix.map fun (n : Nat) => rawInt n).toArray).toList.drop 3).map fun | .int n _ => n.toNat | _ => 0) s
  rw [e]
  exact h
theorem cm_set1 {st st' : Int} {last : Value} {ix : List Nat} : (#[Value.ref P, rawInt st, last] ++ (ix.map fun (n : Nat) => rawInt n).toArray).setIfInBounds 1 (rawInt st') = #[Value.ref P, rawInt st', last] ++ (ix.map fun (n : Nat) => rawInt n).toArray := by
  apply Array.ext'
  simp
theorem cm_set2 {st : Int} {last last' : Value} {ix : List Nat} : (#[Value.ref P, rawInt st, last] ++ (ix.map fun (n : Nat) => rawInt n).toArray).setIfInBounds 2 last' = #[Value.ref P, rawInt st, last'] ++ (ix.map fun (n : Nat) => rawInt n).toArray := by
  apply Array.ext'
  simp
theorem cm_hand {st : Int} {last : Value} {ix jx : List Nat} {its : Array Value} {o : PySem.Obj} {k : Nat} {Q : Value → Shared → Prop} (hz : s.heap.get? z = some (cmO P st last ix)) (hP : s.heap.get? P = some o) (hPd : o.data = .seq its k) (hl : jx.length ≤ 1000)
    (h : ∀ h', h'.get? z = some (cmO P st (.ref s.heap.objs.size) ix) → h'.get? s.heap.objs.size = some { cls := .type "tuple", data := .seq (jx.map fun i => its.getD i .none).toArray } → (∀ b u, b ≠ z → s.heap.get? b = some u → h'.get? b = some u) → Q (.ref s.heap.objs.size) { s with heap := h' }) :
    wpAny (model prog w) A ((Builtin.Itertools.itPoolItems (.ref P) >>= fun items => newTuple (jx.map fun i => items.getD i .none)) >>= fun result => field (.ref z) 2 >>= fun before => setField (.ref z) 2 result >>= fun _ => letGo [before] [result] >>= fun _ => ret result) (fun fin s' => ∃ v, fin = .done (.ret v) ∧ Q v s') E s := by
  have lz := Heap.lt_size hz
  refine wpAny_bind (wpAny_bind ?_)
  unfold Builtin.Itertools.itPoolItems
  refine wpAny_bind (wpAny_seqItems hP hPd ?_)
  refine wpAny_pure ?_
  refine wpAny_newTuple ?_ (by rw [List.length_map, sizeLine_eq]; omega)
  have hz2 : (s.heap.push { cls := .type "tuple", data := .seq (jx.map fun i => its.getD i .none).toArray }).get? z = some (cmO P st last ix) := Heap.get?_push_of_some _ hz
  refine wpAny_bind (wpAny_field hz2 rfl (x := last) (by simp) ?_)
  refine wpAny_bind (wpAny_setField_rec hz2 (by rw [cm_size]; omega) fun h' g0 sb => ?_)
  refine wpAny_bind (wpAny_letGo ?_)
  refine wpAny_pure ⟨_, rfl, h h' ?_ ?_ fun b u bz hb => ?_⟩
  · rw [cm_set2] at g0
    exact g0
  · exact (sb.2 s.heap.objs.size (Nat.ne_of_gt lz)).trans (Heap.get?_push_size _ rfl)
  · exact (sb.2 b bz).trans (Heap.get?_push_of_some _ hb)
theorem cmb_first {last : Value} {ix : List Nat} {its : Array Value} {o : PySem.Obj} {k : Nat} {Q : Value → Shared → Prop} (hz : s.heap.get? z = some (cmO P 0 last ix)) (hP : s.heap.get? P = some o) (hPd : o.data = .seq its k) (zP : P ≠ z) (hl : ix.length ≤ 1000)
    (h : ∀ h', h'.get? z = some (cmO P 1 (.ref s.heap.objs.size) ix) → h'.get? s.heap.objs.size = some { cls := .type "tuple", data := .seq (ix.map fun i => its.getD i .none).toArray } → (∀ b u, b ≠ z → s.heap.get? b = some u → h'.get? b = some u) → Q (.ref s.heap.objs.size) { s with heap := h' }) :
    wpAny (model prog w) A (Builtin.«itertools.combinations.__next__» ⟨[.ref z], []⟩) (fun fin s' => ∃ v, fin = .done (.ret v) ∧ Q v s') E s := by
  have lz := Heap.lt_size hz
  unfold Builtin.«itertools.combinations.__next__»
  show wpAny _ _ (field (.ref z) 0 >>= _) _ _ _
  refine wpAny_bind (wpAny_field hz rfl (x := .ref P) (by simp) ?_)
  refine wpAny_bind (cm_num hz ?_)
  refine wpAny_bind (m := Builtin.Itertools.itIntField (.ref z) 1) ?_
  unfold Builtin.Itertools.itIntField
  refine wpAny_bind (wpAny_field hz rfl (x := rawInt 0) (by simp) ?_)
  refine wpAny_pure ?_
  show wpAny _ _ (setField (.ref z) 1 (rawInt 1) >>= fun _ => _) _ _ s
  refine wpAny_bind (wpAny_setField_rec hz (by rw [cm_size]; omega) fun h1 g0 sb => ?_)
  rw [cm_set1] at g0
  have sz : h1.objs.size = s.heap.objs.size := by
    have := sb.1
    omega
  refine cm_hand (s := { s with heap := h1 }) g0 ((sb.2 P zP).trans hP) hPd hl fun h' k1 k2 k3 => ?_
  have k1 : h'.get? z = some (cmO P 1 (.ref h1.objs.size) ix) := k1
  have k2 : h'.get? h1.objs.size = _ := k2
  show Q (.ref h1.objs.size) _
  rw [sz] at k1 k2 ⊢
  exact h h' k1 k2 fun b u bz hb => k3 b u bz ((sb.2 b bz).trans hb)
end
/-- what the step of such an iterator does -/
def CmSpec (g : StepF → Builtin) : Prop := ∀ (f : StepF) {prog : Program} {w : World} {A : Around} {E : Value → Shared → Prop} {s : Shared} {z P : Addr} {last : Value} {ix : List Nat} {its : Array Value} {o : PySem.Obj} {k : Nat} {Q : Value → Shared → Prop}, s.heap.get? z = some (cmO P 1 last ix) → s.heap.get? P = some o → o.data = .seq its k → P ≠ z →
  ∀ jx : List Nat, jx.length ≤ 1000 → f its.size ix = some jx →
    (∀ h', h'.get? z = some (cmO P 1 (.ref s.heap.objs.size) jx) → h'.get? s.heap.objs.size = some { cls := .type "tuple", data := .seq (jx.map fun i => its.getD i .none).toArray } → (∀ b u, b ≠ z → s.heap.get? b = some u → h'.get? b = some u) → Q (.ref s.heap.objs.size) { s with heap := h' }) →
    wpAny (model prog w) A (g f ⟨[.ref z], []⟩) (fun fin s' => ∃ v, fin = .done (.ret v) ∧ Q v s') E s
/-- and its end -/
def CmEnd (g : StepF → Builtin) : Prop := ∀ (f : StepF) {prog : Program} {w : World} {A : Around} {E : Value → Shared → Prop} {s : Shared} {z P : Addr} {last : Value} {ix : List Nat} {its : Array Value} {o : PySem.Obj} {k : Nat} {Q : Value → Shared → Prop}, A.handled = none → s.heap.get? z = some (cmO P 1 last ix) → s.heap.get? P = some o → o.data = .seq its k → f its.size ix = none →
    (∀ h' e oe, (∀ b u, b ≠ z → s.heap.get? b = some u → h'.get? b = some u) → h'.get? e = some oe → oe.cls = .type "StopIteration" → E (.ref e) { s with heap := h' }) →
    wpAny (model prog w) A (g f ⟨[.ref z], []⟩) (fun fin s' => ∃ v, fin = .done (.ret v) ∧ Q v s') E s
theorem cm_split : ∃ (g : StepF → Builtin) (f : StepF), Builtin.«itertools.combinations.__next__» = g f ∧ cmAll f = true ∧ CmSpec g ∧ CmEnd g := by
  refine ⟨_, _, rfl, by decide +kernel, ?_, ?_⟩
  · intro f prog w A E s z P last ix its o k Q hz hP hPd zP jx hl hj h
    have lz := Heap.lt_size hz
    show wpAny _ _ (field (.ref z) 0 >>= _) _ _ _
    refine wpAny_bind (wpAny_field hz rfl (x := .ref P) (by simp) ?_)
    refine wpAny_bind (cm_num hz ?_)
    refine wpAny_bind (m := Builtin.Itertools.itIntField (.ref z) 1) ?_
    unfold Builtin.Itertools.itIntField
    refine wpAny_bind (wpAny_field hz rfl (x := rawInt 1) (by simp) ?_)
    refine wpAny_pure ?_
    show wpAny _ _ (Builtin.Itertools.itPoolItems (.ref P) >>= fun items => _) _ _ s
    refine wpAny_bind (m := Builtin.Itertools.itPoolItems (.ref P)) ?_
    unfold Builtin.Itertools.itPoolItems
    refine wpAny_bind (wpAny_seqItems hP hPd ?_)
    refine wpAny_pure ?_
    rw [hj]
    show wpAny _ _ (Builtin.Itertools.itSetNumbersFrom (.ref z) 3 jx >>= fun _ => _) _ _ s
    refine wpAny_bind (m := Builtin.Itertools.itSetNumbersFrom (.ref z) 3 jx) ?_
    unfold Builtin.Itertools.itSetNumbersFrom
    have ex : (#[Value.ref P, rawInt 1, last] ++ (ix.map fun (n : Nat) => rawInt n).toArray).extract 0 3 ++ (jx.map fun (n : Nat) => rawInt n).toArray = #[Value.ref P, rawInt 1, last] ++ (jx.map fun (n : Nat) => rawInt n).toArray := by
      apply Array.ext'
      simp
    refine wpAny_updateFields hz rfl ?_ ?_
    · have g0 : (s.heap.update z (Obj.mapFields fun fs => fs.extract 0 3 ++ (jx.map fun (n : Nat) => rawInt n).toArray)).get? z = some (cmO P 1 last jx) := by
        rw [Heap.get?_update_self _ hz rfl]
        show some ({ cls := .type "itertools.combinations", data := .fields ((#[Value.ref P, rawInt 1, last] ++ (ix.map fun (n : Nat) => rawInt n).toArray).extract 0 3 ++ (jx.map fun (n : Nat) => rawInt n).toArray) } : PySem.Obj) = _
        rw [ex]
        rfl
      have sb : Heap.SameBut z s.heap (s.heap.update z (Obj.mapFields fun fs => fs.extract 0 3 ++ (jx.map fun (n : Nat) => rawInt n).toArray)) := Heap.SameBut.update ..
      generalize s.heap.update z (Obj.mapFields fun fs => fs.extract 0 3 ++ (jx.map fun (n : Nat) => rawInt n).toArray) = h1 at g0 sb ⊢
      have sz : h1.objs.size = s.heap.objs.size := by
        have := sb.1
        omega
      refine cm_hand (s := { s with heap := h1 }) g0 ((sb.2 P zP).trans hP) hPd hl fun h' k1 k2 k3 => ?_
      have k1 : h'.get? z = some (cmO P 1 (.ref h1.objs.size) jx) := k1
      have k2 : h'.get? h1.objs.size = _ := k2
      show Q (.ref h1.objs.size) _
      rw [sz] at k1 k2 ⊢
      exact h h' k1 k2 fun b u bz hb => k3 b u bz ((sb.2 b bz).trans hb)
    · rw [ex, cm_size, sizeLine_eq]
      omega
  · intro f prog w A E s z P last ix its o k Q hh hz hP hPd hj h
    show wpAny _ _ (field (.ref z) 0 >>= _) _ _ _
    refine wpAny_bind (wpAny_field hz rfl (x := .ref P) (by simp) ?_)
    refine wpAny_bind (cm_num hz ?_)
    refine wpAny_bind (m := Builtin.Itertools.itIntField (.ref z) 1) ?_
    unfold Builtin.Itertools.itIntField
    refine wpAny_bind (wpAny_field hz rfl (x := rawInt 1) (by simp) ?_)
    refine wpAny_pure ?_
    show wpAny _ _ (Builtin.Itertools.itPoolItems (.ref P) >>= fun items => _) _ _ s
    refine wpAny_bind (m := Builtin.Itertools.itPoolItems (.ref P)) ?_
    unfold Builtin.Itertools.itPoolItems
    refine wpAny_bind (wpAny_seqItems hP hPd ?_)
    refine wpAny_pure ?_
    rw [hj]
    show wpAny _ _ (setField (.ref z) 1 (rawInt 2) >>= fun _ => _) _ _ s
    refine wpAny_bind (wpAny_setField_rec hz (by rw [cm_size]; omega) fun h1 g0 sb => ?_)
    unfold Builtin.Itertools.itStop
    exact DVw.raise_stop (s := { s with heap := h1 }) hh fun h' e oe k1 k2 k3 => h h' e oe (fun b u bz hb => k1 b u ((sb.2 b bz).trans hb)) k2 k3
end Mi
end

section
set_option Elab.async false
set_option linter.all false
set_option maxRecDepth 100000
set_option maxHeartbeats 4000000
/-! CmB: itertools.combinations for the hand layer -/
namespace Mi
open PySem PySem.Spec PyProof.Rows L2
theorem slot_cmb_iter : Slot "itertools.combinations" "__iter__" "itertools.combinations.__iter__" :=
  .of (owner := "itertools.combinations") (n := "__iter__") (by rw [typeLookup_type, builtinLookup_eq_fast]; kernel_rfl) (by decide +kernel) (by decide +kernel) (by decide +kernel)
    (by first | exact .inl (by decide +kernel) | exact .inr (by decide +kernel)) (by rw [isSubtype_type]; kernel_rfl)
theorem args_cmb_iter (a : Value) : argsOk "itertools.combinations.__iter__" ⟨[a], []⟩ := by unfold argsOk; kernel_rfl
theorem entry_cmb_iter : ∃ e, entryFor table "itertools.combinations.__iter__" = some e ∧ ∀ (v : Value), e ⟨[v], []⟩ = ret v := ⟨Builtin.«dict_keyiterator.__iter__»,
  entryFor_alias (id' := "dict_keyiterator.__iter__") (by kernel_rfl) (by first | rfl | decide +kernel | (unfold String.splitOn; simp +decide [String.splitOnAux])) (by decide +kernel) (by kernel_rfl), fun v => rfl⟩
theorem cmAll_at {f : StepF} (h : cmAll f = true) {n r : Nat} (hn : n < 8) (hr : r < 8) : cmOk f n r = true :=
  List.all_eq_true.mp (List.all_eq_true.mp h n (List.mem_range.mpr hn)) r (List.mem_range.mpr hr)
theorem cmOk_at {f : StepF} {n r : Nat} (h : cmOk f n r = true) (hr : r ≤ n) : (cmbs n r)[0]? = some (List.range r) ∧ ∀ (i : Nat) (l : List Nat), (cmbs n r)[i]? = some l → f n l = (cmbs n r)[i + 1]? ∧ l.length = r ∧ ∀ j ∈ l, j < n := by
  unfold cmOk at h
  have h := Bool.and_eq_true_iff.mp h
  refine ⟨by have := beq_iff_eq.mp h.1; rwa [if_pos hr] at this, fun i l e => ?_⟩
  have hi := (List.getElem?_eq_some_iff.mp e).1
  have q := List.all_eq_true.mp h.2 i (List.mem_range.mpr hi)
  rw [e] at q
  simp only [Bool.and_eq_true, beq_iff_eq, List.all_eq_true, decide_eq_true_eq] at q
  exact ⟨q.1.1, q.1.2, q.2⟩
def ItC (lo : Int) (n r : Nat) : It :=
  ⟨fun i H => i < (cmbs n r).length,
    fun i H v H' => ∃ (T : Addr) (ob : PySem.Obj) (ix : List Nat), v = .ref T ∧ H T = none ∧ ob.dict = none ∧ (cmbs n r)[i]? = some ix ∧ H' = upd H T (.frz ob (.tup (ix.map fun j => V.int (lo + (j : Nat))))),
    fun i H => (cmbs n r).length ≤ i⟩
/-- the pool -/
def Pool (h : Heap) (p : Addr) (lo : Int) (n : Nat) : Prop := ∃ (o : PySem.Obj) (its : Array Value) (k : Nat), h.get? p = some o ∧ o.data = .seq its k ∧ its.size = n ∧ ∀ j, j < n → ∃ t, its[j]? = some (.int (lo + (j : Nat)) t)
def tnC (z p : Addr) (lo : Int) (n r : Nat) (i : Nat) (h : Heap) : Prop := Pool h p lo n ∧ match i with
  | 0 => h.get? z = some (cmO p 0 .none (List.range r))
  | i + 1 => ∃ last ix, (cmbs n r)[i]? = some ix ∧ h.get? z = some (cmO p 1 last ix)
theorem pool_vals {its : Array Value} {lo : Int} {n : Nat} (hi : ∀ j, j < n → ∃ t, its[j]? = some (.int (lo + (j : Nat)) t)) : ∀ {ix : List Nat}, (∀ j ∈ ix, j < n) → Vals (ix.map fun j => V.int (lo + (j : Nat))) (ix.map fun i => its.getD i .none)
  | [], _ => .nil
  | j :: ix, h => by
    rw [List.map_cons, List.map_cons]
    refine .cons ?_ (pool_vals hi fun k hk => h k (List.mem_cons_of_mem _ hk))
    obtain ⟨t, ht⟩ := hi j (h j List.mem_cons_self)
    refine ⟨t, ?_⟩
    rw [Array.getD_eq_getD_getElem?, ht]
    rfl
theorem turnC {P : Program} {w : World} {K : PySem.W.Frag} {tg : Expr} {z p : Addr} {lo : Int} {n r : Nat} (zp : p ≠ z) (hn : n < 8) (hr : r ≤ n) : Turn P w K tg (ItC lo n r) [z, p] z (tnC z p lo n r) where
  mem := by simp
  obj := fun i h st c hc => by
    obtain ⟨⟨o, its, k, hp, hpd, _⟩, st⟩ := st
    simp only [List.mem_cons, List.mem_nil_iff, or_false] at hc
    rcases hc with rfl | rfl
    · cases i with
      | zero => exact ⟨_, st, fun v q => nomatch q⟩
      | succ i => obtain ⟨last, ix, _, g⟩ := st; exact ⟨_, g, fun v q => nomatch q⟩
    · exact ⟨o, hp, fun v q => by rw [hpd] at q; cases q⟩
  keep := fun i h h' st kp => by
    obtain ⟨⟨o, its, k, hp, hpd, hh⟩, st⟩ := st
    refine ⟨⟨o, its, k, kp p (by simp) _ hp, hpd, hh⟩, ?_⟩
    cases i with
    | zero => exact kp z (by simp) _ st
    | succ i => obtain ⟨last, ix, e, g⟩ := st; exact ⟨last, ix, e, kp z (by simp) _ g⟩
  item := by
    intro X hP hw hK hc i pins s σ H E I hf st hg
    subst hP hw hK
    have st0 := st
    obtain ⟨⟨o, its, k, hp, hpd, hsz, hit⟩, st⟩ := st
    obtain ⟨g, f, eg, al, sp, _⟩ := cm_split
    have ok := cmOk_at (cmAll_at al hn (by omega)) hr
    have hg : i < (cmbs n r).length := hg
    obtain ⟨ix, ei⟩ : ∃ ix, (cmbs n r)[i]? = some ix := ⟨_, List.getElem?_eq_getElem hg⟩
    obtain ⟨_, lix, bix⟩ := ok.2 i ix ei
    have zs : z < s.heap.objs.size := by
      cases i with
      | zero => exact Heap.lt_size st
      | succ i => obtain ⟨_, _, _, g⟩ := st; exact Heap.lt_size g
    -- what a step leaves
    have fin : ∀ h', h'.get? z = some (cmO p 1 (.ref s.heap.objs.size) ix) → h'.get? s.heap.objs.size = some { cls := .type "tuple", data := .seq (ix.map fun i => its.getD i .none).toArray } → (∀ b u, b ≠ z → s.heap.get? b = some u → h'.get? b = some u) →
        ∃ u, (some (Value.ref s.heap.objs.size) : Option Value) = some u ∧ wpAny (model X.prog X.w) X.A (letOwnedTupleGo tg (.ref z) u) (fun _ s2 => ∃ x H', Inv X pins σ H' s2 ∧ RelV x u ∧ (ItC lo n r).yld i H x H' ∧ tnC z p lo n r (i + 1) s2.heap ∧ ∀ b ∈ [z, p], H' b = none) E { s with heap := h' } := fun h' k1 k2 k3 => by
      refine ⟨_, rfl, go_of (s := { s with heap := h' }) k1 rfl rfl (by decide) ?_⟩
      have vy := pool_vals hit bix
      have big : 1000 ≤ sizeLine := by decide
      have new : ObjOk X.prog X.w (upd H s.heap.objs.size (.frz (tupO (ix.map fun i => its.getD i .none)) (.tup (ix.map fun j => V.int (lo + (j : Nat)))))) h' s.heap.objs.size (.frz (tupO (ix.map fun i => its.getD i .none)) (.tup (ix.map fun j => V.int (lo + (j : Nat))))) :=
        ⟨k2, show (ix.map fun j => V.int (lo + (j : Nat))).length ≤ sizeLine by rw [List.length_map]; omega, _, vy, ⟨_, k2, rfl, _, rfl⟩⟩
      have I1 : Inv X pins σ (upd H s.heap.objs.size (.frz (tupO (ix.map fun i => its.getD i .none)) (.tup (ix.map fun j => V.int (lo + (j : Nat)))))) { s with heap := h', toks := s.toks } :=
        I.turnedNew (t' := s.toks) (ch := [z, p]) (fun c o nc q => k3 c o (fun e => nc (by simp [e])) q) hf (Nat.le_refl _) new
      refine ⟨.ref s.heap.objs.size, _, I1, rfl, ⟨_, _, ix, rfl, I.hok.fresh (Nat.le_refl _), rfl, ei, rfl⟩, ⟨⟨o, its, k, k3 p o zp hp, hpd, hsz, hit⟩, _, ix, ei, k1⟩, fun c hcm => ?_⟩
      have lt : c < s.heap.objs.size := by
        simp only [List.mem_cons, List.mem_nil_iff, or_false] at hcm
        rcases hcm with rfl | rfl
        · exact zs
        · exact Heap.lt_size hp
      rw [upd_ne (Nat.ne_of_lt lt)]
      exact (hf c hcm).1
    cases i with
    | zero =>
      have e0 : ix = List.range r := by rw [ok.1] at ei; exact (Option.some.inj ei).symm
      have hT : s.TypeIs (.ref z) "itertools.combinations" := ⟨_, st, rfl⟩
      unfold pyNext
      refine wpAny_bind (wpAny_attempt (wpAny_callSpecial?_slot (name := Str.ofString "__next__") hT slot_cmb_next
        (wpAny_call_entry slot_cmb_next hT entry_cmb_next (cmb_first st hp hpd zp (by rw [List.length_range]; omega) fun h' k1 k2 k3 => ?_) (args_cmb_next _))))
      rw [← e0] at k1 k2
      exact wpAny_pure (fin h' k1 k2 k3)
    | succ i =>
      obtain ⟨last, jx, ej, gz⟩ := st
      obtain ⟨fe, _, _⟩ := ok.2 i jx ej
      have hT : s.TypeIs (.ref z) "itertools.combinations" := ⟨_, gz, rfl⟩
      unfold pyNext
      refine wpAny_bind (wpAny_attempt (wpAny_callSpecial?_slot (name := Str.ofString "__next__") hT slot_cmb_next
        (wpAny_call_entry slot_cmb_next hT entry_cmb_next (by
          rw [eg]
          exact sp f gz hp hpd zp ix (by omega) (by rw [hsz, fe, ei]) fun h' k1 k2 k3 => wpAny_pure (fin h' k1 k2 k3)) (args_cmb_next _))))
  done := by
    intro X hP hw hK hc i pins s σ H E I hf st hg
    subst hP hw hK
    obtain ⟨⟨o, its, k, hp, hpd, hsz, hit⟩, st⟩ := st
    obtain ⟨g, f, eg, al, _, en⟩ := cm_split
    have ok := cmOk_at (cmAll_at al hn (by omega)) hr
    have hg : (cmbs n r).length ≤ i := hg
    have hd : (X.A.in1).handled = none := I.ok.hd hc
    cases i with
    | zero =>
      have := (List.getElem?_eq_some_iff.mp ok.1).1
      omega
    | succ i =>
      obtain ⟨last, jx, ej, gz⟩ := st
      obtain ⟨fe, _, _⟩ := ok.2 i jx ej
      have hT : s.TypeIs (.ref z) "itertools.combinations" := ⟨_, gz, rfl⟩
      unfold pyNext
      refine wpAny_bind (wpAny_attempt (wpAny_callSpecial?_slot (name := Str.ofString "__next__") hT slot_cmb_next
        (wpAny_call_entry slot_cmb_next hT entry_cmb_next (by
          rw [eg]
          refine en f hd gz hp hpd (by rw [hsz, fe, List.getElem?_eq_none (by omega)]) fun h' e oe k1 k2 k3 => ?_
          refine wpAny_bind (wpAny_isInstance (s := { s with heap := h' }) (T := "StopIteration") (b := true) ⟨oe, k2, k3⟩ isSubtype_stop ?_)
          exact wpAny_pure ⟨rfl, I.turnedL (t' := s.toks) (ch := [z, p]) (fun c o nc q => k1 c o (fun z' => nc (by simp [z'])) q) hf⟩) (args_cmb_next _))))
  self := fun A i s Q E st h => by
    have hT : s.TypeIs (.ref z) "itertools.combinations" := by
      cases i with
      | zero => exact ⟨_, st.2, rfl⟩
      | succ i => obtain ⟨_, _, _, g⟩ := st.2; exact ⟨_, g, rfl⟩
    obtain ⟨e, he, hv⟩ := entry_cmb_iter
    refine wpAny_pyIter_slot hT slot_cmb_iter (wpAny_call_entry slot_cmb_iter hT he ?_ (args_cmb_iter _))
    rw [hv]
    exact wpAny_pure ⟨_, rfl, "itertools.combinations", _, hT, slot_cmb_next.lookup, h⟩
end Mi
end

section
set_option Elab.async false
set_option linter.all false
set_option maxRecDepth 100000
set_option maxHeartbeats 4000000
/-! CmC: itertools.combinations, made -/
namespace Mi
open PySem PySem.Spec PyProof.Rows L2
section
variable {prog : Program} {w : World} {A : Around} {E : Value → Shared → Prop} {s : Shared}
theorem iadd_range {R : Result → Shared → Prop} {r S : Addr} {a b : Int} {t u v : Tok} {n : Nat} (hh : A.handled = none) (hr : IsRange s.heap r a b 1 t u v) (hsmall : Builtin.Range.small a b 1 = true) (hn : Builtin.Range.rangeSize a b 1 = n) (hlen : n ≤ 2 ^ 24) {c₀ : Nat} (hS : s.heap.get? S = some { cls := .type "list", data := .seq #[] c₀ })
    (hR : ∀ h' tk acc' c', (∀ b o, b ≠ S → s.heap.get? b = some o → h'.get? b = some o) → h'.get? S = some { cls := .type "list", dict := none, data := .seq acc' c', slots := #[] } →
      ItemsOf (fun i v => ∃ t, v = .int (a + i * 1) t) acc' n → R (.ok (.ret (.ref S))) { s with heap := h', toks := tk }) :
    codeAny (model prog w) A (.builtin "list.__iadd__" ⟨[.ref S, .ref r], []⟩) R s := by
  refine codeAny_builtin F.entry_list_iadd ?_
  rw [Around.under_plainId F.plain_list_iadd _]
  show wpAny _ A.in1 (Builtin.List.listExtendWith (.ref S) (.ref r) (.ref S)) _ _ _
  exact wpAny_extend_range hh hr hsmall hn hlen S (.ref S) c₀ hS hR
theorem collect_range {r : Addr} {a b : Int} {t u v : Tok} {n : Nat} {Q : List Value → Shared → Prop} (hh : A.handled = none) (hr : IsRange s.heap r a b 1 t u v) (hsmall : Builtin.Range.small a b 1 = true) (hn : Builtin.Range.rangeSize a b 1 = n) (hlen : n ≤ 2 ^ 24)
    (hQ : ∀ (h' : Heap) (tk : Nat) (acc : Array Value), s.heap.objs.size < h'.objs.size → (∀ c o, s.heap.get? c = some o → h'.get? c = some o) → ItemsOf (fun i v => ∃ t, v = .int (a + (i : Nat) * 1) t) acc n → Q acc.toList { s with heap := h', toks := tk }) :
    wpAny (model prog w) A (collect (.ref r)) Q E s := by
  unfold collect
  refine wpAny_bind (wpAny_runValue (codeAny_builtin F.entry_proto_collect ?_))
  rw [Around.under_plainId F.plain_proto_collect _]
  show wpAny _ A.in1 (newList [] >>= fun l => again (.builtin "list.__iadd__" ⟨[l, .ref r], []⟩)) _ _ s
  refine wpAny_bind (wpAny_newObj_type ?_)
  have hS₁ : (s.heap.push { cls := .type "list", data := .seq ([] : List Value).toArray }).get? s.heap.objs.size = some { cls := .type "list", data := .seq #[] } := Heap.get?_push_size _ rfl
  have hr2 : IsRange (s.heap.push { cls := .type "list", data := .seq ([] : List Value).toArray }) r a b 1 t u v := Heap.get?_push_of_some _ hr
  refine wpAny_pure ⟨plainId_quiet F.plain_list_iadd _, iadd_range (s := { s with heap := s.heap.push { cls := .type "list", data := .seq ([] : List Value).toArray } }) hh hr2 hsmall hn hlen hS₁ fun h' tk acc' c' k1 k2 k3 => ?_⟩
  show wpAny _ A (load s.heap.objs.size >>= _) _ _ _
  refine wpAny_bind (wpAny_load k2 ?_)
  exact wpAny_pure (hQ h' tk acc' (Heap.lt_size k2) (fun c o e => k1 c o (Nat.ne_of_lt (Heap.lt_size e)) (Heap.get?_push_of_some _ e)) k3)
theorem cmb_new {r : Addr} {a b : Int} {t u v tk0 : Tok} {n k : Nat} {Q : Value → Shared → Prop} (hh : A.handled = none) (hr : IsRange s.heap r a b 1 t u v) (hsmall : Builtin.Range.small a b 1 = true) (hn : Builtin.Range.rangeSize a b 1 = n) (hlen : n ≤ 1000) (hk : k ≤ n)
    (h : ∀ (h' : Heap) (tk : Nat) (p z : Addr), s.heap.objs.size ≤ p → p < z → (∀ c o, s.heap.get? c = some o → h'.get? c = some o) → h'.get? z = some (cmO p 0 .none (List.range k)) → Pool h' p a n → Q (.ref z) { s with heap := h', toks := tk }) :
    wpAny (model prog w) A (Builtin.«itertools.combinations.__new__» ⟨[.type "itertools.combinations", .ref r, .int (k : Int) tk0], []⟩) (fun fin s' => ∃ v, fin = .done (.ret v) ∧ Q v s') E s := by
  obtain ⟨hp, g, d, tk, os⟩ := s
  have hsub : isSubtype (.type "itertools.combinations") (.type ("itertools." ++ "combinations")) = pure true := by rw [isSubtype_type]; kernel_rfl
  have hsub2 : isSubtype (.type "itertools.combinations") (.type "itertools.combinations") = pure true := by rw [isSubtype_type]; kernel_rfl
  have q1 : ∀ {A' : Around} {E' : Value → Shared → Prop} {Q' : List Value → Shared → Prop}, A'.handled = none → (∀ (h' : Heap) (tk : Nat) (acc : Array Value), hp.objs.size < h'.objs.size → (∀ c o, hp.get? c = some o → h'.get? c = some o) → ItemsOf (fun i v => ∃ t, v = .int (a + (i : Nat) * 1) t) acc n → Q' acc.toList ⟨h', g, d, tk, os⟩) → wpAny (model prog w) A' (collect (.ref r)) Q' E' ⟨hp, g, d, tk, os⟩ :=
    fun hh' q => collect_range hh' hr hsmall hn (by omega) q
  unfold Builtin.«itertools.combinations.__new__»
  wp_walk
  rw [if_neg (by simp; omega)]
  refine wpAny_pure ?_
  refine wpAny_bind (q1 hh fun h' tk' acc k0 k1 k2 => ?_)
  have kn : ¬ ((k : Int) < 0) := by omega
  have tm : ¬ (Builtin.Itertools.itTooMany (k : Int) = true) := by
    unfold Builtin.Itertools.itTooMany
    simp
    omega
  show wpAny _ _ (if (k : Int) < 0 then _ else _) _ _ _
  rw [if_neg kn]
  show wpAny _ _ (if Builtin.Itertools.itTooMany (k : Int) = true then _ else _) _ _ _
  rw [if_neg tm]
  obtain ⟨asz, aget⟩ := k2
  have sl : acc.toList.length = n := by rw [Array.length_toList]; exact asz
  show wpAny _ _ (newTuple acc.toList >>= fun p => pure (Value.type "itertools.combinations", p, acc.toList.length, (k : Int).toNat)) _ _ _
  refine wpAny_bind (wpAny_newTuple (wpAny_pure ?_) (by rw [sl, sizeLine_eq]; omega))
  have hd : typeHasDict (.type "itertools.combinations") = false := by decide +kernel
  rw [sl, Int.toNat_natCast]
  show wpAny _ _ (Builtin.Itertools.itNewRecord (.type "itertools.combinations") ([.ref h'.objs.size, rawInt (if k > n then 2 else 0), .none] ++ (List.range k).map fun (i : Nat) => rawInt i) >>= fun v => ret v) _ _ _
  rw [if_neg (by omega)]
  refine wpAny_bind ?_
  unfold Builtin.Itertools.itNewRecord
  rw [hd]
  show wpAny _ _ (newObj (.type "itertools.combinations") (.fields ([Value.ref h'.objs.size, rawInt 0, .none] ++ (List.range k).map fun (i : Nat) => rawInt i).toArray)) _ _ _
  refine wpAny_newObj_type (wpAny_pure ⟨_, rfl, ?_⟩) ?_
  · refine h _ tk' h'.objs.size _ (Nat.le_of_lt k0) ?_ (fun c o e => Heap.get?_push_of_some _ (Heap.get?_push_of_some _ (k1 c o e))) ?_ ?_
    · show h'.objs.size < (h'.push _).objs.size
      rw [Heap.size_push]
      exact Nat.lt_succ_self _
    · refine (Heap.get?_push_size _ rfl).trans ?_
      have e : ([Value.ref h'.objs.size, rawInt 0, .none] ++ (List.range k).map fun (i : Nat) => rawInt i).toArray = #[Value.ref h'.objs.size, rawInt 0, .none] ++ ((List.range k).map fun (n : Nat) => rawInt n).toArray := by
        apply Array.ext'
        simp
      unfold cmO
      rw [e]
    · refine ⟨_, acc.toList.toArray, 0, Heap.get?_push_of_some _ (Heap.get?_push_size _ rfl), rfl, by rw [List.size_toArray]; exact sl, fun j hj => ?_⟩
      have hj2 : j < acc.size := by omega
      obtain ⟨t', ht'⟩ := aget j acc[j] (Array.getElem?_eq_getElem hj2)
      refine ⟨t', ?_⟩
      have : acc.toList.toArray[j]? = some acc[j] := by simp [hj2]
      rw [this, ht']
      simp
  · show (([Value.ref h'.objs.size, rawInt 0, .none] ++ (List.range k).map fun (i : Nat) => rawInt i).toArray).size ≤ _
    simp only [List.size_toArray, List.length_append, List.length_cons, List.length_nil, List.length_map, List.length_range]
    have : 2000 ≤ sizeLine := by decide
    omega
end
end Mi
end

section
set_option Elab.async false
set_option linter.all false
set_option maxRecDepth 100000
set_option maxHeartbeats 4000000
/-! CmD: itertools.combinations, called -/
namespace Mi
open PySem PySem.Spec PyProof.Rows L2
theorem mro_cmb : mroOf (.type "itertools.combinations") = pure [.type "itertools.combinations", .type "object"] := by rw [mroOf_type]; kernel_rfl
theorem lookup_cmb_new : typeLookup (.type "itertools.combinations") "__new__" = pure (some (.builtin "itertools.combinations.__new__")) := by rw [typeLookup_type, builtinLookup_eq_fast]; kernel_rfl
theorem slot_cmb_init : Slot "itertools.combinations" "__init__" "object.__init__" :=
  .of (owner := "object") (n := "__init__") (by rw [typeLookup_type, builtinLookup_eq_fast]; kernel_rfl) (by decide +kernel) (by decide +kernel) (by decide +kernel)
    (by first | exact .inl (by decide +kernel) | exact .inr (by decide +kernel)) (by rw [isSubtype_type]; kernel_rfl)
theorem called_cmb : TypeCalled "itertools.combinations" "itertools.combinations.__new__" "object.__init__" :=
  ⟨by decide +kernel, by decide +kernel, ⟨_, _, mro_cmb⟩, madeBy_type mro_cmb lookup_cmb_new (by decide +kernel), by decide +kernel, by rw [isSubtype_type]; kernel_rfl, slot_cmb_init⟩
theorem chk_cmb (a b : Value) : checkTypeCall "itertools.combinations" ⟨[a, b], []⟩ = pure () := by kernel_rfl
theorem chk_cmbnew (a b : Value) : checkBuiltinCall "itertools.combinations.__new__" ⟨[.type "itertools.combinations", a, b], []⟩ = pure () := by kernel_rfl
theorem entry_cmb_new : entryFor table "itertools.combinations.__new__" = some Builtin.«itertools.combinations.__new__» := entryFor_of_tree (by kernel_rfl)
def cmbS (r : Addr) (a b : Int) (n k : Nat) (A : Around) (R : Result → Shared → Prop) (s : Shared) : Prop := A.handled = none ∧ (∃ t u v, IsRange s.heap r a b 1 t u v) ∧
  ∀ (h' : Heap) (tk : Nat) (p z : Addr), s.heap.objs.size ≤ p → p < z → (∀ c o, s.heap.get? c = some o → h'.get? c = some o) → h'.get? z = some (cmO p 0 .none (List.range k)) → Pool h' p a n → R (.ok (.ret (.ref z))) { s with heap := h', toks := tk }
theorem meets_cmb {r : Addr} {a b : Int} {n k : Nat} {tk0 : Tok} (hsmall : Builtin.Range.small a b 1 = true) (hn : Builtin.Range.rangeSize a b 1 = n) (hlen : n ≤ 1000) (hk : k ≤ n) :
    Meets (Builtin.«itertools.combinations.__new__» ⟨[.type "itertools.combinations", .ref r, .int (k : Int) tk0], []⟩) (cmbS r a b n k) := by
  intro prog w A R s ⟨hh, ⟨t, u, v, hr⟩, h⟩
  exact wpAny_mono (cmb_new (A := A.in1) (Q := fun v s' => R (.ok (.ret v)) s') hh hr hsmall hn hlen hk h) (fun fin s' ⟨v, e, q⟩ => by subst e; exact q) fun _ _ q => q
theorem call_cmb {prog : Program} {w : World} {A : Around} {E : Value → Shared → Prop} {s : Shared} {r : Addr} {a b : Int} {t u v tk0 : Tok} {n k : Nat} {Q : Value → Shared → Prop} (hh : A.handled = none) (hr : IsRange s.heap r a b 1 t u v) (hsmall : Builtin.Range.small a b 1 = true) (hn : Builtin.Range.rangeSize a b 1 = n) (hlen : n ≤ 1000) (hk : k ≤ n)
    (h : ∀ (h' : Heap) (tk : Nat) (p z : Addr), s.heap.objs.size ≤ p → p < z → (∀ c o, s.heap.get? c = some o → h'.get? c = some o) → h'.get? z = some (cmO p 0 .none (List.range k)) → Pool h' p a n → Q (.ref z) { s with heap := h', toks := tk }) :
    wpAny (model prog w) A (call (.type "itertools.combinations") [.ref r, .int (k : Int) tk0]) Q E s := by
  refine callType_new called_cmb (by decide) (chk_cmb _ _) (chk_cmbnew _ _) (fun obj => F.args_object_init_3 obj _ _) entry_cmb_new (meets_cmb hsmall hn hlen hk) ⟨hh, ⟨t, u, v, hr⟩, fun h' tk p z k1 k2 k3 k4 k5 => ?_⟩
  exact ⟨⟨_, k4, rfl⟩, h h' tk p z k1 k2 k3 k4 k5⟩
end Mi
end

section
set_option Elab.async false
set_option linter.all false
set_option maxRecDepth 100000
set_option maxHeartbeats 4000000
/-! CmE: for .. in combinations(range, k) -/
namespace Mi
open PySem PySem.Spec PyProof.Rows L2
def iCmb (ta : TA) : TI := fun σ H R => ta σ H fun vs H1 => ∃ (r : Addr) (lo hi : Int) (n k : Nat), vs = [.ref r, .int (k : Int)] ∧ H1 r = some (.rng lo hi) ∧ (hi - lo).toNat = n ∧ (-(2 ^ 61) ≤ lo ∧ lo < 2 ^ 61 ∧ -(2 ^ 61) ≤ hi ∧ hi < 2 ^ 61) ∧ n < 8 ∧ k ≤ n ∧ R (ItC lo n k) H1
theorem piCmb {X : Cx} {ta : TA} {x : Str} {p pos : Pos} {tg e1 e2 : Expr} (hcalm : X.calm = true) (hg : Gl X x) (hm : X.mg x = some (.type "itertools.combinations")) (ha : PA X [e1, e2] ta) (hdb : (x == ("__debug__" : Str)) = false)
    (hs : starEach [e1, e2] X.env = (false, eval e1 X.env) :: starEach [e2] X.env) (hpl : (backTo pos (starEach [e2] X.env)).any (·.1) = false) : PI X tg (.Call (.Name x p) [e1, e2] [] pos) (iCmb ta) := by
  refine ⟨fun pins s σ H R I h => ?_⟩
  refine wpAny_Call_Name_kw (ld_glob I hg hm ?_ hdb)
  refine PyProof.Rows.callWith_type1 (thn (ha.run pos pins s σ H _ I h) fun us s1 ⟨vs, H1, I1, r1, q1⟩ => ?_) hs hpl
  obtain ⟨r, lo, hi, n, k, rfl, hr, hn, ⟨b1, b2, b3, b4⟩, n8, kn, q⟩ := q1
  obtain ⟨u1, u2, rfl, ra, rb⟩ := Vals.two r1
  obtain rfl : u1 = Value.ref r := ra
  obtain ⟨tk0, rfl⟩ := rb
  obtain ⟨t, u, v, ho⟩ := I1.hok r _ hr
  have hrs : Builtin.Range.rangeSize lo hi 1 = (n : Int) := by rw [rangeSize_one]; split <;> omega
  refine call_cmb (I1.ok.hd hcalm) (show IsRange s1.heap r lo hi 1 t u v from ho) (small_one (by omega) (by omega) (by omega) (by omega)) hrs (by omega) kn fun h' tk p z k1 k2 k3 k4 k5 => ?_
  have zp : p ≠ z := Nat.ne_of_lt k2
  have TT := turnC (P := X.prog) (w := X.w) (K := X.K) (tg := tg) (lo := lo) (r := k) zp n8 kn
  have tn : tnC z p lo n k 0 h' := ⟨k5, k4⟩
  have I2 : Inv X pins σ H1 { s1 with heap := h', toks := tk } := I1.kept (t' := tk) k3
  refine TT.self X.A 0 _ _ _ tn ⟨z, [z, p], _, _, H1, rfl, I2, TT, tn, fun c hc => ?_, q⟩
  have le : s1.heap.objs.size ≤ c := by
    simp only [List.mem_cons, List.mem_nil_iff, or_false] at hc
    rcases hc with rfl | rfl
    · exact Nat.le_of_lt (Nat.lt_of_le_of_lt k1 k2)
    · exact k1
  exact I1.fpOk le (I1.hok.fresh le)
end Mi
end

section
set_option Elab.async false
set_option linter.all false
set_option maxRecDepth 100000
set_option maxHeartbeats 4000000
/-! SndF: for .. in combinations(range, k) -/
namespace Mi
open PySem PySem.Spec PyProof.Rows L2
variable {X : Cx} {p : Pk} {cy : Cy} {es : List (Addr × Nat × Option Addr)} {W : WX}
theorem cmb_get {lo : Int} {L : List (List Nat)} {i : Nat} {x : PV} (e : (L.map fun ix => PV.tup (ix.map fun (j : Nat) => PV.int (lo + (j : Int))))[i]? = some x) : ∃ ix, L[i]? = some ix ∧ x = .tup (ix.map fun (j : Nat) => PV.int (lo + (j : Int))) := by
  rw [List.getElem?_map] at e
  cases q : L[i]? with
  | none => rw [q] at e; cases e
  | some ix => rw [q] at e; cases e; exact ⟨ix, rfl, rfl⟩
theorem rvs_cmb {K : PySem.W.Frag} {fa : Nat → Addr} {μ : Mu} {H : Hp} {lo : Int} : ∀ {ix : List Nat}, RVs K fa es μ H (ix.map fun (j : Nat) => PV.int (lo + (j : Int))) (ix.map fun (j : Nat) => V.int (lo + (j : Int)))
  | [] => .nil
  | j :: r => by rw [List.map_cons, List.map_cons]; exact .cons (.int _) rvs_cmb
theorem itr_cmb {μ : Mu} {H : Hp} {lo : Int} {n k : Nat} (hl : (cmbs n k).length ≤ sizeLine) : ItR X.K p.fa es μ H (ItC lo n k) ((cmbs n k).map fun ix => PV.tup (ix.map fun (j : Nat) => PV.int (lo + (j : Int)))) where
  lim := by rw [List.length_map]; exact hl
  stop := fun μ1 H1 l => by show (cmbs n k).length ≤ _; rw [List.length_map]; exact Nat.le_refl _
  go := fun i x μ1 H1 l e => by
    obtain ⟨ix, e1, _⟩ := cmb_get e
    exact (List.getElem?_eq_some_iff.mp e1).1
  yld := fun i x v μ1 H1 H' l m1 e y => by
    obtain ⟨ix, e1, rfl⟩ := cmb_get e
    obtain ⟨T, ob, jx, rfl, hT, hd, ej, rfl⟩ := y
    rw [e1] at ej
    cases ej
    exact ⟨same_new hT, newTup m1 hT hd rvs_cmb⟩
theorem cmbs_len : ∀ n, n < 8 → ∀ k, k < 8 → (cmbs n k).length ≤ 35 := by decide +kernel
section
variable {a b tg : Expr} {pos pp : Pos} {l m : E}
theorem snd_comb (g : Good X p cy es W) (hc : cy.calm = true) (hk : cy.tb.comb = true) {x : Str} (hx0 : x = "combinations") (hx : globB cy x = true) (pa : plainE a = true) (pb : plainE b = true) (ha : PE X a (RdE X p es W l)) (hb : PE X b (RdE X p es W m)) :
    PI X tg (.Call (.Name x pp) [a, b] [] pos) (RdI X p es W (.comb l m)) := by
  subst hx0
  have e1 : starEach [b] X.env = [(false, eval b X.env)] := plain_star pb [] X.env
  refine (piCmb (g.calm hc).1 (g.glob hx) (g.hascmb hk) (pa_two pa pb ha hb) (by decide +kernel) (by rw [plain_star pa, e1]) (plain_any (by simp [pb]))).imp fun s H R ⟨B, b, σ, h, μ, st, q⟩ => ?_
  unfold evI at q
  refine seqE st q fun x h1 μ1 H1 v l1 st1 rx q1 => seqE st1 q1 fun y h2 μ2 H2 w l2 st2 ry q2 => ?_
  obtain ⟨z, ez, kz⟩ := Post.of q2
  have rx2 := rx.mono l2 st1.hr.mu
  unfold cmbV at ez
  split at ez
  · rename_i lo hi k
    split at ez
    · rename_i hcond
      obtain ⟨hc1, h8, k0, hk⟩ := hcond
      cases ez
      cases ry.intI
      cases rx2 with
      | rng hr =>
      have len : (cmbs (hi - lo).toNat k.toNat).length ≤ sizeLine := by
        have := cmbs_len _ h8 k.toNat (by omega)
        have big : 1000 ≤ sizeLine := by decide
        omega
      exact ⟨_, lo, hi, (hi - lo).toNat, k.toNat, by rw [Int.toNat_of_nonneg k0], hr, rfl, hc1, h8, hk, kz μ2 H2 .refl st2.hr _ (itr_cmb len)⟩
    · cases ez
  · cases ez
end
end Mi
end

section
set_option Elab.async false
set_option linter.all false
set_option maxRecDepth 100000
set_option maxHeartbeats 4000000
/-! SndG: len and sorted of dicts; a dict that is never changed again -/
namespace Mi
open PySem PySem.Spec PyProof.Rows L2
section
variable {K : PySem.W.Frag} {fa : Nat → Addr} {B : Nat → Prop} {h : Hs} {μ : Mu} {H : Hp} {a : Addr} {n : Nat} {es : List (Addr × Nat × Option Addr)}
theorem keysI_of : ∀ {kvs : List (PV × PV)} {ks : List (Key × V)} {l : List Int}, RKs K fa es μ H kvs ks → keysI kvs = some l → ks.map (·.1) = l.map Sum.inl
  | _, _, l, .nil, e => by cases e; rfl
  | _, _, l, .cons (k := k) (xs := xs) (vs := vs) _ r, e => by
    cases k with
    | inr s => cases e
    | inl i =>
      have e : (keysI xs).map (i :: ·) = some l := e
      cases q : keysI xs with
      | none => rw [q] at e; cases e
      | some l' =>
        rw [q] at e
        cases e
        rw [List.map_cons, List.map_cons, keysI_of r q]
theorem dctOf_of : ∀ {kvs : List (PV × PV)} {ks : List (Key × V)} {l : List (Int × Int)}, RKs K fa es μ H kvs ks → dctOf kvs = some l → ks = l.map fun p => ((.inl p.1 : Key), V.int p.2)
  | _, _, l, .nil, e => by cases e; rfl
  | _, _, l, .cons (k := k) (x := x) (xs := xs) (vs := vs) rx r, e => by
    cases k with
    | inr s => cases x <;> cases e
    | inl i =>
      cases x with
      | int j =>
        have e : (dctOf xs).map ((i, j) :: ·) = some l := e
        cases rx
        cases q : dctOf xs with
        | none => rw [q] at e; cases e
        | some l' =>
          rw [q] at e
          cases e
          rw [List.map_cons, dctOf_of r q]
      | _ => cases e
/-- a live dict is locked from here on -/
theorem HR.killD (g : HR K fa B h μ H) (ea : μ.l[n]? = some (some a)) {od : PySem.Obj} {u : HO} (eH : H a = some u) :
    Le μ H (μ.kill n a) (upd H a (.frz od u)) ∧ HR K fa B (h.set n .dead) (μ.kill n a) (upd H a (.frz od u)) := by
  have hn : n < μ.l.length := (List.getElem?_eq_some_iff.mp ea).1
  have cs : ∀ (k : Nat) c, (μ.kill n a).l[k]? = some (some c) → k ≠ n ∧ μ.l[k]? = some (some c) := fun k c q => by
    by_cases hk : n = k
    · subst hk
      have q : (μ.l.set n none)[n]? = some (some c) := q
      rw [List.getElem?_set_self hn] at q; cases q
    · have q : (μ.l.set n none)[k]? = some (some c) := q
      rw [List.getElem?_set_ne hk] at q
      exact ⟨fun z => hk z.symm, q⟩
  have ne : ∀ (k : Nat) c, (μ.kill n a).l[k]? = some (some c) → c ≠ a := fun k c q z => by
    obtain ⟨h1, h2⟩ := cs k c q
    exact h1 (g.inj k n a (z ▸ h2) ea)
  have le : Le μ H (μ.kill n a) (upd H a (.frz od u)) := by
    refine ⟨fun c o e => ?_, fun c o e => ?_, fun k c q => .inl (cs k c q).2, by simp [Mu.kill], fun _ z => .inl z, fun c z => z.elim .inl fun y => .inr (.inr ⟨n, y ▸ ea⟩)⟩
    · by_cases hc : c = a
      · subst hc; exact .inl ⟨n, ea⟩
      · exact .inr (by rw [upd_ne hc]; exact e)
    · by_cases hc : c = a
      · subst hc; exact ⟨_, upd_same⟩
      · exact ⟨o, by rw [upd_ne hc]; exact e⟩
  refine ⟨le, ⟨fun k c q => ?_, by simp [Mu.kill, g.len], fun k o q nd => ?_, fun k m c q1 q2 => g.inj k m c (cs k c q1).2 (cs m c q2).2, fun c z => ?_, fun c hc k o hk q => ?_⟩⟩
  · obtain ⟨h1, h2⟩ := cs k c q
    obtain ⟨⟨o, z, i⟩, f⟩ := g.mu k c h2
    exact ⟨⟨o, by rw [upd_ne (ne k c q)]; exact z, i⟩, fun y => y.elim f fun w => h1 (g.inj k n a (w ▸ h2) ea)⟩
  · by_cases hk : n = k
    · subst hk
      have : n < h.length := by rw [g.len]; exact hn
      rw [List.getElem?_set_self this] at q
      cases q
      exact absurd rfl nd
    · rw [List.getElem?_set_ne hk] at q
      obtain ⟨c, z, ro⟩ := g.obj k o q nd
      have z' : (μ.kill n a).l[k]? = some (some c) := by
        show (μ.l.set n none)[k]? = _
        rw [List.getElem?_set_ne hk]; exact z
      have hc := ne k c z'
      refine ⟨c, z', ?_⟩
      cases o with
      | lst ys => obtain ⟨ws, h1, r1⟩ := ro; exact ⟨ws, by rw [upd_ne hc]; exact h1, r1.mono le g.mu⟩
      | dic _ => obtain ⟨ks, h1, ek, r1⟩ := ro; exact ⟨ks, by rw [upd_ne hc]; exact h1, ek, r1.mono le g.mu⟩
      | dit _ => obtain ⟨ks, h1, ek, r1⟩ := ro; exact ⟨ks, by rw [upd_ne hc]; exact h1, ek, r1.mono le g.mu⟩
      | diu _ => obtain ⟨ks, h1, ek, r1⟩ := ro; exact ⟨ks, by rw [upd_ne hc]; exact h1, ek, r1.mono le g.mu⟩
      | dead => exact ro
  · by_cases hc : c = a
    · subst hc; exact ⟨_, upd_same⟩
    · rw [upd_ne hc]
      exact z.elim (g.fd c) fun y => absurd y hc
  · by_cases hk' : n = k
    · subst hk'
      have : n < h.length := by rw [g.len]; exact hn
      rw [List.getElem?_set_self this] at q
      cases q
      rfl
    · rw [List.getElem?_set_ne hk'] at q
      exact g.lows c hc k o hk q
end
/-- the statements run while the thing at d is locked, from here on -/
theorem pss_lock {X : Cx} {l : List Stmt} {t : TS} (h : PSs X l t) : PSs X l (fun D σ H => ∃ d u, H d = some u ∧ Mut (some u) ∧ ∀ od, t D σ (upd H d (.frz od u))) := by
  refine ⟨fun pins s σ H D I hw => ?_⟩
  obtain ⟨d, u, hd, mu, hw⟩ := hw
  obtain ⟨od, I1⟩ := I.lock hd mu
  exact h.run pins s σ _ _ I1 (hw od)
theorem pss_or {X : Cx} {l : List Stmt} {t u : TS} (h : PSs X l t) (k : PSs X l u) : PSs X l (fun D σ H => t D σ H ∨ u D σ H) :=
  ⟨fun pins s σ H D I hw => hw.elim (h.run pins s σ H D I) (k.run pins s σ H D I)⟩
variable {X : Cx} {p : Pk} {cy : Cy} {es : List (Addr × Nat × Option Addr)} {W : WX}
section
variable {a : Expr} {pos pp : Pos} {l : E}
theorem snd_dlen (g : Good X p cy es W) {x : Str} (hx0 : x = "len") (hx : globB cy x = true) (pl : plainE a = true) (ha : PE X a (RdE X p es W l)) : PE X (.Call (.Name x pp) [a] [] pos) (RdE X p es W (.dlen l)) := by
  subst hx0
  obtain ⟨h1, h2, h3, _⟩ := badName_of hx
  have hm : X.mg "len" = none := g.blt _ (by decide)
  refine (pe_callB call_lenD (g.glob hx) hm (by decide +kernel) (pa_one pl ha) h3 h1 (plain_star pl _ _)).imp fun s H Q ⟨B, b, σ, h, μ, st, q⟩ => ?_
  unfold evE at q
  refine seqE st q fun x h1 μ1 H1 v l1 st1 rx q1 => ?_
  obtain ⟨z, ez, kz⟩ := Post.of q1
  cases x with
  | ref n =>
    simp only [dlenV] at ez
    split at ez
    · rename_i kvs e
      cases ez
      obtain ⟨ad, ks, rfl, h1, h2⟩ := dic_of (i := 0) (x := .non) (y := .non) st1.hr rx e
      refine ⟨ad, ks, rfl, h1, ?_⟩
      rw [← h2.length]
      exact kz μ1 H1 .refl st1.hr _ (.int _)
    · cases ez
  | _ => cases ez
theorem snd_dsort (g : Good X p cy es W) (hc : cy.calm = true) {x : Str} (hx0 : x = "sorted") (hx : globB cy x = true) (pl : plainE a = true) (ha : PE X a (RdE X p es W l)) : PE X (.Call (.Name x pp) [a] [] pos) (RdF X p es W (.dsort l)) := by
  subst hx0
  obtain ⟨h1, h2, h3, _⟩ := badName_of hx
  have hm : X.mg "sorted" = none := g.blt _ (by decide)
  refine (pe_callB (call_sortedDI (g.calm hc).1) (g.glob hx) hm (by decide +kernel) (pa_one pl ha) h3 h1 (plain_star pl _ _)).imp fun s H Q ⟨B, b, σ, h, μ, st, q⟩ => ?_
  unfold evF at q
  refine seqE st q fun x h1 μ1 H1 v l1 st1 rx q1 => ?_
  cases x with
  | ref n =>
    cases e0 : h1[n]? with
    | none => simp only [dsortV, e0] at q1; exact q1.elim
    | some o =>
      cases o with
      | dic kvs =>
        simp only [dsortV, e0] at q1
        cases e1 : keysI kvs with
        | none => rw [e1] at q1; exact q1.elim
        | some ns =>
          rw [e1, Option.bind_some] at q1
          split at q1
          · rename_i hl
            obtain ⟨ad, ks, rfl, h1, h2⟩ := dic_of (i := 0) (x := .non) (y := .non) st1.hr rx e0
            refine ⟨ad, ks, ns, rfl, .of h1, keysI_of h2 e1, hl, fun ys pp p1 p2 hp => ?_⟩
            have := srt_uniq (p1.trans (sortI_perm ns).symm) p2 (sortI_srt ns)
            subst this
            exact post_lst l1 st1.hr hp (rvs_ints _) q1
          · exact q1.elim
      | _ => simp only [dsortV, e0] at q1; exact q1.elim
  | _ => simp only [dsortV] at q1; exact q1.elim
end
end Mi
end

section
set_option Elab.async false
set_option linter.all false
set_option maxRecDepth 100000
set_option maxHeartbeats 4000000
/-! SndI: d.get(k, z) -/
namespace Mi
open PySem PySem.Spec PyProof.Rows L2
variable {X : Cx} {p : Pk} {cy : Cy} {es : List (Addr × Nat × Option Addr)} {W : WX}
theorem isD_of {B : Nat → Prop} {h : Hs} {μ : Mu} {H : Hp} {y : PV} {v : V} (g : HR X.K p.fa B h μ H) (ry : RV X.K p.fa es μ H y v) (e : isDv h y = true) : ∃ a, v = .ref a ∧ IsD H a := by
  cases y with
  | ref n =>
    simp only [isDv] at e
    split at e
    · rename_i kvs q
      obtain ⟨ad, ks, rfl, h1, h2⟩ := dic_of (i := 0) (x := .non) (y := .non) g ry q
      exact ⟨ad, rfl, .inl ⟨ks, .inl h1⟩⟩
    · cases e
  | dct l =>
    cases ry with
    | @dct ad o _ hd => exact ⟨ad, rfl, .inl ⟨_, .inr ⟨o, hd⟩⟩⟩
  | _ => cases e
theorem snd_dgd {d k z : E} {x e f : Expr} {nm : Str} {apos cpos : Pos} (g : Good X p cy es W) (hn : nm = ("get" : Str)) (hb : baseB x = true) (hl : (apos.endLine == cpos.line) = true) (p1 : plainE e = true) (p2 : plainE f = true) (hd : PE X x (RdE X p es W d)) (hk : PE X e (RdE X p es W k)) (hz : PE X f (RdE X p es W z)) :
    PE X (.Call (.Attribute x nm apos) [e, f] [] cpos) (RdE X p es W (.dgd d k z)) := by
  subst hn
  have m : M2 X x "get" apos e f cpos := ⟨base_ok hb _ _ _, by rw [plain_all (show ([e, f] : List Expr).all plainE = true by simp [p1, p2])]; rfl, hl, by rw [plain_star p1, plain_star p2]; rfl⟩
  refine (pe_dget2 (by have := g.un; omega) hd hk hz m).imp fun s H Q ⟨B, b, σ, h, μ, st, q⟩ => ?_
  unfold evE at q
  refine seqE st q fun y h1 μ1 H1 v l1 st1 ry q1 => ?_
  by_cases c : isDv h1 y = true
  · rw [if_pos c] at q1
    obtain ⟨a, rfl, di⟩ := isD_of st1.hr ry c
    refine ⟨a, rfl, di, seqE st1 q1 fun i h2 μ2 H2 w l2 st2 ri q2 => seqE st2 q2 fun zz h3 μ3 H3 w3 l3 st3 rz q3 => ?_⟩
    obtain ⟨r, er, kr⟩ := Post.of q3
    have ry := (ry.mono l2 st1.hr.mu).mono l3 st2.hr.mu
    have ri := ri.mono l3 st2.hr.mu
    unfold dgdV at er
    cases i with
    | int i =>
      obtain ⟨bb, eb, er⟩ := Option.bind_eq_some_iff.mp er
      cases ri.intI
      cases y with
      | ref n =>
        simp only [dinV] at eb
        split at eb
        · rename_i kvs eq
          cases eb
          obtain ⟨ad, ks, e1, hh1, hh2⟩ := dic_of (i := 0) (x := .non) (y := .non) st3.hr ry eq
          cases e1
          simp only [dgetV, eq] at er
          rcases hh2.look i with ⟨z1, z2⟩ | ⟨x, v, z1, z2, rr⟩
          · rw [z1] at er
            simp at er
            subst er
            exact ⟨none, by rw [← z2]; exact DGet.k (k := .inl i) hh1, kr μ3 H3 .refl st3.hr _ rz⟩
          · rw [z1] at er
            simp at er
            subst er
            exact ⟨some v, by rw [← z2]; exact DGet.k (k := .inl i) hh1, kr μ3 H3 .refl st3.hr _ rr.any⟩
        · cases eb
      | dct l =>
        cases ry with
        | @dct ad o _ hd =>
        simp only [dinV] at eb
        cases eb
        simp only [dgetV] at er
        refine ⟨(lookD i l).map V.int, .inl ⟨_, .inl i, .inr ⟨o, hd⟩, rfl, val_dct.symm⟩, ?_⟩
        cases q : lookD i l with
        | none =>
          rw [q] at er
          simp at er
          subst er
          exact kr μ3 H3 .refl st3.hr _ rz
        | some v =>
          rw [q] at er
          simp at er
          subst er
          exact kr μ3 H3 .refl st3.hr _ (.int v)
      | _ => cases eb
    | _ => cases er
  · rw [if_neg c] at q1
    exact q1.elim
end Mi
end

section
set_option Elab.async false
set_option linter.all false
set_option maxRecDepth 100000
set_option maxHeartbeats 4000000
/-! SndJ: sorted(d.values()), the values pairs of ints -/
namespace Mi
open PySem PySem.Spec PySem.W PySem.Calls PyProof.Rows L2
/-- the view d.values() at p -/
def valsO (p d : Addr) : HO := .ext fun h => h.IsValuesView p d
theorem valsO_ok {P : Program} {w : World} {H : Hp} {h : Heap} {p d : Addr} (e : h.get? p = some { cls := .type "dict_values", data := .fields #[.ref d] }) : ObjOk P w H h p (valsO p d) :=
  ⟨⟨_, e, rfl, rfl⟩, ⟨_, e⟩, fun h1 h2 x k => let ⟨o, ho, r⟩ := x; ⟨o, k o ho, r⟩⟩
section
variable {prog : Program} {w : World} {A : Around} {E : Value → Shared → Prop} {s : Shared} {T : String} {r d : Addr} {n : Nat} {P : Nat → Value → Prop} {OK : Heap → Prop}
/-- all of it in a new list; the heap has grown -/
theorem collectV {R : List Value → Shared → Prop} (K : KdlSrc prog w T r d n P OK) (hh : A.handled = none) (hok : OK s.heap) (hn : n ≤ sizeLine)
    (h : ∀ (h' : Heap) (tk : Nat) (acc : Array Value), (∀ b o, s.heap.get? b = some o → h'.get? b = some o) → s.heap.objs.size < h'.objs.size → ItemsOf P acc n → R acc.toList { s with heap := h', toks := tk }) :
    wpAny (model prog w) A (collect (.ref r)) R E s := by
  have hlt := K.there _ hok
  unfold collect
  refine wpAny_bind (wpAny_runValue (codeAny_builtin entry_proto_collect' ?_))
  rw [Around.under_plainId PySem.F.plain_proto_collect _]
  show wpAny _ A.in1 (newList [] >>= fun l => again (.builtin "list.__iadd__" ⟨[l, .ref r], []⟩)) _ _ s
  refine wpAny_bind (wpAny_newObj_type ?_)
  refine wpAny_pure ⟨plainId_quiet PySem.F.plain_list_iadd _, codeAny_builtin entry_list_iadd' ?_⟩
  rw [Around.under_plainId PySem.F.plain_list_iadd _]
  have hS₁ : (s.heap.push { cls := .type "list", data := .seq ([] : List Value).toArray }).get? s.heap.objs.size = some { cls := .type "list", data := .seq #[] } := Heap.get?_push_size _ rfl
  show wpAny _ A.in1 (Builtin.List.listExtendWith (.ref s.heap.objs.size) (.ref r) (.ref s.heap.objs.size)) _ _ _
  have key := kdl_extend (A := A) (s := { s with heap := s.heap.push { cls := .type "list", data := .seq ([] : List Value).toArray } })
    (R := fun (q : Result) (s' : Shared) => ∃ (h' : Heap) (tk : Nat) (acc' : Array Value) (c' : Nat), q = .ok (.ret (.ref s.heap.objs.size)) ∧ s' = { s with heap := h', toks := tk } ∧
      (∀ b o, s.heap.get? b = some o → h'.get? b = some o) ∧ h'.get? s.heap.objs.size = some { cls := .type "list", dict := none, data := .seq acc' c', slots := #[] } ∧ ItemsOf P acc' n)
    K hh (K.keep _ _ hok fun b _ o e => Heap.get?_push_of_some _ e) s.heap.objs.size (Nat.ne_of_gt hlt.1) (Nat.ne_of_gt hlt.2) (.ref s.heap.objs.size) 0 hS₁
    (fun h' tk acc' c' hk hS' hacc => ⟨h', tk, acc', c', rfl, rfl, fun b o e => hk b o (Nat.ne_of_lt (Heap.lt_size e)) (Heap.get?_push_of_some _ e), hS', hacc⟩) hn
  refine wpAny_mono key (fun fin s' x => ?_) fun e s' x => ?_
  · cases fin with
    | done f =>
      obtain ⟨h', tk, acc', c', e, rfl, hk, hS', hacc⟩ := x
      cases e
      show wpAny _ A (load s.heap.objs.size >>= _) _ _ _
      refine wpAny_bind (wpAny_load hS' ?_)
      exact wpAny_pure (h h' tk acc' hk (Heap.lt_size hS') hacc)
    | again c₁ =>
      refine ⟨x.1, codeAny_mono x.2 fun q s₂ y => ?_⟩
      obtain ⟨h', tk, acc', c', rfl, rfl, hk, hS', hacc⟩ := y
      show wpAny _ A (load s.heap.objs.size >>= _) _ _ _
      refine wpAny_bind (wpAny_load hS' ?_)
      exact wpAny_pure (h h' tk acc' hk (Heap.lt_size hS') hacc)
  · obtain ⟨_, _, _, _, e', _⟩ := x
    cases e'
end
section
variable {X : Cx}
def rValsK : V → List V → Hp → VK → Prop := fun x xs H Q => ∃ (a : Addr) (kvs : List (Key × V)), x = .ref a ∧ xs = [] ∧ H a = some (.dK kvs) ∧ ∀ p, H p = none → Q (.ref p) (upd H p (valsO p a))
theorem mt_valsK : MtR X "dict.values" rValsK := by
  intro pins s σ H x xs v us Q I rx rxs h
  obtain ⟨a, kvs, rfl, rfl, ha, q⟩ := h
  cases rx
  cases rxs
  obtain ⟨z, hd, vs, rel, dd⟩ := dk_of I.hok ha
  refine call_meetsIn PySem.F.slot_dict_values dd.typeIs PySem.F.entry_dict_values (PySem.F.args_dict_values_1 _) (meets_dict_values (mixKind X.prog X.w) a hd) ⟨⟨vs, dd⟩, ?_⟩
  have hf : H s.heap.objs.size = none := I.hok.fresh (Nat.le_refl _)
  exact ⟨.ref s.heap.objs.size, upd H s.heap.objs.size (valsO s.heap.objs.size a), I.laid (t' := s.toks) (fun b u e => Heap.get?_push_of_some _ e) (Nat.le_refl _) (valsO_ok (Heap.get?_push_size _ rfl)), rfl, q _ hf⟩
def rSortVals (K : PySem.W.Frag) : List V → Hp → VK → Prop := fun us H Q => ∃ (p a : Addr) (kvs : List (Key × V)) (ps : List (Int × Int)), us = [V.ref p] ∧ H p = some (valsO p a) ∧ H a = some (.dK kvs) ∧ ps.length = kvs.length ∧
  (∀ z ∈ (kvs.map (·.2)).zip ps, ∃ t, z.1 = V.ref t ∧ SqT K H t [.int z.2.1, .int z.2.2]) ∧
  ∀ (zs : List (V × (Int × Int))) p', zs.Perm ((kvs.map (·.2)).zip ps) → zs.Pairwise (fun u v => SrtO.lexB v.2 u.2 = false) → H p' = none → Q (.ref p') (upd H p' (.lst (zs.map (·.1))))
open Classical in
/-- the ints of a pair -/
noncomputable def pairK (K : PySem.W.Frag) (H : Hp) (x : V) : Int × Int := if h : ∃ (q : Int × Int) (t : Addr), x = V.ref t ∧ SqT K H t [.int q.1, .int q.2] then h.choose else (0, 0)
theorem pairK_eq {pins : List (Addr × PySem.Obj)} {σ : L2.St} {H : Hp} {s : Shared} (I : L2.Inv X pins σ H s) {t : Addr} {q : Int × Int} (h : SqT X.K H t [.int q.1, .int q.2]) : pairK X.K H (V.ref t) = q := by
  have ex : ∃ (q : Int × Int) (t' : Addr), V.ref t = V.ref t' ∧ SqT X.K H t' [.int q.1, .int q.2] := ⟨q, t, rfl, h⟩
  unfold pairK
  rw [dif_pos ex]
  obtain ⟨t', e, h'⟩ := ex.choose_spec
  cases e
  have := I.tuple_inj h' h
  injection this with e1 e2
  injection e2 with e2 _
  exact Prod.ext (V.int.inj e1) (V.int.inj e2)
theorem vals_kv : ∀ {kvs : List (Key × V)} {vs : List (Key × Value)}, KV kvs vs → Vals (kvs.map (·.2)) (vs.map (·.2))
  | _, _, .nil => .nil
  | _, _, .cons h r => .cons h.2 (vals_kv r)
theorem cr_sortVals (hc : X.calm = true) : CallR X (.builtin "sorted") (rSortVals X.K) := by
  intro pins s σ H vs us Q I r h
  obtain ⟨p, a, kvs, pq, rfl, hp, ha, hpl, hz0, q⟩ := h
  have lz : (kvs.map (·.2)).length = pq.length := by rw [List.length_map, hpl]
  let k : V → Int × Int := pairK X.K H
  have kz : ∀ z ∈ (kvs.map (·.2)).zip pq, k z.1 = z.2 := fun z hz => by
    obtain ⟨t, e, ht⟩ := hz0 z hz
    show pairK X.K H z.1 = z.2
    rw [e]
    have := pairK_eq (q := z.2) I ht
    exact this
  have hx : ∀ x ∈ kvs.map (·.2), ∃ t, x = V.ref t ∧ SqT X.K H t [.int (k x).1, .int (k x).2] := fun x hx => by
    obtain ⟨i, hi, e⟩ := List.mem_iff_getElem.mp hx
    have mz : (x, pq[i]'(by omega)) ∈ (kvs.map (·.2)).zip pq := by
      refine List.mem_iff_getElem.mpr ⟨i, by rw [List.length_zip]; omega, ?_⟩
      rw [List.getElem_zip, e]
    obtain ⟨t, e1, ht⟩ := hz0 _ mz
    have := kz _ mz
    exact ⟨t, e1, by rw [show k x = _ from this]; exact ht⟩
  obtain rfl := Vals.ref1 r
  have view : s.heap.IsValuesView p a := (show ObjOk X.prog X.w H s.heap p (valsO p a) from I.hok p _ hp).1
  obtain ⟨z, hd, ds, rel, dd⟩ := dk_of I.hok ha
  obtain ⟨ep, hat⟩ := dd.dictAt
  have hl : kvs.length = ds.length := Paired.length rel
  have hh : X.A.handled = none := I.ok.hd hc
  have rv := vals_kv rel
  obtain ⟨e1, e2⟩ := refs_back rv fun x m => by
    obtain ⟨t, e, _⟩ := hx x m
    exact ⟨t, e⟩
  have pr : ∀ v ∈ ds.map (·.2), Srt.IsPair s.heap v (k (backV v)).1 (k (backV v)).2 := fun v hv => by
    obtain ⟨t, rfl⟩ := e2 v hv
    have hm : V.ref t ∈ kvs.map (·.2) := by rw [e1]; exact List.mem_map.mpr ⟨_, hv, rfl⟩
    obtain ⟨t', e, ht⟩ := hx _ hm
    cases e
    obtain ⟨its2, r2, ⟨o, ho, hc, n, hd⟩, _⟩ := I.tuple ht
    obtain ⟨u1, u2, rfl, ri, rj⟩ := vals2 r2
    obtain ⟨t1, rfl⟩ := ri
    obtain ⟨t2, rfl⟩ := rj
    exact ⟨t, o, t1, t2, n, rfl, ho, hc, hd⟩
  refine Calls.call_function_entry kind_sorted plain_sorted entry_sorted (args_sorted1 _) ?_
  unfold Builtin.«sorted»
  refine wpAny_bind (m := checkCount "sorted" 1 1 _) (wpAny_pure ?_)
  refine wpAny_bind (collectV (A := X.A.in1) (kdl_values (knd := mixKind X.prog X.w) (d := a) (r := p) (kvs := ds) (ep := ep)) hh ⟨view, hat⟩ (by rw [← hl]; exact z) fun h' tk acc hk hgr hacc => ?_)
  have ea : acc.toList = ds.map (·.2) := by
    apply List.ext_getElem?
    intro i
    rw [List.getElem?_map]
    by_cases hi : i < ds.length
    · have ha : i < acc.size := by rw [hacc.1]; exact hi
      obtain ⟨kk, ek⟩ := hacc.2 i _ (Array.getElem?_eq_getElem ha)
      rw [ek, Array.getElem?_toList, Array.getElem?_eq_getElem ha]
      rfl
    · rw [List.getElem?_eq_none (by rw [Array.length_toList, hacc.1]; omega), List.getElem?_eq_none (by omega)]
      rfl
  rw [ea]
  have hz : (ds.map (·.2)).length ≤ sizeLine := by rw [List.length_map, ← hl]; exact z
  refine wpAny_bind (wpAny_newList ?_ hz)
  have hob : (h'.push { cls := .type "list", data := .seq (ds.map (·.2)).toArray }).get? h'.objs.size = some (seqObj "list" (ds.map (·.2)).toArray 0) := Heap.get?_push_size _ rfl
  have kb : ∀ b o, s.heap.get? b = some o → b ≠ h'.objs.size ∧ (h'.push { cls := .type "list", data := .seq (ds.map (·.2)).toArray }).get? b = some o := fun b o e => ⟨Nat.ne_of_lt (Heap.lt_size (hk b o e)), Heap.get?_push_of_some _ (hk b o e)⟩
  have hlt : s.heap.objs.size ≤ h'.objs.size := Nat.le_of_lt hgr
  generalize hh2 : h'.push { cls := .type "list", data := .seq (ds.map (·.2)).toArray } = h2 at hob kb ⊢
  refine wpAny_bind (wpAny_holding (wpAny_call_entry slot_list_sort ⟨_, hob, rfl⟩ entry_list_sort (SrtO.list_sort_ord (SrtO.swo_lex fun v => k (backV v)) hob hz (fun h2' => ?_) fun out hs hb => ⟨_, rfl, ?_⟩) (args_list_sort _)))
  · refine SrtO.pairs_sortableO (by omega) (fun v hm => (pr v hm).keeps fun b o e _ => (kb b o e).2) fun o e => ?_
    have e' : some o = some (seqObj "list" (ds.map (·.2)).toArray 0) := e.symm.trans hob
    cases e'
    intro c
    exact absurd (Value.type.inj c) (by decide)
  · refine wpAny_pure ⟨_, rfl, ?_⟩
    have h3 : ∀ u ∈ out, ∃ a, u = Value.ref a := fun u hu => e2 u (hb.perm.mem_iff.mp hu)
    have hb' : SrtO.Stb (ltP k) (out.map backV) (kvs.map (·.2)) := by
      rw [e1]
      exact SrtO.Stb.map (ltP_swo k) backV hb
    obtain ⟨n, hn⟩ := sortedHeap_at (vs := ds.map (·.2)) (out := out.toArray) hob
    have kp : ∀ b o, s.heap.get? b = some o → (sortedHeap h2 h'.objs.size (ds.map (·.2)) out.toArray).get? b = some o := fun b o e => by
      rw [sortedHeap_old (kb b o e).1 (Heap.lt_size (kb b o e).2)]
      exact (kb b o e).2
    refine ⟨.ref h'.objs.size, upd H h'.objs.size (.lst (out.map backV)), I.laid (t' := tk) kp hlt ⟨?_, out, n, L2.vals_back h3, hn⟩, rfl, ?_⟩
    · rw [hb'.len, List.length_map]
      exact z
    · obtain ⟨zs, pz, ez⟩ := perm_lift (·.1) hb'.perm ((kvs.map (·.2)).zip pq) (List.map_fst_zip (by omega))
      have sz : SrtO.Srtd (ltP k) (out.map backV) := SrtO.srtd_map hs
      rw [← ez] at sz ⊢
      refine q zs _ pz ?_ (I.hok.fresh hlt)
      refine (List.pairwise_map.mp sz).imp_of_mem fun {u v} hu hv h => ?_
      have eu := kz u (pz.mem_iff.mp hu)
      have ev := kz v (pz.mem_iff.mp hv)
      have h : SrtO.lexB (k v.1) (k u.1) = false := h
      rw [eu, ev] at h
      exact h
end
end Mi
end

section
set_option Elab.async false
set_option linter.all false
set_option maxRecDepth 100000
set_option maxHeartbeats 4000000
/-! SndK: sorted(d.values()), for the small language -/
namespace Mi
open PySem PySem.Spec PySem.W PySem.Calls PyProof.Rows L2
theorem leP_iff {p q : Int × Int} : leP p q = true ↔ p.1 < q.1 ∨ (p.1 = q.1 ∧ p.2 ≤ q.2) := by
  unfold leP
  simp [Bool.or_eq_true, Bool.and_eq_true]
theorem insP_perm {a : Int × Int} : ∀ {l : List (Int × Int)}, (insP a l).Perm (a :: l)
  | [] => List.Perm.refl _
  | b :: r => by
    unfold insP
    split
    · exact List.Perm.refl _
    · exact (List.Perm.cons b (insP_perm (a := a) (l := r))).trans (List.Perm.swap a b r)
theorem sortP_perm : ∀ {l : List (Int × Int)}, (sortP l).Perm l
  | [] => List.Perm.refl _
  | a :: r => by
    unfold sortP
    exact insP_perm.trans (List.Perm.cons a sortP_perm)
theorem insP_pw {a : Int × Int} : ∀ {l : List (Int × Int)}, l.Pairwise (fun p q => leP p q = true) → (insP a l).Pairwise (fun p q => leP p q = true)
  | [], _ => by simp [insP]
  | b :: r, h => by
    rw [List.pairwise_cons] at h
    unfold insP
    split
    · rename_i c
      rw [List.pairwise_cons, List.pairwise_cons]
      refine ⟨fun x hx => ?_, h.1, h.2⟩
      rcases List.mem_cons.mp hx with e | hx
      · rw [e]; exact c
      · have h1 := leP_iff.mp c
        have h2 := leP_iff.mp (h.1 x hx)
        exact leP_iff.mpr (by omega)
    · rename_i c
      rw [List.pairwise_cons]
      refine ⟨fun x hx => ?_, insP_pw h.2⟩
      rcases List.mem_cons.mp ((insP_perm.mem_iff).mp hx) with e | hx
      · rw [e]
        have c := mt leP_iff.mpr c
        exact leP_iff.mpr (by omega)
      · exact h.1 x hx
theorem sortP_pw : ∀ {l : List (Int × Int)}, (sortP l).Pairwise (fun p q => leP p q = true)
  | [] => by simp [sortP]
  | a :: r => by
    unfold sortP
    exact insP_pw sortP_pw
theorem sortP_uniq {l m : List (Int × Int)} (p : m.Perm l) (s : m.Pairwise (fun u v => SrtO.lexB v u = false)) : m = sortP l := by
  refine List.Perm.eq_of_pairwise (le := fun p q => leP p q = true) (fun a b _ _ h1 h2 => ?_) (s.imp fun {u v} h => ?_) sortP_pw (p.trans sortP_perm.symm)
  · have h1 := leP_iff.mp h1
    have h2 := leP_iff.mp h2
    exact Prod.ext (by omega) (by omega)
  · have := SrtO.lexB_no.mp h
    exact leP_iff.mpr (by omega)
theorem pairsI_of : ∀ {xs : List PV} {l : List (Int × Int)}, pairsI xs = some l → xs = l.map tupP
  | [], l, e => by cases e; rfl
  | x :: xs, l, e => by
    unfold pairsI at e
    split at e
    · rename_i q eq
      obtain ⟨l', e1, rfl⟩ := Option.map_eq_some_iff.mp e
      rw [List.map_cons, ← pairsI_of e1]
      congr 1
      unfold pairI at eq
      split at eq
      · cases eq; rfl
      · cases eq
    · cases e
section
variable {K : PySem.W.Frag} {fa : Nat → Addr} {es : List (Addr × Nat × Option Addr)} {μ : Mu} {H : Hp}
theorem RVs.zip_mem : ∀ {l : List (Int × Int)} {vs : List V}, RVs K fa es μ H (l.map tupP) vs → ∀ z ∈ vs.zip l, RV K fa es μ H (tupP z.2) z.1
  | [], _, .nil, z, hz => by simp at hz
  | q :: l, _, .cons r rs, z, hz => by
    rw [List.zip_cons_cons] at hz
    rcases List.mem_cons.mp hz with e | hz
    · rw [e]; exact r
    · exact RVs.zip_mem rs z hz
theorem rvs_of : ∀ {zs : List (V × (Int × Int))}, (∀ z ∈ zs, RV K fa es μ H (tupP z.2) z.1) → RVs K fa es μ H ((zs.map (·.2)).map tupP) (zs.map (·.1))
  | [], _ => .nil
  | z :: zs, h => .cons (h z (by simp)) (rvs_of fun y hy => h y (by simp [hy]))
end
variable {X : Cx} {p : Pk} {cy : Cy} {es : List (Addr × Nat × Option Addr)} {W : WX}
section
variable {a : Expr} {pos pp apos cpos : Pos} {l : E}
theorem snd_dvs (g : Good X p cy es W) (hc : cy.calm = true) {x nm : Str} (hx0 : x = "sorted") (hx : globB cy x = true) (hn : nm = ("values" : Str)) (hb : baseB a = true) (hl : (apos.endLine == cpos.line) = true) (ha : PE X a (RdE X p es W l)) :
    PE X (.Call (.Name x pp) [.Call (.Attribute a nm apos) [] [] cpos] [] pos) (RdF X p es W (.dvs l)) := by
  subst hx0 hn
  obtain ⟨h1, h2, h3, _⟩ := badName_of hx
  have hm : X.mg "sorted" = none := g.blt _ (by decide)
  have pv : PE X (.Call (.Attribute a "values" apos) [] [] cpos) (tBM0 X.K "dict" rValsK (RdE X p es W l)) := pe_bm0 PySem.F.plainAttrs_dict PySem.F.slot_dict_values PySem.F.type_dict_values mt_valsK ha (base_ok hb _ _ _) hl
  refine (pe_callB (cr_sortVals (g.calm hc).1) (g.glob hx) hm (by decide +kernel) (pa_one rfl pv) h3 h1 rfl).imp fun s H Q ⟨B, b, σ, h, μ, st, q⟩ => ?_
  unfold evF at q
  refine seqE st q fun x h1 μ1 H1 v l1 st1 rx q1 => ?_
  cases x with
  | ref n =>
    cases e0 : h1[n]? with
    | none => simp only [dvsV, e0] at q1; exact q1.elim
    | some o =>
      cases o with
      | dic kvs =>
        simp only [dvsV, e0] at q1
        cases e1 : pairsI (kvs.map (·.2)) with
        | none => rw [e1] at q1; exact q1.elim
        | some ns =>
          rw [e1] at q1
          obtain ⟨ad, ks, rfl, h1, h2⟩ := dic_of (i := 0) (x := .non) (y := .non) st1.hr rx e0
          have rv : RVs X.K p.fa [] μ1 H1 (ns.map tupP) (ks.map (·.2)) := by
            rw [← pairsI_of e1]
            exact h2.vals
          have ln : ns.length = ks.length := by
            have := rv.length
            rw [List.length_map, List.length_map] at this
            exact this
          refine ⟨.inr (.inr (.inl ⟨rfl, .inl ⟨ks, h1⟩⟩)), ad, ks, rfl, rfl, h1, fun p0 hp0 => ?_⟩
          have sm : Same H1 (upd H1 p0 (valsO p0 ad)) := same_new hp0
          have l2 : Le μ1 H1 μ1 (upd H1 p0 (valsO p0 ad)) := Le.same sm
          have g2 := st1.hr.same sm
          have ne : ad ≠ p0 := ne_of_none h1 hp0
          have rv2 := rv.mono l2 st1.hr.mu
          refine ⟨p0, ad, ks, ns, rfl, upd_same, by rw [upd_ne ne]; exact h1, ln, fun z hz => ?_, fun zs p' pz sz hp' => ?_⟩
          · obtain ⟨t, us, e, sq, ru⟩ := (rv2.zip_mem z hz).tupI
            refine ⟨t, e, ?_⟩
            cases ru with
            | cons r1 r2 =>
              cases r2 with
              | cons r3 r4 =>
                cases r4
                cases r1
                cases r3
                exact sq
          · have es' : zs.map (·.2) = sortP ns := by
              refine sortP_uniq ?_ (List.pairwise_map.mpr sz)
              have := pz.map (·.2)
              rwa [List.map_snd_zip (by rw [List.length_map]; omega)] at this
            have rz := rvs_of fun z hz => rv2.zip_mem z (pz.mem_iff.mp hz)
            rw [es'] at rz
            exact post_lst (l1.trans l2) g2 hp' (rz.any) (q1.later l2)
      | _ => simp only [dvsV, e0] at q1; exact q1.elim
  | _ => simp only [dvsV] at q1; exact q1.elim
end
end Mi
end

section
set_option Elab.async false
set_option linter.all false
set_option maxRecDepth 100000
set_option maxHeartbeats 4000000
/-! SndL: sorted of a list of pairs of ints -/
namespace Mi
open PySem PySem.Spec PySem.W PySem.Calls PyProof.Rows L2
section
variable {X : Cx}
def rSortP (K : PySem.W.Frag) : List V → Hp → VK → Prop := fun us H Q => ∃ (a : Addr) (xs : List V) (ps : List (Int × Int)), us = [V.ref a] ∧ SqL K H a xs ∧ xs.length = ps.length ∧ (∀ z ∈ xs.zip ps, ∃ t, z.1 = V.ref t ∧ SqT K H t [.int z.2.1, .int z.2.2]) ∧
  ∀ (zs : List (V × (Int × Int))) p', zs.Perm (xs.zip ps) → zs.Pairwise (fun u v => SrtO.lexB v.2 u.2 = false) → H p' = none → Q (.ref p') (upd H p' (.lst (zs.map (·.1))))
theorem cr_sortP : CallR X (.builtin "sorted") (rSortP X.K) := by
  intro pins s σ H us ws Q I r h
  obtain ⟨a, xs, pq, rfl, hs, lz, hz0, q⟩ := h
  let k : V → Int × Int := pairK X.K H
  have kz : ∀ z ∈ xs.zip pq, k z.1 = z.2 := fun z hz => by
    obtain ⟨t, e, ht⟩ := hz0 z hz
    show pairK X.K H z.1 = z.2
    rw [e]
    exact pairK_eq (q := z.2) I ht
  have hx : ∀ x ∈ xs, ∃ t, x = V.ref t ∧ SqT X.K H t [.int (k x).1, .int (k x).2] := fun x hx => by
    obtain ⟨i, hi, e⟩ := List.mem_iff_getElem.mp hx
    have mz : (x, pq[i]'(by omega)) ∈ xs.zip pq := by
      refine List.mem_iff_getElem.mpr ⟨i, by rw [List.length_zip]; omega, ?_⟩
      rw [List.getElem_zip, e]
    obtain ⟨t, e1, ht⟩ := hz0 _ mz
    have := kz _ mz
    exact ⟨t, e1, by rw [show k x = _ from this]; exact ht⟩
  obtain ⟨its, rv, hl, hz⟩ := I.list hs
  obtain rfl := Vals.ref1 r
  obtain ⟨e1, e2⟩ := refs_back rv fun x m => let ⟨t, e, _⟩ := hx x m; ⟨t, e⟩
  have pr : ∀ v ∈ its, Srt.IsPair s.heap v (k (backV v)).1 (k (backV v)).2 := fun v hv => by
    obtain ⟨t, rfl⟩ := e2 v hv
    have hm : V.ref t ∈ xs := by rw [e1]; exact List.mem_map.mpr ⟨_, hv, rfl⟩
    obtain ⟨t', e, ht⟩ := hx _ hm
    cases e
    obtain ⟨jts, r2, ⟨o, ho, hc, n, hd⟩, _⟩ := I.tuple ht
    obtain ⟨w1, w2, rfl, ri, rj⟩ := vals2 r2
    obtain ⟨t1, rfl⟩ := ri
    obtain ⟨t2, rfl⟩ := rj
    exact ⟨t, o, t1, t2, n, rfl, ho, hc, hd⟩
  refine SrtO.sorted_pairsO (k := fun v => k (backV v)) hl.isList (by rw [← rv.length]; exact hz) pr fun h' d out g1 g2 kp hd hn => ?_
  obtain ⟨n, hn⟩ := hn
  have h3 : ∀ u ∈ out, ∃ a, u = Value.ref a := fun u hu => e2 u (g2.perm.mem_iff.mp hu)
  have hb : SrtO.Stb (ltP k) (out.map backV) xs := by
    rw [e1]
    exact SrtO.Stb.map (ltP_swo k) backV g2
  refine ⟨.ref d, upd H d (.lst (out.map backV)), I.laid (t' := s.toks) kp hd ⟨by rw [hb.len]; exact hz, out, n, L2.vals_back h3, hn⟩, rfl, ?_⟩
  obtain ⟨zs, pz, ez⟩ := perm_lift (·.1) hb.perm (xs.zip pq) (List.map_fst_zip (by omega))
  have sz : SrtO.Srtd (ltP k) (out.map backV) := SrtO.srtd_map g1
  rw [← ez] at sz ⊢
  refine q zs _ pz ?_ (I.hok.fresh hd)
  refine (List.pairwise_map.mp sz).imp_of_mem fun {u v} hu hv h => ?_
  have eu := kz u (pz.mem_iff.mp hu)
  have ev := kz v (pz.mem_iff.mp hv)
  have h : SrtO.lexB (k v.1) (k u.1) = false := h
  rw [eu, ev] at h
  exact h
end
variable {X : Cx} {p : Pk} {cy : Cy} {es : List (Addr × Nat × Option Addr)} {W : WX}
section
variable {a : Expr} {pos pp : Pos} {l : E}
theorem snd_srtp (g : Good X p cy es W) {x : Str} (hx0 : x = "sorted") (hx : globB cy x = true) (pl : plainE a = true) (ha : PE X a (RdE X p es W l)) : PE X (.Call (.Name x pp) [a] [] pos) (RdF X p es W (.srtp l)) := by
  subst hx0
  obtain ⟨h1, h2, h3, _⟩ := badName_of hx
  have hm : X.mg "sorted" = none := g.blt _ (by decide)
  refine (pe_callB cr_sortP (g.glob hx) hm (by decide +kernel) (pa_one pl ha) h3 h1 (plain_star pl _ _)).imp fun s H Q ⟨B, b, σ, h, μ, st, q⟩ => ?_
  unfold evF at q
  refine seqE st q fun x h1 μ1 H1 v l1 st1 rx q1 => ?_
  obtain ⟨z, ez, _⟩ := Post.of q1
  unfold srtpV at ez
  by_cases nt : ∃ ys, x = .tup ys
  · obtain ⟨ys, rfl⟩ := nt
    cases ez
  · have nt : ∀ ys, x ≠ .tup ys := fun ys e => nt ⟨ys, e⟩
    have ez' : ((items h1 x).bind fun xs => (pairsI xs).map fun l => (sortP l).map tupP) = some z := by
      cases x <;> first | exact ez | exact absurd rfl (nt _)
    obtain ⟨xs, e, ez'⟩ := Option.bind_eq_some_iff.mp ez'
    obtain ⟨ns, e1, ez'⟩ := Option.map_eq_some_iff.mp ez'
    subst ez'
    obtain ⟨ad, vs, rfl, sq, r⟩ := list_of st1.hr rx nt e
    have rv : RVs X.K p.fa es μ1 H1 (ns.map tupP) vs := by rw [← pairsI_of e1]; exact r
    have ln : vs.length = ns.length := by
      have := rv.length
      rw [List.length_map] at this
      exact this.symm
    refine ⟨ad, vs, ns, rfl, sq, ln, fun z hz => ?_, fun zs p' pz sz hp' => ?_⟩
    · obtain ⟨t, us, e, sq, ru⟩ := (rv.zip_mem z hz).tupI
      refine ⟨t, e, ?_⟩
      cases ru with
      | cons r1 r2 =>
        cases r2 with
        | cons r3 r4 =>
          cases r4
          cases r1
          cases r3
          exact sq
    · have es' : zs.map (·.2) = sortP ns := by
        refine sortP_uniq ?_ (List.pairwise_map.mpr sz)
        have := pz.map (·.2)
        rwa [List.map_snd_zip (by omega)] at this
      have rz := rvs_of fun z hz => rv.zip_mem z (pz.mem_iff.mp hz)
      rw [es'] at rz
      have q2 : Post X.K p.fa B μ1 H1 (R.of (some ((sortP ns).map tupP)) h1) (KF X p es H Q) (XW p W s) := by
        have e3 : srtpV h1 x = some ((sortP ns).map tupP) := ez
        rw [← e3]
        exact q1
      exact post_lst l1 st1.hr hp' rz q2
end
end Mi
end

section
set_option Elab.async false
set_option linter.all false
set_option maxRecDepth 100000
set_option maxHeartbeats 4000000
/-! SndM: sorted(set(list of ints)) -/
namespace Mi
open PySem PySem.Spec PySem.W PySem.Calls PyProof.Rows L2
section
variable {P : Program} {w : World} {A : Around} {E : Value → Shared → Prop} {s : Shared}
set_option maxRecDepth 100000 in
set_option maxHeartbeats 3200000 in
theorem set_lstI {l : Addr} {items : Array Value} (ns : List Int) {Q : Value → Shared → Prop} (hh : A.handled = none) (hl : s.heap.IsList l items) (hit : IntsAre items.toList ns) (hb : ns.length + 1 < scanBound)
    (h : ∀ (h' : Heap) (tk c : Nat), SetR w h' s.heap.objs.size (fun j => decide (j ∈ ns)) c → c ≤ ns.length → (∀ b o, s.heap.get? b = some o → h'.get? b = some o) → Q (.ref s.heap.objs.size) { s with heap := h', toks := tk }) :
    wpAny (model P w) A (call (.type "set") [.ref l]) Q E s := by
  have size : items.size = ns.length := by
    rw [← Array.length_toList]
    exact IntsAre.length hit
  obtain ⟨c, tl, hmro⟩ := F.called_set.mro
  have hmade := F.called_set.made
  have hsub := F.called_set.sub
  refine wpAny_call (codeAny_of_tree ?_)
  show wpAny _ _ (callAny (.type "set") _) _ _ _
  refine wpAny_pure ⟨Code.quiet_builtin _ (by decide +kernel), codeAny_builtin F.entry_type_call ?_⟩
  rw [Around.under_plain (weight_type_call_type "set" [.ref l] []) rfl]
  have h1 := F.called_set.notType
  have h2 := F.called_set.canCreate
  have hct := F.typeCall_set_1 (.ref l)
  repeat (any_goals (first | assumption | wp_step))
  refine codeAny_mono (code_set_led1 (.ref l) (E := E) (Q₁ := fun obj t => obj = .ref s.heap.objs.size ∧ t = { s with heap := s.heap.push ({ cls := .type "set", dict := none, data := .set #[] 0 (.fresh 0 0 (!w.params.followText "set-order")) } : PySem.Obj) }) ⟨rfl, rfl⟩) fun r t hr => ?_
  cases r with
  | error e => exact hr
  | ok fl =>
    cases fl with
    | ret obj =>
      obtain ⟨rfl, rfl⟩ := hr
      have at0 : (s.heap.push ({ cls := .type "set", dict := none, data := .set #[] 0 (.fresh 0 0 (!w.params.followText "set-order")) } : PySem.Obj)).get? s.heap.objs.size = some ({ cls := .type "set", dict := none, data := .set #[] 0 (.fresh 0 0 (!w.params.followText "set-order")) } : PySem.Obj) := Heap.get?_push_size _ rfl
      have ty : Shared.TypeIs { s with heap := s.heap.push ({ cls := .type "set", dict := none, data := .set #[] 0 (.fresh 0 0 (!w.params.followText "set-order")) } : PySem.Obj) } (.ref s.heap.objs.size) "set" := ⟨_, at0, rfl⟩
      have hli := F.called_set.init.lookup
      have hbi := F.called_set.init.bind (.ref s.heap.objs.size)
      repeat (any_goals (first | assumption | wp_step))
      refine codeAny_mono (codeAny_call_builtin (R := wants (fun r u => r = .none ∧ ∃ h' tk c, u = { s with heap := h', toks := tk } ∧ SetR w h' s.heap.objs.size (fun j => decide (j ∈ ns)) c ∧ c ≤ ns.length ∧
          (∀ b o, s.heap.get? b = some o → h'.get? b = some o)) E) F.called_set.init.plain F.entry_set_init (check_set_init_1 ty ?_)) fun r2 t2 hr2 => ?_
      · obtain ⟨⟨oc, od, odata, os⟩, ho, hc, nl, hd⟩ := hl
        simp only at hc hd
        subst hc; subst hd
        have lt : l < s.heap.objs.size := Heap.lt_size ho
        have ho' : (s.heap.push ({ cls := .type "set", dict := none, data := .set #[] 0 (.fresh 0 0 (!w.params.followText "set-order")) } : PySem.Obj)).get? l = some { cls := .type "list", dict := od, data := .seq items nl, slots := os } := Heap.get?_push_of_some _ ho
        have s1 := F.sub_list_set
        have s2 := F.sub_list_frozenset
        have s3 : (Value.type "list" == Value.type "dict") = false := by decide
        have hl1 : (s.heap.push ({ cls := .type "set", dict := none, data := .set #[] 0 (.fresh 0 0 (!w.params.followText "set-order")) } : PySem.Obj)).IsList l items := ⟨_, ho', rfl, nl, rfl⟩
        unfold Builtin.«set.__init__» noKeywords Builtin.Frozenset.updateFrom
        generalize hPI : pyIter = PI
        wp_walk
        subst hPI
        refine wpAny_pyIter_list hl1 ?_
        refine wpAny_bind (wpAny_runValue ?_)
        have hh3 : A.in1.in1.in1.handled = none := by simp [hh]
        have sz : (s.heap.push ({ cls := .type "set", dict := none, data := .set #[] 0 (.fresh 0 0 (!w.params.followText "set-order")) } : PySem.Obj)).objs.size = s.heap.objs.size + 1 := Heap.size_push ..
        have ne : l ≠ (s.heap.push ({ cls := .type "set", dict := none, data := .set #[] 0 (.fresh 0 0 (!w.params.followText "set-order")) } : PySem.Obj)).objs.size := by rw [sz]; exact Nat.ne_of_lt (Nat.lt_succ_of_lt lt)
        have nin : s.heap.objs.size ∉ [(s.heap.push ({ cls := .type "set", dict := none, data := .set #[] 0 (.fresh 0 0 (!w.params.followText "set-order")) } : PySem.Obj)).objs.size, l] := by
          rw [sz]
          simp only [List.mem_cons, List.not_mem_nil, or_false, not_or]
          exact ⟨Nat.ne_of_lt (Nat.lt_succ_self _), Nat.ne_of_gt lt⟩
        have val : ∀ (i : Nat) (v : Value), items[i]? = some v → ∃ k t, ns[i]? = some k ∧ v = .int k t := fun i v hv => by
          have hi : i < ns.length := by rw [← size]; exact (Array.getElem?_eq_some_iff.mp hv).1
          obtain ⟨t, e⟩ := PyProof.Rows.IntsAre.int_at hit i v (by rw [Array.getElem?_toList]; exact hv)
          exact ⟨ns[i], t, List.getElem?_eq_getElem hi, by rw [e, List.getD_eq_getElem?_getD, List.getElem?_eq_getElem hi] <;> rfl⟩
        refine set_update_ints ((Walks.list hh3 _ l ne items).toS) s.heap.objs.size nin ns size hb val (items.size - 0) 0 _ (by omega) (Nat.zero_le _) ⟨⟨_, Heap.get?_push_size _ rfl, rfl, rfl⟩, hl1.push _⟩ ?fresh ?done
        case fresh =>
          exact ⟨0, Nat.le_refl 0, setR_new_at (Heap.get?_push_of_some _ at0)⟩
        case done =>
          intro t c' hm hc' hS
          obtain ⟨h', g2, d', tk', os'⟩ := t
          have eg : g2 = s.gens := hm.gens
          have ed : d' = s.drawn := hm.drawn
          have eo : os' = s.os := hm.os
          subst eg; subst ed; subst eo
          show wpAny _ _ _ _ _ _
          refine wpAny_pure ?_
          show wpAny _ _ (ret Value.none) _ _ _
          rw [size] at hc'
          refine wpAny_pure ⟨rfl, h', tk', c', rfl, hS, hc', fun b o e => ?_⟩
          have lb : b < s.heap.objs.size := Heap.lt_size e
          refine hm.heap b o ?_ (Heap.get?_push_of_some _ (Heap.get?_push_of_some _ e))
          rw [sz]
          simp only [List.mem_cons, List.not_mem_nil, or_false, not_or]
          exact ⟨Nat.ne_of_lt lb, Nat.ne_of_lt (Nat.lt_succ_of_lt lb)⟩
      · cases r2 with
        | error e => exact hr2
        | ok fl2 =>
          cases fl2 with
          | ret r =>
            obtain ⟨rfl, h', tk, c', rfl, hS, hc', hk⟩ := hr2
            repeat (any_goals (first | assumption | wp_step))
            exact h _ _ _ hS hc' hk
          | _ => exact hr2.elim
    | _ => exact hr.elim
end
section
variable {X : Cx}
def tSset (K : PySem.W.Frag) (ta : TE) : TE := fun σ H Q => ta σ H fun x H1 => ∃ (a : Addr) (ns : List Int), x = .ref a ∧ SqL K H1 a (ns.map V.int) ∧ ns.length ≤ 60 ∧
  ∀ (out : List Int) (p : Addr), out.Pairwise (· < ·) → (∀ k, k ∈ out ↔ k ∈ ns) → H1 p = none → Q (.ref p) (upd H1 p (.lst (out.map V.int)))
theorem peSset {e : Expr} {ta : TE} {p1 p2 p3 pos : Pos} (hg : Gl X "sorted") (hm : X.mg "sorted" = none) (hg2 : Gl X "set") (hm2 : X.mg "set" = none) (he : PE X e ta) (hc : X.calm = true)
    (na : starEach [e] X.env = (false, eval e X.env) :: starEach [] X.env) : PE X (.Call (.Name "sorted" p1) [.Call (.Name "set" p2) [e] [] p3] [] pos) (tSset X.K ta) :=
  ⟨fun pins s σ H Q I h => Call_ (ld_blt I hg hm (show bootBuiltins "sorted" = some (.builtin "sorted") by decide +kernel) (PyProof.Rows.callWith_builtin1 (PyProof.Rows.args_cons (Call_ (ld_blt I hg2 hm2 boot_set (PyProof.Rows.callWith_type1 (PyProof.Rows.args_cons (thn (he.run pins s σ H _ I h) fun v s1 ⟨x, H1, I1, r1, q1⟩ => PyProof.Rows.args_nil (by
    obtain ⟨l, ns, rfl, hq, hl, q1⟩ := q1
    cases r1
    obtain ⟨its, r, pl, hz⟩ := I1.list hq
    refine set_lstI ns (I1.ok.hd hc) pl.isList (by simpa using RZ.intsAre_vals r) (by unfold scanBound; omega) fun h' tk c hS hc' hk => PyProof.Rows.args_nil ?_
    have I2 : Inv X pins σ H1 { s1 with heap := h', toks := tk } := I1.kept fun b o e => hk b o e
    refine sorted_set hS (I2.ok.hd hc) (by omega) fun s' p out c2 zs k g o hp hg2 hi hs hm2 hl2 => ?_
    have hlen : (zs.map V.int).length ≤ sizeLine := by rw [List.length_map, hl2, sizeLine_eq]; omega
    have hn : H1 p = none := I2.hok.fresh hp
    have J : Inv X pins σ (upd H1 p (.lst (zs.map V.int))) { ({ s1 with heap := h', toks := tk } : Shared) with heap := s'.heap, gens := s'.gens, drawn := s'.drawn, toks := s'.toks } :=
      I2.call (ch := []) (Un.laid k hp hn) (I2.hok.laid k hp ⟨hlen, out.toList, c2, vals_of_ints hi, hg2⟩) (by rw [g]; exact I2.bare) (fun _ z => nomatch z)
    have e : s' = { ({ s1 with heap := h', toks := tk } : Shared) with heap := s'.heap, gens := s'.gens, drawn := s'.drawn, toks := s'.toks } := by
      cases s'
      cases s1
      cases o
      rfl
    rw [e]
    exact ⟨.ref p, _, J, rfl, q1 zs p hs (fun k => by rw [hm2 k]; simp) hn⟩)) na) na rfl))) rfl) rfl rfl))⟩
end
variable {X : Cx} {p : Pk} {cy : Cy} {es : List (Addr × Nat × Option Addr)} {W : WX}
theorem sortI_fm {l out : List Int} (h1 : out.Pairwise (· < ·)) (h2 : ∀ k, k ∈ out ↔ k ∈ l) : out = sortI (fmI [] l) := by
  refine List.Perm.eq_of_pairwise (le := fun a b : Int => a ≤ b) (fun a b _ _ x y => Int.le_antisymm x y) (h1.imp fun h => Int.le_of_lt h) (sortI_srt _) ?_
  refine List.Perm.trans ?_ (sortI_perm _).symm
  refine (List.perm_ext_iff_of_nodup (h1.imp fun h => Int.ne_of_lt h) (fmI_nd l [] List.nodup_nil)).mpr fun k => ?_
  rw [h2, fmI_mem]
  simp
theorem snd_sset {x y : Str} {e : Expr} {a : E} {p1 p2 p3 pos : Pos} (g : Good X p cy es W) (hc : cy.calm = true) (hx0 : x = "sorted") (hx : globB cy x = true) (hy0 : y = "set") (hy : globB cy y = true) (pl : plainE e = true) (ha : PE X e (RdE X p es W a)) :
    PE X (.Call (.Name x p1) [.Call (.Name y p2) [e] [] p3] [] pos) (RdF X p es W (.sset a)) := by
  subst hx0 hy0
  have hm : X.mg "sorted" = none := g.blt _ (by decide)
  have hm2 : X.mg "set" = none := g.blt _ (by decide)
  refine (peSset (g.glob hx) hm (g.glob hy) hm2 ha (g.calm hc).1 (plain_star pl _ _)).imp fun s H Q ⟨B, b, σ, h, μ, st, q⟩ => ?_
  unfold evF at q
  refine seqE st q fun x h1 μ1 H1 v l1 st1 rx q1 => ?_
  obtain ⟨z, ez, _⟩ := Post.of q1
  unfold ssetV at ez
  by_cases nt : ∃ ys, x = .tup ys
  · obtain ⟨ys, rfl⟩ := nt
    cases ez
  · have nt : ∀ ys, x ≠ .tup ys := fun ys e => nt ⟨ys, e⟩
    have ez' : ((items h1 x).bind fun xs => (intsP xs).bind fun l => if l.length ≤ 60 then some ((sortI (fmI [] l)).map PV.int) else none) = some z := by
      cases x <;> first | exact ez | exact absurd rfl (nt _)
    obtain ⟨xs, e, ez'⟩ := Option.bind_eq_some_iff.mp ez'
    obtain ⟨ns, e2, ez'⟩ := Option.bind_eq_some_iff.mp ez'
    split at ez'
    · rename_i hl
      cases ez'
      obtain ⟨ad, vs, rfl, sq, r⟩ := list_of st1.hr rx nt e
      have ev := ints_of r e2
      subst ev
      refine ⟨ad, ns, rfl, sq, hl, fun out p' o1 o2 hp' => ?_⟩
      have eo := sortI_fm o1 o2
      subst eo
      have q2 : Post X.K p.fa B μ1 H1 (R.of (some ((sortI (fmI [] ns)).map PV.int)) h1) (KF X p es H Q) (XW p W s) := by
        have e3 : ssetV h1 x = some ((sortI (fmI [] ns)).map PV.int) := ez
        rw [← e3]
        exact q1
      exact post_lst l1 st1.hr hp' (rvs_ints (sortI (fmI [] ns))) q2
    · cases ez'
end Mi
end

section
set_option Elab.async false
set_option linter.all false
set_option maxRecDepth 100000
set_option maxHeartbeats 4000000
/-! SndN: sorted of a list of tuples of ints of any lengths -/
namespace TT
open PySem PySem.Spec PySem.W PySem.Calls PyProof.Rows L2 Mi SrtO Srt
def lexZ (fin : Bool) : List Int → List Int → Bool
  | x :: r, y :: t => if x = y then lexZ fin r t else decide (x < y)
  | _, _ => fin
theorem lexZ_L : ∀ {a b : List Int}, lexZ (decide (a.length < b.length)) a b = lexL a b
  | [], [] => rfl
  | [], _ :: _ => by simp [lexZ, lexL]
  | _ :: _, [] => by simp [lexZ, lexL]
  | x :: r, y :: t => by
    have ih := lexZ_L (a := r) (b := t)
    show (if x = y then lexZ (decide ((x :: r).length < (y :: t).length)) r t else decide (x < y)) = if x = y then lexL r t else decide (x < y)
    have e : decide ((x :: r).length < (y :: t).length) = decide (r.length < t.length) := by
      simp only [List.length_cons, Nat.add_lt_add_iff_right]
    rw [e, ih]
theorem lexL_asym : ∀ {a b : List Int}, lexL a b = true → lexL b a = false
  | [], [], h => by cases h
  | [], _ :: _, _ => rfl
  | _ :: _, [], h => by cases h
  | x :: r, y :: t, h => by
    unfold lexL at h ⊢
    by_cases e : x = y
    · subst e
      rw [if_pos rfl] at h ⊢
      exact lexL_asym h
    · rw [if_neg e, decide_eq_true_eq] at h
      rw [if_neg (fun z => e z.symm)]
      exact decide_eq_false (by omega)
theorem lexL_tr : ∀ {a b c : List Int}, lexL a b = false → lexL b c = false → lexL a c = false
  | [], [], _, _, h => h
  | [], _ :: _, _, h, _ => by cases h
  | _ :: _, [], [], _, _ => rfl
  | _ :: _, [], _ :: _, _, h => by cases h
  | _ :: _, _ :: _, [], _, _ => rfl
  | x :: r, y :: t, z :: u, h1, h2 => by
    unfold lexL at h1 h2 ⊢
    by_cases e1 : x = y
    · subst e1
      rw [if_pos rfl] at h1
      by_cases e2 : x = z
      · subst e2
        rw [if_pos rfl] at h2 ⊢
        exact lexL_tr h1 h2
      · rw [if_neg e2] at h2 ⊢
        exact h2
    · rw [if_neg e1, decide_eq_false_iff_not] at h1
      by_cases e2 : y = z
      · subst e2
        rw [if_neg e1]
        exact decide_eq_false h1
      · rw [if_neg e2, decide_eq_false_iff_not] at h2
        rw [if_neg (by omega)]
        exact decide_eq_false (by omega)
theorem swo_lexL (k : Value → List Int) : Swo fun v u => lexL (k v) (k u) := ⟨fun _ _ h => lexL_asym h, fun _ _ _ h1 h2 => lexL_tr h2 h1⟩
/-- a tuple of ints -/
def IsTup (h : Heap) (v : Value) (l : List Int) : Prop := ∃ a o xs n, v = .ref a ∧ h.get? a = some o ∧ o.cls = .type "tuple" ∧ o.data = .seq xs n ∧ IntsAre xs.toList l
theorem IsTup.keeps {h h' : Heap} {v : Value} {l : List Int} (p : IsTup h v l) (k : ∀ b o, h.get? b = some o → o.cls = .type "tuple" → h'.get? b = some o) : IsTup h' v l := by
  obtain ⟨a, o, xs, n, e, ho, hc, hd, hi⟩ := p
  exact ⟨a, o, xs, n, e, k _ _ ho hc, hc, hd, hi⟩
section
variable {prog : Program} {w : World} {A : Around} {E : Value → Shared → Prop} {s : Shared}
theorem lex_tup {b fin : Bool} {Q : Bool → Shared → Prop} {xs ys : List Value} {ns ms : List Int} (i : Nat) (hx : IntsAre xs ns) (hy : IntsAre ys ms) (h : Q (lexZ fin ns ms) s) : PySem.W.KatLex prog w A b fin Q (xs.zip ys) i s := by
  induction hx generalizing ys ms i with
  | nil =>
    have e : lexZ fin [] ms = fin := by cases ms <;> rfl
    rw [e] at h
    exact PySem.W.kat_nil h
  | @cons p t xs ns hx ih =>
    cases hy with
    | nil =>
      exact PySem.W.kat_nil h
    | @cons q u ys ms hy =>
      show PySem.W.KatLex prog w A b fin Q ((Value.int p t, Value.int q u) :: xs.zip ys) i s
      have h : Q (if p = q then lexZ fin ns ms else decide (p < q)) s := h
      refine PySem.W.kat_cons (wpAny_eqBool_int ?_)
      by_cases e : p = q
      · subst e
        rw [beq_self_eq_true]
        rw [if_pos rfl] at h
        refine PySem.W.kat_yes ?_
        exact ih (i + 1) hy h
      · rw [show (p == q) = false from beq_eq_false_iff_ne.mpr e]
        rw [if_neg e] at h
        exact PySem.W.kat_no (TS.oneLt_ints _ h)
theorem tup_cmp {vs : List Value} {k : Value → List Int} (hp : ∀ v ∈ vs, IsTup s.heap v (k v)) : Cmp prog w A s (tuples' true) (fun p => p.1 ∈ vs) (lt2 fun v u => lexL (k v) (k u)) := by
  intro p q hm hm'
  have h1 := hp _ hm
  have h2 := hp _ hm'
  show wpAny (model prog w) A (keyLt' (tuples' true) p.1 q.1) (fun r s' => s' = s ∧ r = lexL (k p.1) (k q.1)) (fun _ _ => False) s
  generalize k p.1 = x at h1 ⊢
  generalize k q.1 = y at h2 ⊢
  obtain ⟨a, o, xs, n, e, ho, hc, hd, hi⟩ := h1
  obtain ⟨a', o', ys, n', e', ho', hc', hd', hi'⟩ := h2
  rw [e, e']
  refine PySem.W.kat_lt ho hd ho' hd' (lex_tup 0 hi hi' ⟨rfl, ?_⟩)
  have l1 := hi.length
  have l2 := hi'.length
  rw [Array.length_toList] at l1 l2
  rw [← lexZ_L, ← l1, ← l2]
theorem firsts_tup {h : Heap} {k : Value → List Int} : ∀ {vs : List Value}, (∀ v ∈ vs, IsTup h v (k v) ∧ k v ≠ []) → ∃ fs : List Value, PySem.W.KatTups h vs fs ∧ fs.length = vs.length ∧ ∀ f ∈ fs, ∃ x t, f = Value.int x t
  | [], _ => ⟨[], PySem.W.KatTups.nil, rfl, fun _ hm => by simp at hm⟩
  | v :: vs, hp => by
    obtain ⟨fs, h1, h2, h3⟩ := firsts_tup (vs := vs) fun v' hm => hp v' (List.mem_cons_of_mem _ hm)
    obtain ⟨⟨a, o, xs, n, e, ho, hc, hd, hi⟩, ne⟩ := hp v (List.mem_cons_self ..)
    generalize k v = l at hi ne
    obtain ⟨y, ys, e2⟩ : ∃ y ys, xs.toList = y :: ys := by
      cases q : xs.toList with
      | nil =>
        rw [q] at hi
        cases hi
        exact absurd rfl ne
      | cons y ys => exact ⟨y, ys, rfl⟩
    rw [e2] at hi
    subst e
    cases hi with
    | @cons x t _ ns hi =>
      refine ⟨.int x t :: fs, PySem.W.KatTups.cons ho hc hd ?_ h1, by rw [List.length_cons, List.length_cons, h2], fun f hm => ?_⟩
      · have : xs = (Value.int x t :: ys).toArray := by rw [← e2]
        rw [this]; rfl
      · rcases List.mem_cons.mp hm with rfl | hm
        · exact ⟨x, t, rfl⟩
        · exact h3 f hm
theorem tups_sortable {a : Addr} {vs : List Value} {k : Value → List Int} (h0 : 0 < vs.length) (hp : ∀ v ∈ vs, IsTup s.heap v (k v) ∧ k v ≠ []) (ha : ∀ o, s.heap.get? a = some o → o.cls ≠ .type "tuple") : SortableO prog w A s a vs fun v u => lexL (k v) (k u) := by
  intro h' keep
  have hp' : ∀ v ∈ vs, IsTup h' v (k v) ∧ k v ≠ [] := fun v hm => ⟨(hp v hm).1.keeps fun b o e c => keep b o (fun z => by subst z; exact ha o e c) e, (hp v hm).2⟩
  obtain ⟨fs, h1, h2, h3⟩ := firsts_tup hp'
  refine ⟨tuples' true, fun Q E hq => ?_, tup_cmp fun v hm => (hp' v hm).1⟩
  refine PySem.W.kat_kind (T := .type "int") h1 (by omega) (fun f hm => ?_) (by rfl) ?_
  · obtain ⟨x, t, rfl⟩ := h3 f hm
    exact PySem.W.Looks.now
  · have e : (Value.type "int" != Value.type "tuple") = true := by first | decide +kernel | rfl | decide
    rw [e]
    exact hq
theorem sorted_tups {l : Addr} {vs : List Value} {k : Value → List Int} {Q : Value → Shared → Prop} (hl : s.heap.IsList l vs.toArray) (hz : vs.length ≤ sizeLine) (hp : ∀ v ∈ vs, IsTup s.heap v (k v) ∧ k v ≠ [])
    (h : ∀ (h' : Heap) (d : Addr) (out : List Value), Srtd (fun v u => lexL (k v) (k u)) out → Stb (fun v u => lexL (k v) (k u)) out vs → (∀ b o, s.heap.get? b = some o → h'.get? b = some o) → s.heap.objs.size ≤ d → (∃ n, h'.get? d = some (seqObj "list" out.toArray n)) → Q (.ref d) { s with heap := h' }) :
    wpAny (model prog w) A (call (.builtin "sorted") [.ref l]) Q E s := by
  refine sorted_ord (swo_lexL k) hl hz (fun h2 h₁ a ha kk => ?_) fun out hs hb => ?_
  · refine tups_sortable (s := { s with heap := h₁ }) (by omega) (fun v hm => ⟨(hp v hm).1.keeps fun b o e _ => (kk b o e).2, (hp v hm).2⟩) fun o e => ?_
    have e' : some o = some (seqObj "list" vs.toArray 0) := e.symm.trans ha
    cases e'
    intro c
    exact absurd (Value.type.inj c) (by decide)
  · exact h _ _ out hs hb (fun b o e => sortedAll_old e) (Nat.le_succ _) (sortedAll_at s.heap vs out.toArray)
end
end TT
end

section
set_option Elab.async false
set_option linter.all false
set_option maxRecDepth 100000
set_option maxHeartbeats 4000000
/-! SndO: sorted and min of a list of tuples of ints -/
namespace Mi
open PySem PySem.Spec PySem.W PySem.Calls PyProof.Rows L2
/-! ### the order of insT -/
theorem insT_perm {a : List Int} : ∀ {l : List (List Int)}, (insT a l).Perm (a :: l)
  | [] => .refl _
  | b :: r => by
    unfold insT
    split
    · exact (insT_perm.cons b).trans (.swap a b r)
    · exact .refl _
theorem sortT_perm : ∀ {l : List (List Int)}, (sortT l).Perm l
  | [] => .refl _
  | a :: r => insT_perm.trans (sortT_perm.cons a)
theorem insT_srt {a : List Int} : ∀ {l : List (List Int)}, l.Pairwise (fun u v => lexL v u = false) → (insT a l).Pairwise fun u v => lexL v u = false
  | [], _ => List.pairwise_singleton ..
  | b :: r, h => by
    unfold insT
    have h0 := List.pairwise_cons.mp h
    split
    · rename_i c
      refine List.pairwise_cons.mpr ⟨fun x hx => ?_, insT_srt h0.2⟩
      rcases List.mem_cons.mp (insT_perm.mem_iff.mp hx) with rfl | hx
      · exact TT.lexL_asym c
      · exact h0.1 x hx
    · rename_i c
      have c : lexL b a = false := by simpa using c
      refine List.pairwise_cons.mpr ⟨fun x hx => ?_, h⟩
      rcases List.mem_cons.mp hx with rfl | hx
      · exact c
      · exact TT.lexL_tr (h0.1 x hx) c
theorem sortT_srt : ∀ {l : List (List Int)}, (sortT l).Pairwise fun u v => lexL v u = false
  | [] => .nil
  | a :: r => insT_srt sortT_srt
theorem lexL_tot : ∀ {a b : List Int}, lexL a b = false → lexL b a = false → a = b
  | [], [], _, _ => rfl
  | [], _ :: _, h, _ => by cases h
  | _ :: _, [], _, h => by cases h
  | x :: r, y :: t, h1, h2 => by
    unfold lexL at h1 h2
    by_cases e : x = y
    · subst e
      rw [if_pos rfl] at h1 h2
      rw [lexL_tot h1 h2]
    · rw [if_neg e, decide_eq_false_iff_not] at h1
      rw [if_neg (fun z => e z.symm), decide_eq_false_iff_not] at h2
      omega
theorem srtT_uniq : ∀ {l m : List (List Int)}, l.Perm m → l.Pairwise (fun u v => lexL v u = false) → m.Pairwise (fun u v => lexL v u = false) → l = m
  | [], m, p, _, _ => by rw [List.nil_perm] at p; exact p.symm
  | a :: r, [], p, _, _ => absurd p.length_eq (by simp)
  | a :: r, b :: t, p, h1, h2 => by
    have g1 := List.pairwise_cons.mp h1
    have g2 := List.pairwise_cons.mp h2
    have e : a = b := by
      rcases List.mem_cons.mp (p.mem_iff.mp (List.mem_cons_self ..)) with q | q
      · exact q
      · rcases List.mem_cons.mp (p.mem_iff.mpr (List.mem_cons_self ..)) with q2 | q2
        · exact q2.symm
        · exact lexL_tot (g2.1 a q) (g1.1 b q2) |>.symm ▸ rfl
    subst e
    rw [srtT_uniq (List.perm_cons a |>.mp p) g1.2 g2.2]
/-! ### sorted -/
section
variable {X : Cx}
def rSortT (K : PySem.W.Frag) : List V → Hp → VK → Prop := fun us H Q => ∃ (a : Addr) (xs : List V) (ps : List (List Int)), us = [V.ref a] ∧ SqL K H a xs ∧ xs.length = ps.length ∧ (∀ z ∈ xs.zip ps, z.2 ≠ [] ∧ ∃ t, z.1 = V.ref t ∧ SqT K H t (z.2.map V.int)) ∧
  ∀ (zs : List (V × List Int)) p', zs.Perm (xs.zip ps) → zs.Pairwise (fun u v => lexL v.2 u.2 = false) → H p' = none → Q (.ref p') (upd H p' (.lst (zs.map (·.1))))
open Classical in
noncomputable def tupK (K : PySem.W.Frag) (H : Hp) (x : V) : List Int := if h : ∃ (q : List Int) (t : Addr), x = V.ref t ∧ SqT K H t (q.map V.int) then h.choose else []
theorem mapI_inj : ∀ {a b : List Int}, a.map V.int = b.map V.int → a = b
  | [], [], _ => rfl
  | [], _ :: _, h => by cases h
  | _ :: _, [], h => by cases h
  | x :: r, y :: t, h => by
    rw [List.map_cons, List.map_cons] at h
    injection h with h1 h2
    rw [V.int.inj h1, mapI_inj h2]
theorem tupK_eq {pins : List (Addr × PySem.Obj)} {σ : L2.St} {H : Hp} {s : Shared} (I : L2.Inv X pins σ H s) {t : Addr} {q : List Int} (h : SqT X.K H t (q.map V.int)) : tupK X.K H (V.ref t) = q := by
  have ex : ∃ (q : List Int) (t' : Addr), V.ref t = V.ref t' ∧ SqT X.K H t' (q.map V.int) := ⟨q, t, rfl, h⟩
  unfold tupK
  rw [dif_pos ex]
  obtain ⟨t', e, h'⟩ := ex.choose_spec
  cases e
  exact mapI_inj (I.tuple_inj h' h)
def ltT (k : V → List Int) : V → V → Bool := fun v u => lexL (k v) (k u)
theorem cr_sortT : CallR X (.builtin "sorted") (rSortT X.K) := by
  intro pins s σ H us ws Q I r h
  obtain ⟨a, xs, pq, rfl, hs, lz, hz0, q⟩ := h
  let k : V → List Int := tupK X.K H
  have kz : ∀ z ∈ xs.zip pq, k z.1 = z.2 := fun z hz => by
    obtain ⟨_, t, e, ht⟩ := hz0 z hz
    show tupK X.K H z.1 = z.2
    rw [e]
    exact tupK_eq I ht
  have hx : ∀ x ∈ xs, k x ≠ [] ∧ ∃ t, x = V.ref t ∧ SqT X.K H t ((k x).map V.int) := fun x hx => by
    obtain ⟨i, hi, e⟩ := List.mem_iff_getElem.mp hx
    have mz : (x, pq[i]'(by omega)) ∈ xs.zip pq := by
      refine List.mem_iff_getElem.mpr ⟨i, by rw [List.length_zip]; omega, ?_⟩
      rw [List.getElem_zip, e]
    obtain ⟨ne, t, e1, ht⟩ := hz0 _ mz
    have := kz _ mz
    exact ⟨by rw [show k x = _ from this]; exact ne, t, e1, by rw [show k x = _ from this]; exact ht⟩
  obtain ⟨its, rv, hl, hz⟩ := I.list hs
  obtain rfl := Vals.ref1 r
  obtain ⟨e1, e2⟩ := refs_back rv fun x m => let ⟨_, t, e, _⟩ := hx x m; ⟨t, e⟩
  have pr : ∀ v ∈ its, TT.IsTup s.heap v (k (backV v)) ∧ k (backV v) ≠ [] := fun v hv => by
    obtain ⟨t, rfl⟩ := e2 v hv
    have hm : V.ref t ∈ xs := by rw [e1]; exact List.mem_map.mpr ⟨_, hv, rfl⟩
    obtain ⟨ne, t', e, ht⟩ := hx _ hm
    cases e
    obtain ⟨jts, r2, ⟨o, ho, hc, n, hd⟩, _⟩ := I.tuple ht
    exact ⟨⟨t, o, jts.toArray, n, rfl, ho, hc, hd, (show IntsAre jts (k (V.ref t)) from r2.ints)⟩, ne⟩
  refine TT.sorted_tups (k := fun v => k (backV v)) hl.isList (by rw [← rv.length]; exact hz) pr fun h' d out g1 g2 kp hd hn => ?_
  obtain ⟨n, hn⟩ := hn
  have h3 : ∀ u ∈ out, ∃ a, u = Value.ref a := fun u hu => e2 u (g2.perm.mem_iff.mp hu)
  have hb : SrtO.Stb (ltT k) (out.map backV) xs := by
    rw [e1]
    exact SrtO.Stb.map (show SrtO.Swo (ltT k) from ⟨fun _ _ h => TT.lexL_asym h, fun _ _ _ h1 h2 => TT.lexL_tr h2 h1⟩) backV g2
  refine ⟨.ref d, upd H d (.lst (out.map backV)), I.laid (t' := s.toks) kp hd ⟨by rw [hb.len]; exact hz, out, n, L2.vals_back h3, hn⟩, rfl, ?_⟩
  obtain ⟨zs, pz, ez⟩ := perm_lift (·.1) hb.perm (xs.zip pq) (List.map_fst_zip (by omega))
  have sz : SrtO.Srtd (ltT k) (out.map backV) := SrtO.srtd_map g1
  rw [← ez] at sz ⊢
  refine q zs _ pz ?_ (I.hok.fresh hd)
  refine (List.pairwise_map.mp sz).imp_of_mem fun {u v} hu hv h => ?_
  have eu := kz u (pz.mem_iff.mp hu)
  have ev := kz v (pz.mem_iff.mp hv)
  have h : lexL (k v.1) (k u.1) = false := h
  rw [eu, ev] at h
  exact h
/-! ### min -/
def tupD (l : List Int) : PyData := .tuple (l.map .int)
theorem lt_all : ∀ {a b : List Int}, PyProof.Rows.lexLt itemOrd (keyToksAll (a.map .int)) (keyToksAll (b.map .int)) = lexL a b
  | [], [] => lex_irrefl _
  | [], y :: t => by
    show PyProof.Rows.lexLt itemOrd (.inl 0 :: []) (.inl 1 :: _) = true
    exact (lex_diff (O := itemOrd) (by decide)).trans (by decide)
  | x :: r, [] => by
    show PyProof.Rows.lexLt itemOrd (.inl 1 :: _) (.inl 0 :: []) = false
    exact (lex_diff (O := itemOrd) (by decide)).trans (by decide)
  | x :: r, y :: t => by
    have ih := lt_all (a := r) (b := t)
    show PyProof.Rows.lexLt itemOrd (keyToksAll (.int x :: r.map .int)) (keyToksAll (.int y :: t.map .int)) = if x = y then lexL r t else decide (x < y)
    by_cases e : x = y
    · rw [if_pos e, dataLt_all_yes rfl (by subst e; simp [PyData.eqv]), ih]
    · rw [if_neg e, dataLt_all_no rfl (by simp [PyData.eqv, e]), dataLt_int]
theorem lt_tupD {a b : List Int} : dataLt (tupD a) (tupD b) = lexL a b := (dataLt_tuple _ _).trans lt_all
theorem minD_tup {r : List (List Int)} : ∀ {a : List Int}, minD (tupD a) (r.map tupD) = tupD (minL' a r) := by
  unfold minD minL'
  induction r with
  | nil => intro a; rfl
  | cons b r ih =>
    intro a
    rw [List.map_cons, List.foldl_cons, List.foldl_cons, ← ih]
    congr 1
    rw [lt_tupD]
    split <;> rfl
def rMinT (K : PySem.W.Frag) : List V → Hp → VK → Prop := fun us H Q => ∃ (a : Addr) (xs : List V) (l : List Int) (ls : List (List Int)), us = [V.ref a] ∧ SqL K H a xs ∧ xs.length = (l :: ls).length ∧ (∀ z ∈ xs.zip (l :: ls), ∃ t, z.1 = V.ref t ∧ SqT K H t (z.2.map V.int)) ∧
  ∀ z ∈ xs.zip (l :: ls), z.2 = minL' l ls → Q z.1 H
theorem reads_ints {h : Heap} : ∀ {us : List Value} {l : List Int}, IntsAre us l → ReadsAll h us (l.map .int) []
  | [], _, .nil => .nil
  | _ :: _, _, .cons n t r => .cons (as := []) (.int n t) (reads_ints r)
theorem reads_tup {h : Heap} {v : Value} {l : List Int} (p : TT.IsTup h v l) : Reads h v (tupD l) [] := by
  obtain ⟨a, o, xs, n, rfl, ho, hc, hd, hi⟩ := p
  exact .tuple ho hc hd (reads_ints hi)
theorem reads_tups {h : Heap} : ∀ {vs : List Value} {ls : List (List Int)}, vs.length = ls.length → (∀ z ∈ vs.zip ls, TT.IsTup h z.1 z.2) → ReadsAll h vs (ls.map tupD) []
  | [], [], _, _ => .nil
  | [], _ :: _, e, _ => by cases e
  | _ :: _, [], e, _ => by cases e
  | v :: vs, l :: ls, e, hp => .cons (as := []) (reads_tup (hp (v, l) (by simp))) (reads_tups (by simpa using e) fun z hz => hp z (by rw [List.zip_cons_cons]; exact List.mem_cons_of_mem _ hz))
theorem depth_ints : ∀ {l : List Int}, PyData.depthAll (l.map .int) = 0
  | [] => rfl
  | x :: r => by
    show max (PyData.depth (.int x)) (PyData.depthAll (r.map .int)) = 0
    rw [depth_ints]; rfl
theorem depth_tups : ∀ {ls : List (List Int)}, PyData.depthAll (ls.map tupD) ≤ 1
  | [] => Nat.zero_le _
  | l :: r => by
    show max (PyData.depth (tupD l)) (PyData.depthAll (r.map tupD)) ≤ 1
    have h1 : PyData.depth (tupD l) ≤ 1 := by
      show PyData.depthAll (l.map .int) + 1 ≤ 1
      rw [depth_ints]; omega
    have h2 := depth_tups (ls := r)
    omega
theorem tupD_inj {a b : List Int} (h : tupD a = tupD b) : a = b := by
  have h : a.map PyData.int = b.map PyData.int := PyData.tuple.inj h
  induction a generalizing b with
  | nil => cases b with
    | nil => rfl
    | cons y t => cases h
  | cons x r ih => cases b with
    | nil => cases h
    | cons y t =>
      rw [List.map_cons, List.map_cons] at h
      injection h with h1 h2
      rw [PyData.int.inj h1, ih (b := t) (by unfold tupD; rw [h2]) h2]
theorem alike_tups {ls : List (List Int)} : AlikeAll (ls.map tupD) := by
  refine ⟨fun x hx y hy => ?_, fun x hx e => ?_⟩
  · obtain ⟨a, _, rfl⟩ := List.mem_map.mp hx
    obtain ⟨b, _, rfl⟩ := List.mem_map.mp hy
    exact alike_ints a b
  · obtain ⟨a, _, rfl⟩ := List.mem_map.mp hx
    cases e
theorem cr_minT (hc : X.calm = true) (hu : X.A.units + 2 < cLine) : CallR X (.builtin "min") (rMinT X.K) := by
  intro pins s σ H us ws Q I r h
  obtain ⟨a, xs, l, ls, rfl, hs, lz, hz0, q⟩ := h
  obtain ⟨its, rv, hl, hz⟩ := I.list hs
  obtain rfl := Vals.ref1 r
  have lv : its.length = (l :: ls).length := by rw [← rv.length]; exact lz
  have at_ : ∀ i (hi : i < its.length), ∃ t, its[i] = Value.ref t ∧ xs[i]'(by rw [rv.length]; exact hi) = V.ref t ∧ SqT X.K H t (((l :: ls)[i]'(by omega)).map V.int) := fun i hi => by
    have hx : i < xs.length := by rw [rv.length]; exact hi
    have mz : (xs[i], (l :: ls)[i]'(by omega)) ∈ xs.zip (l :: ls) := by
      refine List.mem_iff_getElem.mpr ⟨i, by rw [List.length_zip]; omega, ?_⟩
      rw [List.getElem_zip]
    obtain ⟨t, e1, ht⟩ := hz0 _ mz
    have e1 : xs[i] = V.ref t := e1
    obtain ⟨u, hu1, hu2⟩ := rv.get (List.getElem?_eq_getElem hx)
    rw [List.getElem?_eq_getElem hi] at hu1
    cases hu1
    rw [e1] at hu2
    exact ⟨t, hu2, e1, ht⟩
  have tp : ∀ z ∈ its.zip (l :: ls), TT.IsTup s.heap z.1 z.2 := fun z hz => by
    obtain ⟨i, hi, e⟩ := List.mem_iff_getElem.mp hz
    rw [List.getElem_zip] at e
    have hi' : i < its.length := by rw [List.length_zip] at hi; omega
    obtain ⟨t, e1, _, ht⟩ := at_ i hi'
    obtain ⟨jts, r2, ⟨o, ho, hcl, n, hd⟩, _⟩ := I.tuple ht
    rw [← e]
    exact ⟨t, o, jts.toArray, n, e1, ho, hcl, hd, (show IntsAre jts _ from r2.ints)⟩
  have rd : ReadsAll s.heap its.toArray.toList (tupD l :: ls.map tupD) [] := reads_tups (ls := l :: ls) lv tp
  refine min_list_data (I.ok.hd hc) hl.isList rd (alike_tups (ls := l :: ls)) (by
    have := depth_tups (ls := l :: ls)
    show X.A.units + 1 + PyData.depthAll ((l :: ls).map tupD) < cLine
    omega) fun i v h' tk bs hv rm k => ?_
  have hv : its[i]? = some v := by simpa using hv
  obtain ⟨hi, ev⟩ := List.getElem?_eq_some_iff.mp hv
  obtain ⟨t, e1, e2, ht⟩ := at_ i hi
  have hx : i < xs.length := by rw [rv.length]; exact hi
  have mz : (xs[i], (l :: ls)[i]'(by omega)) ∈ xs.zip (l :: ls) := by
    refine List.mem_iff_getElem.mpr ⟨i, by rw [List.length_zip]; omega, ?_⟩
    rw [List.getElem_zip]
  have mi : (its[i], (l :: ls)[i]'(by omega)) ∈ its.zip (l :: ls) := by
    refine List.mem_iff_getElem.mpr ⟨i, by rw [List.length_zip]; omega, ?_⟩
    rw [List.getElem_zip]
  have r0 := reads_tup ((tp _ mi).keeps fun b o e _ => k b o e)
  rw [minD_tup] at rm
  have r0 : Reads h' v (tupD ((l :: ls)[i]'(by omega))) [] := by rw [← ev]; exact r0
  have eq := alike_unique (tupD _) (tupD _) _ _ _ (alike_ints _ _) r0 rm
  refine ⟨xs[i], H, I.kept k, ?_, q _ mz (tupD_inj eq)⟩
  rw [e2, ← ev, e1]
  exact rfl
end
/-! ### the rules -/
theorem tupsI_of : ∀ {xs : List PV} {l : List (List Int)}, tupsI xs = some l → xs = l.map tupL
  | [], l, h => by cases h; rfl
  | x :: r, l, h => by
    cases x with
    | tup ys =>
      obtain ⟨q, e1, e2⟩ := Option.bind_eq_some_iff.mp (show (intsP ys).bind (fun l => (tupsI r).map (l :: ·)) = some l from h)
      obtain ⟨t, e3, e4⟩ := Option.map_eq_some_iff.mp e2
      subst e4
      rw [tupsI_of e3, intsP_eq e1]
      rfl
    | _ => cases h
section
variable {K : PySem.W.Frag} {fa : Nat → Addr} {es : List (Addr × Nat × Option Addr)} {μ : Mu} {H : Hp}
theorem RVs.zip_memT : ∀ {l : List (List Int)} {vs : List V}, RVs K fa es μ H (l.map tupL) vs → ∀ z ∈ vs.zip l, RV K fa es μ H (tupL z.2) z.1
  | [], _, .nil, z, hz => by simp at hz
  | q :: l, _, .cons r rs, z, hz => by
    rw [List.zip_cons_cons] at hz
    rcases List.mem_cons.mp hz with e | hz
    · rw [e]; exact r
    · exact RVs.zip_memT rs z hz
theorem rvs_ofT : ∀ {zs : List (V × List Int)}, (∀ z ∈ zs, RV K fa es μ H (tupL z.2) z.1) → RVs K fa es μ H ((zs.map (·.2)).map tupL) (zs.map (·.1))
  | [], _ => .nil
  | z :: zs, h => .cons (h z (by simp)) (rvs_ofT fun y hy => h y (by simp [hy]))
end
section
variable {X : Cx} {p : Pk} {cy : Cy} {es : List (Addr × Nat × Option Addr)} {W : WX} {a : Expr} {pos pp : Pos} {l : E}
theorem snd_srtt (g : Good X p cy es W) {x : Str} (hx0 : x = "sorted") (hx : globB cy x = true) (pl : plainE a = true) (ha : PE X a (RdE X p es W l)) : PE X (.Call (.Name x pp) [a] [] pos) (RdF X p es W (.srtt l)) := by
  subst hx0
  obtain ⟨h1, h2, h3, _⟩ := badName_of hx
  have hm : X.mg "sorted" = none := g.blt _ (by decide)
  refine (pe_callB cr_sortT (g.glob hx) hm (by decide +kernel) (pa_one pl ha) h3 h1 (plain_star pl _ _)).imp fun s H Q ⟨B, b, σ, h, μ, st, q⟩ => ?_
  unfold evF at q
  refine seqE st q fun x h1 μ1 H1 v l1 st1 rx q1 => ?_
  obtain ⟨z, ez, _⟩ := Post.of q1
  unfold srttV at ez
  by_cases nt : ∃ ys, x = .tup ys
  · obtain ⟨ys, rfl⟩ := nt
    cases ez
  · have nt : ∀ ys, x ≠ .tup ys := fun ys e => nt ⟨ys, e⟩
    have ez' : ((items h1 x).bind fun xs => (tupsI xs).bind fun l => if l.all fun r => !r.isEmpty then some ((sortT l).map tupL) else none) = some z := by
      cases x <;> first | exact ez | exact absurd rfl (nt _)
    obtain ⟨xs, e, ez'⟩ := Option.bind_eq_some_iff.mp ez'
    obtain ⟨ns, e1, ez'⟩ := Option.bind_eq_some_iff.mp ez'
    split at ez'
    · rename_i ne
      cases ez'
      obtain ⟨ad, vs, rfl, sq, r⟩ := list_of st1.hr rx nt e
      have rv : RVs X.K p.fa es μ1 H1 (ns.map tupL) vs := by rw [← tupsI_of e1]; exact r
      have ln : vs.length = ns.length := by
        have := rv.length
        rw [List.length_map] at this
        exact this.symm
      refine ⟨ad, vs, ns, rfl, sq, ln, fun z hz => ?_, fun zs p' pz sz hp' => ?_⟩
      · refine ⟨fun e0 => ?_, ?_⟩
        · have := List.all_eq_true.mp ne z.2 (List.of_mem_zip hz).2
          rw [e0] at this
          cases this
        · exact RV.tupIs (l := z.2) (rv.zip_memT z hz)
      · have es' : zs.map (·.2) = sortT ns := by
          refine srtT_uniq ?_ (List.pairwise_map.mpr sz) sortT_srt
          have := pz.map (·.2)
          rw [List.map_snd_zip (by omega)] at this
          exact this.trans sortT_perm.symm
        have rz := rvs_ofT fun z hz => rv.zip_memT z (pz.mem_iff.mp hz)
        rw [es'] at rz
        have q2 : Post X.K p.fa B μ1 H1 (R.of (some ((sortT ns).map tupL)) h1) (KF X p es H Q) (XW p W s) := by
          have e3 : srttV h1 x = some ((sortT ns).map tupL) := ez
          rw [← e3]
          exact q1
        exact post_lst l1 st1.hr hp' rz q2
    · cases ez'
theorem snd_mint (g : Good X p cy es W) (hc : cy.calm = true) {x : Str} (hx0 : x = "min") (hx : globB cy x = true) (pl : plainE a = true) (ha : PE X a (RdE X p es W l)) : PE X (.Call (.Name x pp) [a] [] pos) (RdE X p es W (.mint l)) := by
  subst hx0
  obtain ⟨h1, h2, h3, _⟩ := badName_of hx
  have hm : X.mg "min" = none := g.blt _ (by decide)
  refine (pe_callB (cr_minT (g.calm hc).1 (by have := g.un; omega)) (g.glob hx) hm (by decide +kernel) (pa_one pl ha) h3 h1 (plain_star pl _ _)).imp fun s H Q ⟨B, b, σ, h, μ, st, q⟩ => ?_
  unfold evE at q
  refine seqE st q fun x h1 μ1 H1 v l1 st1 rx q1 => ?_
  obtain ⟨z, ez, kz⟩ := Post.of q1
  unfold mintV at ez
  by_cases nt : ∃ ys, x = .tup ys
  · obtain ⟨ys, rfl⟩ := nt
    cases ez
  · have nt : ∀ ys, x ≠ .tup ys := fun ys e => nt ⟨ys, e⟩
    have ez' : ((items h1 x).bind fun xs => (tupsI xs).bind fun l => match l with
      | [] => none
      | a :: r => some (tupL (minL' a r))) = some z := by
      cases x <;> first | exact ez | exact absurd rfl (nt _)
    obtain ⟨xs, e, ez'⟩ := Option.bind_eq_some_iff.mp ez'
    obtain ⟨ns, e1, ez'⟩ := Option.bind_eq_some_iff.mp ez'
    cases ns with
    | nil => cases ez'
    | cons n0 ns =>
      cases ez'
      obtain ⟨ad, vs, rfl, sq, r⟩ := list_of st1.hr rx nt e
      have rv : RVs X.K p.fa es μ1 H1 ((n0 :: ns).map tupL) vs := by rw [← tupsI_of e1]; exact r
      have ln : vs.length = (n0 :: ns).length := by
        have := rv.length
        rw [List.length_map] at this
        exact this.symm
      refine ⟨ad, vs, n0, ns, rfl, sq, ln, fun z hz => RV.tupIs (l := z.2) (rv.zip_memT z hz), fun z hz ez2 => ?_⟩
      have rr := rv.zip_memT z hz
      refine kz μ1 H1 .refl st1.hr z.1 ?_
      rw [← ez2]
      exact rr
end
end Mi
end

section
set_option Elab.async false
set_option linter.all false
set_option maxRecDepth 100000
set_option maxHeartbeats 4000000
/-! SnT: len(set(list of nested tuples of ints)) where all hashes differ: the table's road is reckoned -/
namespace Mi
open PySem PySem.Spec PySem.W PySem.Calls PyProof.Rows L2
mutual
/-- hash of a key of ints -/
def hsN : NestedKey → Int
  | .none => 0
  | .num i => hashInt i
  | .text _ => 0
  | .tup ks => reduceHash (Builtin.Tuple.tupleHashOf (hsNs ks))
def hsNs : List NestedKey → List Int
  | [] => []
  | k :: ks => hsN k :: hsNs ks
end
mutual
def onlyI : NestedKey → Bool
  | .none => false
  | .num _ => true
  | .text _ => false
  | .tup ks => onlyIs ks
def onlyIs : List NestedKey → Bool
  | [] => true
  | k :: ks => onlyI k && onlyIs ks
end
mutual
theorem hsN_eq {w : World} : ∀ k : NestedKey, onlyI k = true → NestedKey.hash w k = hsN k
  | .none, h => by cases h
  | .num i, _ => rfl
  | .text _, h => by cases h
  | .tup ks, h => by
    unfold NestedKey.hash hsN
    rw [hsNs_eq ks h]
theorem hsNs_eq {w : World} : ∀ ks : List NestedKey, onlyIs ks = true → NestedKey.hashes w ks = hsNs ks
  | [], _ => rfl
  | k :: ks, h => by
    unfold onlyIs at h
    have h := Bool.and_eq_true_iff.mp h
    unfold NestedKey.hashes hsNs
    rw [hsN_eq k h.1, hsNs_eq ks h.2]
end
/-- one hash more in the table: none if a hash is met twice or the table is odd -/
def simStep (H : Array Int) (t : SetTable) (h : Int) : Option (Array Int × SetTable) :=
  if t.gaveWay || !t.fits H.size || !t.plain || decide (4000 ≤ H.size) then none else
  match t.probe (fun i => (H[i]?).getD 0) h (t.probeStart h) with
  | some (.empty j none) =>
    if (t.put j).1.tooFull then
      if !(t.put j).1.fits (SetTable.insertAt H (t.put j).2 h).size || decide (SetTable.sizeAbove (SetTable.grown (H.size + 1)) > 4096) then none else
      match (t.put j).1.relaid (SetTable.insertAt H (t.put j).2 h) (SetTable.grown (H.size + 1)) with
      | some (t2, order) =>
        if (order.filterMap ((SetTable.insertAt H (t.put j).2 h)[·]?)).size = (SetTable.insertAt H (t.put j).2 h).size then some (order.filterMap ((SetTable.insertAt H (t.put j).2 h)[·]?), t2) else none
      | none => none
    else some (SetTable.insertAt H (t.put j).2 h, (t.put j).1)
  | _ => none
def simAll : List Int → Array Int → SetTable → Option (Array Int × SetTable)
  | [], H, t => if t.fits H.size then some (H, t) else none
  | h :: r, H, t => match simStep H t h with
    | some (H', t') => simAll r H' t'
    | none => none
theorem ins_map (es : Array (Int × Value)) (p : Nat) (h : Int) (x : Value) : (SetTable.insertAt es p (h, x)).map (·.1) = SetTable.insertAt (es.map (·.1)) p h := by
  apply Array.toList_inj.mp
  rw [Array.toList_map, SetTable.toList_insertAt, SetTable.toList_insertAt, Array.toList_map, List.map_append, List.map_cons, List.map_take, List.map_drop]
theorem ord_map (order : Array Nat) (es : Array (Int × Value)) : (order.filterMap (es[·]?)).map (·.1) = order.filterMap ((es.map (·.1))[·]?) := by
  rw [Array.map_filterMap]
  congr 1
  funext i
  rw [Array.getElem?_map]
section
variable {P : Program} {w : World} {A : Around} {E : Value → Shared → Prop} {s : Shared}
mutual
/-- a key of ints is hashed by value -/
theorem byV : ∀ (k : NestedKey) (v : Value) (n : Nat) (s : Shared) (A : Around) (Q : Bool → Shared → Prop), NestedIs s.heap k v → onlyI k = true → k.depth ≤ n → Q true s → wpAny (model P w) A (hashByValue n v) Q E s
  | .none, _, _, _, _, _, _, h, _, _ => by cases h
  | .text _, _, _, _, _, _, _, h, _, _ => by cases h
  | .num i, _, n, s, A, Q, x, _, _, q => by
    cases x with
    | bool e => cases n <;> exact wpAny_pure q
    | int _ t => cases n <;> exact wpAny_pure q
  | .tup ks, _, n, s, A, Q, x, h, hn, q => by
    cases x with
    | @tup a o vs m _ hg hc hd hk =>
      simp only [NestedKey.depth] at hn
      cases n with
      | zero => omega
      | succ n =>
        unfold hashByValue
        refine wpAny_bind (wpAny_specialOf (⟨o, hg, hc⟩ : s.TypeIs (.ref a) "tuple") F.slot_tuple_hash.lookup ?_)
        show wpAny _ _ (seqItems? (.ref a) >>= _) _ _ s
        refine wpAny_bind (wpAny_seqItems hg hd ?_)
        refine wpAny_bind ?_
        show wpAny _ _ (forIn vs _ _) _ _ s
        rw [← Array.forIn_toList]
        refine wpAny_forIn_list _ (fun left r s' => r.1 = none ∧ s' = s ∧ ∀ v ∈ left, ∀ (A : Around) (Q : Bool → Shared → Prop), Q true s → wpAny (model P w) A (hashByValue n v) Q E s) _ ?_ ?_ _ _ ⟨rfl, rfl, byVs ks _ n s hk h (by omega)⟩
        · rintro v left r s' ⟨hr, rfl, al⟩
          refine wpAny_bind (al v List.mem_cons_self _ _ ?_)
          simp only [Bool.not_true, Bool.false_eq_true, if_false]
          exact wpAny_pure ⟨rfl, rfl, fun u hu => al u (List.mem_cons_of_mem _ hu)⟩
        · rintro ⟨r1, r2⟩ s' ⟨hr, rfl, _⟩
          simp only at hr
          subst hr
          exact wpAny_pure q
theorem byVs : ∀ (ks : List NestedKey) (vs : List Value) (n : Nat) (s : Shared), NestedAll s.heap ks vs → onlyIs ks = true → NestedKey.depthAll ks ≤ n → ∀ v ∈ vs, ∀ (A : Around) (Q : Bool → Shared → Prop), Q true s → wpAny (model P w) A (hashByValue n v) Q E s
  | [], _, _, _, x, _, _, v, hv => by cases x; cases hv
  | k :: ks, _, n, s, x, h, hn, v, hv => by
    cases x with
    | cons x1 x2 =>
      unfold onlyIs at h
      have h := Bool.and_eq_true_iff.mp h
      simp only [NestedKey.depthAll] at hn
      rcases List.mem_cons.mp hv with e | hv
      · intro A Q q
        rw [e]
        exact byV k _ n s A Q x1 h.1 (by omega) q
      · exact byVs ks _ n s x2 h.2 (by omega) v hv
end
/-- the set with these hashes in this table -/
def SimR (h : Heap) (a : Addr) (H : Array Int) (t : SetTable) : Prop := ∃ o es ep, h.get? a = some o ∧ o.ExactSet ∧ o.data = .set es ep t ∧ es.map (·.1) = H
theorem SimR.at {h h' : Heap} {a : Addr} {H : Array Int} {t : SetTable} (r : SimR h a H t) (k : ∀ o, h.get? a = some o → h'.get? a = some o) : SimR h' a H t := by
  obtain ⟨o, es, ep, h1, h2⟩ := r
  exact ⟨o, es, ep, k o h1, h2⟩
theorem simAdd {a b : Addr} {k : NestedKey} {h : Int} {H H' : Array Int} {t t' : SetTable} (R : SimR s.heap a H t) (hx : NestedIs s.heap k (.ref b)) (ho : onlyI k = true) (hd : k.depth ≤ 8) (sm : simStep H t h = some (H', t')) {Q : Bool → Shared → Prop}
    (hQ : ∀ h', Heap.SameBut a s.heap h' → SimR h' a H' t' → Q true { s with heap := h' }) : wpAny (model P w) A (setAddHashed a (.ref b) h) Q E s := by
  obtain ⟨o, es, ep, og, ox, od, rfl⟩ := R
  unfold simStep at sm
  split at sm
  · cases sm
  rename_i c
  rw [Array.size_map] at c
  simp only [Bool.or_eq_true, Bool.not_eq_true', not_or, Bool.not_eq_true, Bool.not_eq_false, decide_eq_true_eq, Nat.not_le, decide_eq_false_iff_not] at c
  obtain ⟨⟨⟨c1, c2⟩, c3⟩, c4⟩ := c
  have pe : (fun i : Nat => ((es.map (fun e : Int × Value => e.1))[i]?).getD 0) = (fun i : Nat => (es[i]?.map (fun e : Int × Value => e.1)).getD 0) := by
    funext i
    rw [Array.getElem?_map]
  rw [pe] at sm
  split at sm
  rotate_left
  · cases sm
  rename_i j pr
  have e4000 : es.size < 4000 := by simpa using c4
  unfold setAddHashed
  refine wpAny_holding ?_
  rw [show (100000 : Nat) = 99999 + 1 from rfl, setAddHashedIn_succ]
  refine wpAny_bind (wpAny_setState_of og od c2 ?_)
  dsimp only
  refine wp_if_neg (by simp [byScan, Value.scannable]) ?_
  try refine wpAny_bind (wpAny_pure ?_)
  unfold setSearch
  rw [show (100000 : Nat) = 99999 + 1 from rfl, setSearchFrom_succ]
  refine wpAny_bind ?_
  refine wpAny_bind (wpAny_setState_of og od c2 ?_)
  dsimp only
  refine wp_if_neg (by simp [c1]) ?_
  try refine wpAny_bind (wpAny_pure ?_)
  rw [show (none : Option SetTable.Probe).getD (t.probeStart h) = t.probeStart h from rfl, pr]
  dsimp only
  refine wpAny_pure ?_
  dsimp only
  refine wpAny_bind (wpAny_setState_of og od c2 ?_)
  dsimp only
  have q1 : (t.put j).1.plain = true := c3
  generalize hp : t.put j = pt at sm q1 ⊢
  obtain ⟨t1, p⟩ := pt
  dsimp only at sm q1 ⊢
  first
    | (refine wpAny_bind ?_; refine wp_if_pos q1 ?_; refine byV k _ 8 s _ _ hx ho hd ?_)
    | refine wp_if_pos q1 (wpAny_bind (byV k _ 8 s _ _ hx ho hd ?_))
  simp only [if_true]
  have im := ins_map es p h (.ref b)
  have isz : (SetTable.insertAt es p (h, Value.ref b)).size = (SetTable.insertAt (es.map (·.1)) p h).size := by rw [← im, Array.size_map]
  have il : (SetTable.insertAt es p (h, Value.ref b)).size ≤ es.size + 1 := by
    have e1 := congrArg List.length (SetTable.toList_insertAt es p (h, Value.ref b))
    rw [Array.length_toList] at e1
    rw [e1]
    simp only [List.length_append, List.length_cons, List.length_take, List.length_drop, Array.length_toList]
    omega
  rw [← im, Array.size_map, Array.size_map] at sm
  generalize SetTable.insertAt es p (h, Value.ref b) = es1 at sm il ⊢
  refine wpAny_bind (wpAny_storeSet_of og od ?_ (by rw [sizeLine_eq]; omega))
  have sb : Heap.SameBut a s.heap (s.heap.update a (Obj.putSet es1 t1)) := Heap.SameBut.update ..
  have o1 := store_at (es' := es1) (t' := t1) og od
  generalize s.heap.update a (Obj.putSet es1 t1) = h1 at sb o1 ⊢
  by_cases hf : t1.tooFull = true
  · rw [if_pos hf] at sm
    split at sm
    · cases sm
    rename_i d
    simp only [Bool.or_eq_true, Bool.not_eq_true', not_or, Bool.not_eq_false, decide_eq_true_eq, Nat.not_lt] at d
    obtain ⟨d1, d2⟩ := d
    split at sm
    rotate_left
    · cases sm
    rename_i t2 order rl
    split at sm
    rotate_left
    · cases sm
    rename_i sz
    rw [← ord_map, Array.size_map] at sz
    rw [← ord_map] at sm
    cases sm
    first
      | (refine wpAny_bind ?_; refine wp_if_pos (by simp [hf]) ?_)
      | (refine wp_if_pos (by simp [hf]) ?_; refine wpAny_bind ?_)
    rw [setRelay_eq]
    refine wpAny_bind (wpAny_setState_of (s := { s with heap := h1 }) o1 rfl (by simpa using d1) ?_)
    dsimp only
    refine wp_if_neg (by rw [sizeLine_eq]; omega) ?_
    try refine wpAny_bind (wpAny_pure ?_)
    rw [rl]
    dsimp only
    refine wpAny_bind ?_
    refine wp_if_neg (by rw [sz]; simp) ?_
    try refine wpAny_bind (wpAny_pure ?_)
    refine wpAny_pure ?_
    dsimp only
    refine wpAny_storeSet_of (s := { s with heap := h1 }) o1 rfl ?_ (by rw [sz, sizeLine_eq]; omega)
    have sb2 : Heap.SameBut a h1 (h1.update a (Obj.putSet (order.filterMap (es1[·]?)) t')) := Heap.SameBut.update ..
    have o2 := store_at (es' := order.filterMap (es1[·]?)) (t' := t') o1 rfl
    exact wpAny_pure (hQ _ (sb.trans sb2) ⟨_, _, _, o2, ⟨ox.1, ox.2.1, ox.2.2⟩, rfl, rfl⟩)
  · rw [if_neg hf] at sm
    cases sm
    first
      | refine wp_if_neg (by simp [hf]) ?_
      | (refine wpAny_bind ?_; refine wp_if_neg (by simp [hf]) ?_; refine wpAny_pure ?_)
    exact wpAny_pure (hQ h1 sb ⟨_, _, _, o1, ⟨ox.1, ox.2.1, ox.2.2⟩, rfl, rfl⟩)
end
end Mi
end

section
set_option Elab.async false
set_option linter.all false
set_option maxRecDepth 100000
set_option maxHeartbeats 4000000
/-! SnT2: set(list of nested tuples), its length -/
namespace Mi
open PySem PySem.Spec PySem.W PySem.Calls PyProof.Rows L2
section
variable {P : Program} {w : World} {A : Around} {E : Value → Shared → Prop} {s : Shared}
/-- keys of ints at these places -/
def NKs (h : Heap) (ks : List (Addr × NestedKey)) : Prop := ∀ p ∈ ks, NestedIs h p.2 (.ref p.1) ∧ onlyI p.2 = true ∧ p.2.depth ≤ 8
theorem set_update_nest {I : Addr} {fp wr : List Addr} {G : Array GenState → Array GenState → Prop} {n : Nat} {Pv : Nat → Value → Prop} {St : Nat → Shared → Prop} {R : Result → Shared → Prop}
    (Wk : WalksS P w A.in1 I fp wr G n Pv St) (S : Addr) (hS : S ∉ fp) (ks : List (Addr × NestedKey)) (hn : n = ks.length) (vl : ∀ i v, Pv i v → ∃ p, ks[i]? = some p ∧ v = .ref p.1)
    (g0 : Heap) (nk : NKs g0 ks) (g0S : g0.get? S = none) (g0w : ∀ b ∈ wr, g0.get? b = none) (hu : A.in1.units + 8 < cLine) (Hf : Array Int) (tf : SetTable) :
    ∀ (left i : Nat) (s : Shared) (H : Array Int) (t : SetTable), n - i = left → i ≤ n → St i s → (∀ b o, g0.get? b = some o → s.heap.get? b = some o) → SimR s.heap S H t → simAll ((ks.drop i).map fun p => hsN p.2) H t = some (Hf, tf) →
      (∀ s', Moved (S :: wr) G s s' → SimR s'.heap S Hf tf → tf.fits Hf.size = true → R (.ok (.ret .none)) s') →
      codeAny (model P w) A (.builtin "set.update.loop" ⟨[.ref S, .ref I], []⟩) R s := by
  have nSw : S ∉ wr := fun h => hS (Wk.sub _ h)
  have up : ∀ b ∈ wr, b ∈ S :: wr := fun b hb => List.mem_cons_of_mem _ hb
  have mv : ∀ {s s' : Shared}, Moved wr G s s' → (∀ b o, g0.get? b = some o → s.heap.get? b = some o) → ∀ b o, g0.get? b = some o → s'.heap.get? b = some o := fun hm k b o e =>
    hm.heap b o (fun hb => by rw [g0w b hb] at e; cases e) (k b o e)
  intro left
  induction left with
  | zero =>
    intro i s H t hl hi st kp sr sm fin
    obtain rfl : i = n := by omega
    refine codeAny_builtin F.entry_set_update_loop ?_
    rw [Around.under_plainId F.plain_set_update_loop _]
    show wpAny _ A.in1 (pyNext (.ref I) >>= _) _ _ s
    refine wpAny_bind (Wk.done s _ _ st fun s' hm => ?_)
    show wpAny _ A.in1 (ret Value.none) _ _ s'
    rw [List.drop_eq_nil_of_le (by omega)] at sm
    simp only [List.map_nil, simAll] at sm
    split at sm
    · rename_i ft
      cases sm
      exact wpAny_pure (fin s' (hm.mono up) (sr.at fun o e => hm.heap S o nSw e) ft)
    · cases sm
  | succ left ih =>
    intro i s H t hl hi st kp sr sm fin
    have lt : i < n := by omega
    refine codeAny_builtin F.entry_set_update_loop ?_
    rw [Around.under_plainId F.plain_set_update_loop _]
    show wpAny _ A.in1 (pyNext (.ref I) >>= _) _ _ s
    refine wpAny_bind (Wk.item i s _ _ lt st fun v s' pv st' hm => ?_)
    obtain ⟨p, ip, rfl⟩ := vl i v pv
    have kp' := mv hm kp
    have sr' : SimR s'.heap S H t := sr.at fun o e => hm.heap S o nSw e
    obtain ⟨n1, n2, n3⟩ := nk p (List.mem_of_getElem? ip)
    have n1' : NestedIs s'.heap p.2 (.ref p.1) := NestedIs.at (fun a o vs m e _ => kp' a o e) _ _ n1
    obtain ⟨il, ie⟩ := List.getElem?_eq_some_iff.mp ip
    rw [List.drop_eq_getElem_cons il, ie, List.map_cons] at sm
    unfold simAll at sm
    split at sm
    rotate_left
    · cases sm
    rename_i H' t' ss
    show wpAny _ A.in1 (holding [Value.ref p.1] (setAdd S (.ref p.1)) >>= _) _ _ s'
    refine wpAny_bind (wpAny_holding ?_)
    unfold setAdd
    refine wpAny_holding ?_
    refine wpAny_bind (pyHash_key p.2 _ _ _ _ n1' (by omega) ?_)
    rw [hsN_eq p.2 n2]
    refine simAdd (s := { s' with toks := s'.toks + p.2.draws }) sr' n1' n2 n3 ss fun h' sb sr2 => ?_
    refine wpAny_pure ⟨plainId_quiet F.plain_set_update_loop _, ih (i + 1) _ H' t' (by omega) lt (Wk.frame _ s' _ _ st' (Nat.le_add_right _ _) fun b hb o e => ?_) (fun b o e => ?_) sr2 sm fun s2 hm2 sr3 ft => ?_⟩
    · rw [sb.2 b (fun z : b = S => hS (by rw [← z]; exact hb))]; exact e
    · exact (sb.2 b (fun z => by rw [z, g0S] at e; cases e)).trans (kp' b o e)
    · refine fin s2 (Moved.trans Wk.gtrans ((hm.mono up).then_heap (Nat.le_add_right _ _) fun b o hb e => ?_) hm2) sr3 ft
      rw [sb.2 b (fun z : b = S => hb (by rw [z]; exact List.mem_cons_self))]; exact e
set_option maxRecDepth 100000 in
set_option maxHeartbeats 3200000 in
theorem set_lstN {l : Addr} {items : Array Value} (ks : List (Addr × NestedKey)) (m : Nat) {Q : Value → Shared → Prop} (hh : A.handled = none) (hl : s.heap.IsList l items) (hit : items.toList = ks.map fun p => Value.ref p.1)
    (nk : NKs s.heap ks) (hu : A.units + 12 < cLine) (sm : ∀ b : Bool, ∃ H t, simAll (ks.map fun p => hsN p.2) #[] (.fresh 0 0 b) = some (H, t) ∧ H.size = m)
    (h : ∀ (h' : Heap) (tk : Nat) H t, SimR h' s.heap.objs.size H t → t.fits H.size = true → H.size = m → (∀ b o, s.heap.get? b = some o → h'.get? b = some o) → Q (.ref s.heap.objs.size) { s with heap := h', toks := tk }) :
    wpAny (model P w) A (call (.type "set") [.ref l]) Q E s := by
  have size : items.size = ks.length := by rw [← Array.length_toList, hit, List.length_map]
  obtain ⟨c, tl, hmro⟩ := F.called_set.mro
  have hmade := F.called_set.made
  have hsub := F.called_set.sub
  refine wpAny_call (codeAny_of_tree ?_)
  show wpAny _ _ (callAny (.type "set") _) _ _ _
  refine wpAny_pure ⟨Code.quiet_builtin _ (by decide +kernel), codeAny_builtin F.entry_type_call ?_⟩
  rw [Around.under_plain (weight_type_call_type "set" [.ref l] []) rfl]
  have h1 := F.called_set.notType
  have h2 := F.called_set.canCreate
  have hct := F.typeCall_set_1 (.ref l)
  repeat (any_goals (first | assumption | wp_step))
  refine codeAny_mono (code_set_led1 (.ref l) (E := E) (Q₁ := fun obj t => obj = .ref s.heap.objs.size ∧ t = { s with heap := s.heap.push ({ cls := .type "set", dict := none, data := .set #[] 0 (.fresh 0 0 (!w.params.followText "set-order")) } : PySem.Obj) }) ⟨rfl, rfl⟩) fun r t hr => ?_
  cases r with
  | error e => exact hr
  | ok fl =>
    cases fl with
    | ret obj =>
      obtain ⟨rfl, rfl⟩ := hr
      have at0 : (s.heap.push ({ cls := .type "set", dict := none, data := .set #[] 0 (.fresh 0 0 (!w.params.followText "set-order")) } : PySem.Obj)).get? s.heap.objs.size = some ({ cls := .type "set", dict := none, data := .set #[] 0 (.fresh 0 0 (!w.params.followText "set-order")) } : PySem.Obj) := Heap.get?_push_size _ rfl
      have ty : Shared.TypeIs { s with heap := s.heap.push ({ cls := .type "set", dict := none, data := .set #[] 0 (.fresh 0 0 (!w.params.followText "set-order")) } : PySem.Obj) } (.ref s.heap.objs.size) "set" := ⟨_, at0, rfl⟩
      have hli := F.called_set.init.lookup
      have hbi := F.called_set.init.bind (.ref s.heap.objs.size)
      repeat (any_goals (first | assumption | wp_step))
      refine codeAny_mono (codeAny_call_builtin (R := wants (fun r u => r = .none ∧ ∃ h' tk H t, u = { s with heap := h', toks := tk } ∧ SimR h' s.heap.objs.size H t ∧ t.fits H.size = true ∧ H.size = m ∧
          (∀ b o, s.heap.get? b = some o → h'.get? b = some o)) E) F.called_set.init.plain F.entry_set_init (check_set_init_1 ty ?_)) fun r2 t2 hr2 => ?_
      · obtain ⟨⟨oc, od, odata, os⟩, ho, hc, nl, hd⟩ := hl
        simp only at hc hd
        subst hc; subst hd
        have lt : l < s.heap.objs.size := Heap.lt_size ho
        have ho' : (s.heap.push ({ cls := .type "set", dict := none, data := .set #[] 0 (.fresh 0 0 (!w.params.followText "set-order")) } : PySem.Obj)).get? l = some { cls := .type "list", dict := od, data := .seq items nl, slots := os } := Heap.get?_push_of_some _ ho
        have s1 := F.sub_list_set
        have s2 := F.sub_list_frozenset
        have s3 : (Value.type "list" == Value.type "dict") = false := by decide
        have hl1 : (s.heap.push ({ cls := .type "set", dict := none, data := .set #[] 0 (.fresh 0 0 (!w.params.followText "set-order")) } : PySem.Obj)).IsList l items := ⟨_, ho', rfl, nl, rfl⟩
        unfold Builtin.«set.__init__» noKeywords Builtin.Frozenset.updateFrom
        generalize hPI : pyIter = PI
        wp_walk
        subst hPI
        refine wpAny_pyIter_list hl1 ?_
        refine wpAny_bind (wpAny_runValue ?_)
        have hh3 : A.in1.in1.in1.handled = none := by simp [hh]
        have sz : (s.heap.push ({ cls := .type "set", dict := none, data := .set #[] 0 (.fresh 0 0 (!w.params.followText "set-order")) } : PySem.Obj)).objs.size = s.heap.objs.size + 1 := Heap.size_push ..
        have ne : l ≠ (s.heap.push ({ cls := .type "set", dict := none, data := .set #[] 0 (.fresh 0 0 (!w.params.followText "set-order")) } : PySem.Obj)).objs.size := by rw [sz]; exact Nat.ne_of_lt (Nat.lt_succ_of_lt lt)
        have nin : s.heap.objs.size ∉ [(s.heap.push ({ cls := .type "set", dict := none, data := .set #[] 0 (.fresh 0 0 (!w.params.followText "set-order")) } : PySem.Obj)).objs.size, l] := by
          rw [sz]
          simp only [List.mem_cons, List.not_mem_nil, or_false, not_or]
          exact ⟨Nat.ne_of_lt (Nat.lt_succ_self _), Nat.ne_of_gt lt⟩
        have val : ∀ (i : Nat) (v : Value), items[i]? = some v → ∃ p, ks[i]? = some p ∧ v = .ref p.1 := fun i v hv => by
          rw [← Array.getElem?_toList, hit, List.getElem?_map] at hv
          obtain ⟨p, e1, e2⟩ := Option.map_eq_some_iff.mp hv
          exact ⟨p, e1, e2.symm⟩
        have new : ∀ b, s.heap.objs.size ≤ b → s.heap.get? b = none := fun b hb => by
          cases q : s.heap.get? b with
          | none => rfl
          | some o => exact absurd (Nat.lt_of_lt_of_le (Heap.lt_size q) hb) (Nat.lt_irrefl _)
        obtain ⟨Hf, tf, sm1, sm2⟩ := sm (!w.params.followText "set-order")
        refine set_update_nest ((Walks.list hh3 _ l ne items).toS) s.heap.objs.size nin ks size val s.heap nk (new _ (Nat.le_refl _)) (fun b hb => new b (by rw [List.mem_singleton.mp hb, sz]; exact Nat.le_succ _)) (by simp only [Around.in1_units]; omega) Hf tf
          (items.size - 0) 0 _ #[] (.fresh 0 0 (!w.params.followText "set-order")) (by omega) (Nat.zero_le _) ⟨⟨_, Heap.get?_push_size _ rfl, rfl, rfl⟩, hl1.push _⟩ (fun b o e => Heap.get?_push_of_some _ (Heap.get?_push_of_some _ e)) ?fresh (by rw [List.drop_zero]; exact sm1) ?done
        case fresh =>
          exact ⟨_, #[], 0, Heap.get?_push_of_some _ at0, ⟨rfl, rfl, rfl⟩, rfl, by simp⟩
        case done =>
          intro t hm hS ft
          obtain ⟨h', g2, d', tk', os'⟩ := t
          have eg : g2 = s.gens := hm.gens
          have ed : d' = s.drawn := hm.drawn
          have eo : os' = s.os := hm.os
          subst eg; subst ed; subst eo
          show wpAny _ _ _ _ _ _
          refine wpAny_pure ?_
          show wpAny _ _ (ret Value.none) _ _ _
          refine wpAny_pure ⟨rfl, h', tk', Hf, tf, rfl, hS, ft, sm2, fun b o e => ?_⟩
          have lb : b < s.heap.objs.size := Heap.lt_size e
          refine hm.heap b o ?_ (Heap.get?_push_of_some _ (Heap.get?_push_of_some _ e))
          rw [sz]
          simp only [List.mem_cons, List.not_mem_nil, or_false, not_or]
          exact ⟨Nat.ne_of_lt lb, Nat.ne_of_lt (Nat.lt_succ_of_lt lb)⟩
      · cases r2 with
        | error e => exact hr2
        | ok fl2 =>
          cases fl2 with
          | ret r =>
            obtain ⟨rfl, h', tk, H, t, rfl, hS, ft, hm, hk⟩ := hr2
            repeat (any_goals (first | assumption | wp_step))
            exact h _ _ _ _ hS ft hm hk
          | _ => exact hr2.elim
    | _ => exact hr.elim
end
section
variable {X : Cx}
/-- the key of a pair of tuples -/
def nk2 (p : List Int × List Int) : NestedKey := .tup [.tup (p.1.map .num), .tup (p.2.map .num)]
def simOk (l : List (List Int × List Int)) : Prop := l.length < 4000 ∧ ∀ b : Bool, ∃ H t, simAll (l.map fun p => hsN (nk2 p)) #[] (.fresh 0 0 b) = some (H, t) ∧ H.size = l.length
def vAdr : V → Addr
  | .ref a => a
  | _ => 0
def tLsetN (K : PySem.W.Frag) (ta : TE) : TE := fun σ H Q => ta σ H fun x H1 => ∃ (a : Addr) (vs : List V) (l : List (List Int × List Int)), x = .ref a ∧ SqL K H1 a vs ∧ vs.length = l.length ∧
  (∀ z ∈ vs.zip l, ∃ b c d, z.1 = .ref b ∧ SqT K H1 b [.ref c, .ref d] ∧ SqT K H1 c (z.2.1.map V.int) ∧ SqT K H1 d (z.2.2.map V.int)) ∧ simOk l ∧ Q (.int (l.length : Nat)) H1
theorem onlyIs_num : ∀ l : List Int, onlyIs (l.map .num) = true
  | [] => rfl
  | a :: l => by
    show (onlyI (.num a) && onlyIs (l.map .num)) = true
    rw [onlyIs_num l]
    rfl
theorem dep_num : ∀ l : List Int, NestedKey.depthAll (l.map .num) = 0
  | [] => rfl
  | a :: l => by
    show max (NestedKey.depth (.num a)) (NestedKey.depthAll (l.map .num)) = 0
    rw [dep_num l]
    rfl
theorem nested_ints {h : Heap} : ∀ {l : List Int} {us : List Value}, Vals (l.map V.int) us → NestedAll h (l.map .num) us
  | [], _, r => by cases r; exact .nil
  | a :: l, _, r => by
    cases r with
    | cons r1 r2 =>
      obtain ⟨t, rfl⟩ := r1
      exact .cons (.int a t) (nested_ints r2)
theorem vals_adr : ∀ {vs : List V} {its : List Value}, Vals vs its → (∀ v ∈ vs, ∃ b, v = .ref b) → its = vs.map fun v => Value.ref (vAdr v)
  | [], _, r, _ => by cases r; rfl
  | v :: vs, _, r, h => by
    cases r with
    | cons r1 r2 =>
      obtain ⟨b, rfl⟩ := h v List.mem_cons_self
      cases r1
      rw [vals_adr r2 fun u hu => h u (List.mem_cons_of_mem _ hu)]
      rfl
theorem peLsetN {e : Expr} {ta : TE} {p1 p2 p3 pos : Pos} (hg : Gl X "len") (hm : X.mg "len" = none) (hg2 : Gl X "set") (hm2 : X.mg "set" = none) (he : PE X e ta) (hc : X.calm = true) (hu : X.A.units + 65 < cLine)
    (na : starEach [e] X.env = (false, eval e X.env) :: starEach [] X.env) : PE X (.Call (.Name "len" p1) [.Call (.Name "set" p2) [e] [] p3] [] pos) (tLsetN X.K ta) :=
  ⟨fun pins s σ H Q I h => Call_ (ld_blt I hg hm boot_len (PyProof.Rows.callWith_builtin1 (PyProof.Rows.args_cons (Call_ (ld_blt I hg2 hm2 boot_set (PyProof.Rows.callWith_type1 (PyProof.Rows.args_cons (thn (he.run pins s σ H _ I h) fun v s1 ⟨x, H1, I1, r1, q1⟩ => PyProof.Rows.args_nil (by
    obtain ⟨a, vs, l, rfl, hq, hl, al, ok, q1⟩ := q1
    cases r1
    obtain ⟨its, r, pl, hz⟩ := I1.list hq
    have hv : ∀ v ∈ vs, ∃ b, v = .ref b := fun v hv => by
      obtain ⟨i, hi, e⟩ := List.mem_iff_getElem.mp hv
      have mz : (v, l[i]'(by omega)) ∈ vs.zip l := by
        refine List.mem_iff_getElem.mpr ⟨i, by rw [List.length_zip]; omega, ?_⟩
        rw [List.getElem_zip, e]
      obtain ⟨b, c, d, e1, _⟩ := al _ mz
      exact ⟨b, e1⟩
    have ei := vals_adr r hv
    have ez : its = ((vs.zip l).map fun z => ((vAdr z.1, nk2 z.2) : Addr × NestedKey)).map fun p => Value.ref p.1 := by
      rw [ei, List.map_map]
      have e2 : vs = (vs.zip l).map Prod.fst := (List.map_fst_zip (by omega)).symm
      conv => lhs; rw [e2]
      rw [List.map_map]
      rfl
    have eh : (((vs.zip l).map fun z => ((vAdr z.1, nk2 z.2) : Addr × NestedKey)).map fun p => hsN p.2) = l.map fun p => hsN (nk2 p) := by
      rw [List.map_map]
      have e2 : l = (vs.zip l).map Prod.snd := (List.map_snd_zip (by omega)).symm
      conv => rhs; rw [e2]
      rw [List.map_map]
      rfl
    refine set_lstN ((vs.zip l).map fun z => ((vAdr z.1, nk2 z.2) : Addr × NestedKey)) l.length (I1.ok.hd hc) pl.isList (by simpa using ez) (fun p hp => ?_) (by omega) (by rw [eh]; exact ok.2) fun h' tk H t hS hf hm hk => PyProof.Rows.args_nil ?_
    · obtain ⟨z, hz, rfl⟩ := List.mem_map.mp hp
      obtain ⟨b, c, d, e1, t1, t2, t3⟩ := al z hz
      obtain ⟨i1, r1, ⟨o1, ho1, hc1, n1, hd1⟩, _⟩ := I1.tuple t1
      obtain ⟨i2, r2, ⟨o2, ho2, hc2, n2, hd2⟩, _⟩ := I1.tuple t2
      obtain ⟨i3, r3, ⟨o3, ho3, hc3, n3, hd3⟩, _⟩ := I1.tuple t3
      refine ⟨?_, ?_, ?_⟩
      · rw [e1]
        refine NestedIs.tup ho1 hc1 hd1 ?_
        obtain ⟨w1, w2, rfl, ri, rj⟩ := vals2 r1
        cases ri
        cases rj
        exact .cons (.tup ho2 hc2 hd2 (nested_ints (by simpa using r2))) (.cons (.tup ho3 hc3 hd3 (nested_ints (by simpa using r3))) .nil)
      · show (onlyIs (z.2.1.map .num) && (onlyIs (z.2.2.map .num) && true)) = true
        rw [onlyIs_num, onlyIs_num]
        rfl
      · show max (NestedKey.depthAll (z.2.1.map .num) + 1) (max (NestedKey.depthAll (z.2.2.map .num) + 1) 0) + 1 ≤ 8
        rw [dep_num, dep_num]
        decide
    · obtain ⟨o, es, ep, ho, hex, hd, em⟩ := hS
      have I2 : Inv X pins σ H1 { s1 with heap := h', toks := tk } := I1.kept fun b o e => hk b o e
      have e1 : es.size = l.length := by
        rw [← hm, ← em, Array.size_map]
      have lt := ok.1
      refine call_len_set ho hex hd (by rw [← em, Array.size_map] at hf; exact hf) (by omega) ⟨.int (l.length : Nat), H1, I2.tok _, ⟨_, by rw [e1]⟩, q1⟩)) na) na rfl))) rfl) rfl rfl))⟩
end
end Mi
end

section
set_option Elab.async false
set_option linter.all false
set_option maxRecDepth 100000
set_option maxHeartbeats 4000000
/-! SnU: len(set(pairs of tuples)) is sound -/
namespace Mi
open PySem PySem.Spec PySem.W PySem.Calls PyProof.Rows L2
/-! the reckoning over lists: arrays are slow in the kernel -/
def insL {α : Type} (l : List α) (p : Nat) (x : α) : List α := l.take p ++ x :: l.drop p
def plT (t : SetTable) (j : Nat) : SetTable := { t with place := (insL t.place.toList (SetTable.below t.place j) j).toArray }
def stepL (H : List Int) (t : SetTable) (h : Int) : Option (List Int × SetTable) :=
  if t.gaveWay || !t.fits H.length || !t.plain || decide (4000 ≤ H.length) || decide (t.dummies ≠ #[]) then none else
  match t.probe (fun i => (H[i]?).getD 0) h (t.probeStart h) with
  | some (.empty j none) =>
    if (plT t j).tooFull then
      if !(plT t j).fits (H.length + 1) || decide (SetTable.sizeAbove (SetTable.grown (H.length + 1)) > 4096) then none else
      match (plT t j).relaid (insL H (SetTable.below t.place j) h).toArray (SetTable.grown (H.length + 1)) with
      | some (t2, order) =>
        if (order.toList.filterMap fun i => (insL H (SetTable.below t.place j) h)[i]?).length = H.length + 1 then some (order.toList.filterMap fun i => (insL H (SetTable.below t.place j) h)[i]?, t2) else none
      | none => none
    else some (insL H (SetTable.below t.place j) h, plT t j)
  | _ => none
def allL : List Int → List Int → SetTable → Option (List Int × SetTable)
  | [], H, t => if t.fits H.length then some (H, t) else none
  | h :: r, H, t => match stepL H t h with
    | some (H', t') => allL r H' t'
    | none => none
theorem insL_len {α : Type} (l : List α) (p : Nat) (x : α) : (insL l p x).length = l.length + 1 := by
  unfold insL
  simp only [List.length_append, List.length_cons, List.length_take, List.length_drop]
  omega
theorem insL_arr {α : Type} (xs : Array α) (p : Nat) (x : α) : SetTable.insertAt xs p x = (insL xs.toList p x).toArray := by
  apply Array.toList_inj.mp
  rw [SetTable.toList_insertAt]
  rfl
theorem put_L {t : SetTable} (hd : t.dummies = #[]) (j : Nat) : t.put j = (plT t j, SetTable.below t.place j) := by
  have e : SetTable.has t.dummies j = false := by rw [hd]; rfl
  unfold SetTable.put plT
  simp only [e, Bool.false_eq_true, if_false, insL_arr]
theorem stepL_ok {H : List Int} {t : SetTable} {h : Int} {r : List Int × SetTable} (e : stepL H t h = some r) : simStep H.toArray t h = some (r.1.toArray, r.2) := by
  unfold stepL at e
  split at e
  · cases e
  rename_i c
  simp only [Bool.or_eq_true, not_or] at c
  obtain ⟨c0, c5⟩ := c
  have hd : t.dummies = #[] := by simpa using c5
  unfold simStep
  have e1 : H.toArray.size = H.length := List.size_toArray
  rw [if_neg (by rw [e1]; simpa [Bool.or_eq_true, not_or] using c0)]
  have e2 : (fun i : Nat => (H.toArray[i]?).getD 0) = (fun i : Nat => (H[i]?).getD 0) := by
    funext i
    rw [List.getElem?_toArray]
  rw [e2]
  split at e
  rotate_left
  · cases e
  rename_i j pr
  try rw [pr]
  try simp only []
  rw [put_L hd]
  simp only [insL_arr, e1]
  split at e
  · rename_i f
    rw [if_pos f]
    split at e
    · cases e
    rename_i g
    rw [if_neg (by rw [List.size_toArray, insL_len]; exact g)]
    split at e
    rotate_left
    · cases e
    rename_i t2 order rl
    try rw [rl]
    try simp only []
    split at e
    rotate_left
    · cases e
    rename_i z
    cases e
    have e3 : order.filterMap (fun i => (insL H (SetTable.below t.place j) h).toArray[i]?) = (order.toList.filterMap fun i => (insL H (SetTable.below t.place j) h)[i]?).toArray := by
      apply Array.toList_inj.mp
      rw [Array.toList_filterMap]
      simp only [List.getElem?_toArray]
    rw [e3, if_pos (by rw [List.size_toArray, List.size_toArray, insL_len]; exact z)]
  · rename_i f
    rw [if_neg f]
    cases e
    rfl
theorem allL_ok : ∀ {hs H : List Int} {t : SetTable} {r : List Int × SetTable}, allL hs H t = some r → simAll hs H.toArray t = some (r.1.toArray, r.2)
  | [], H, t, r, e => by
    unfold allL at e
    unfold simAll
    rw [List.size_toArray]
    split at e
    · cases e; rename_i f; rw [if_pos f]
    · cases e
  | h :: hs, H, t, r, e => by
    unfold allL at e
    unfold simAll
    split at e
    · rename_i H' t' s
      rw [stepL_ok s]
      exact allL_ok e
    · cases e
/-! the flag is only carried -/
def ldT (b : Bool) (t : SetTable) : SetTable := { t with led := b }
theorem go_led (b : Bool) (t : SetTable) (f : Nat → Int) (h : Int) : ∀ (n : Nat) (p : SetTable.Probe), SetTable.probe.go (ldT b t) f h n p = SetTable.probe.go t f h n p
  | 0, _ => rfl
  | n + 1, p => by
    unfold SetTable.probe.go
    have e1 : (ldT b t).slot p.j = t.slot p.j := rfl
    rw [e1]
    split
    · rfl
    · exact go_led b t f h n _
    · split
      · rfl
      · exact go_led b t f h n _
theorem stepL_led (b : Bool) {H : List Int} {t : SetTable} {h : Int} {r : List Int × SetTable} (e : stepL H t h = some r) : stepL H (ldT b t) h = some (r.1, ldT b r.2) := by
  unfold stepL at e ⊢
  split at e
  · cases e
  rename_i c
  have c' : ¬ ((ldT b t).gaveWay || !(ldT b t).fits H.length || !(ldT b t).plain || decide (4000 ≤ H.length) || decide ((ldT b t).dummies ≠ #[])) = true := c
  rw [if_neg c']
  have ep : (ldT b t).probe (fun i : Nat => (H[i]?).getD 0) h ((ldT b t).probeStart h) = t.probe (fun i : Nat => (H[i]?).getD 0) h (t.probeStart h) := go_led b t _ h _ _
  rw [ep]
  split at e
  rotate_left
  · cases e
  rename_i j pr
  try simp only [pr]
  have e1 : plT (ldT b t) j = ldT b (plT t j) := rfl
  have e2 : (ldT b t).place = t.place := rfl
  have e3 : (ldT b (plT t j)).tooFull = (plT t j).tooFull := rfl
  have e4 : ∀ n, (ldT b (plT t j)).fits n = (plT t j).fits n := fun _ => rfl
  simp only [e1, e2, e3, e4]
  split at e
  · rename_i f
    rw [if_pos f]
    split at e
    · cases e
    rename_i g
    rw [if_neg g]
    split at e
    rotate_left
    · cases e
    rename_i t2 order rl
    have rl' : (ldT b (plT t j)).relaid (insL H (SetTable.below t.place j) h).toArray (SetTable.grown (H.length + 1)) = some (ldT b t2, order) := by
      unfold SetTable.relaid SetTable.laid at rl ⊢
      obtain ⟨owner, e1, e2⟩ := Option.bind_eq_some_iff.mp rl
      refine Option.bind_eq_some_iff.mpr ⟨owner, e1, ?_⟩
      cases e2
      rfl
    rw [rl']
    split at e
    rotate_left
    · cases e
    rename_i z
    cases e
    simp only [if_pos z]
  · rename_i f
    rw [if_neg f]
    cases e
    rfl
theorem allL_led (b : Bool) : ∀ {hs H : List Int} {t : SetTable} {r : List Int × SetTable}, allL hs H t = some r → allL hs H (ldT b t) = some (r.1, ldT b r.2)
  | [], H, t, r, e => by
    unfold allL at e ⊢
    split at e
    · cases e
      rename_i f
      rw [if_pos (show (ldT b t).fits H.length = true from f)]
    · cases e
  | h :: hs, H, t, r, e => by
    unfold allL at e ⊢
    split at e
    · rename_i H' t' s
      rw [stepL_led b s]
      exact allL_led b e
    · cases e
def simB (l : List (List Int × List Int)) : Bool := decide (l.length < 4000) && match allL (l.map fun p => hsN (nk2 p)) [] (.fresh 0 0 true) with
  | some (H, _) => decide (H.length = l.length)
  | none => false
theorem sim_cprs : ∀ N ∈ List.range 8, simB (cprs N) = true := by decide +kernel
theorem simOk_of {l : List (List Int × List Int)} (h : simB l = true) : simOk l := by
  unfold simB at h
  refine ⟨of_decide_eq_true (Bool.and_eq_true_iff.mp h).1, fun b => ?_⟩
  have z := (Bool.and_eq_true_iff.mp h).2
  cases q : allL (l.map fun p => hsN (nk2 p)) [] (.fresh 0 0 true) with
  | none => rw [q] at z; cases z
  | some r =>
    obtain ⟨H, t⟩ := r
    rw [q] at z
    have e := allL_ok (allL_led b q)
    exact ⟨H.toArray, ldT b t, e, by rw [List.size_toArray]; exact of_decide_eq_true z⟩
variable {X : Cx} {p : Pk} {cy : Cy} {es : List (Addr × Nat × Option Addr)} {W : WX}
theorem np_of {K : PySem.W.Frag} {fa : Nat → Addr} {μ : Mu} {H : Hp} : ∀ {xs : List PV} {vs : List V} {l : List (List Int × List Int)}, RVs K fa es μ H xs vs → npsI xs = some l →
    vs.length = l.length ∧ ∀ z ∈ vs.zip l, ∃ b c d, z.1 = .ref b ∧ SqT K H b [.ref c, .ref d] ∧ SqT K H c (z.2.1.map V.int) ∧ SqT K H d (z.2.2.map V.int)
  | [], _, l, r, e => by
    cases r
    cases e
    exact ⟨rfl, fun z hz => by cases hz⟩
  | x :: xs, _, l, r, e => by
    cases r with
    | @cons _ v _ vs r1 r2 =>
      unfold npsI at e
      split at e
      rotate_left
      · cases e
      rename_i q eq
      obtain ⟨l', e1, rfl⟩ := Option.map_eq_some_iff.mp e
      obtain ⟨i1, i2⟩ := np_of r2 e1
      refine ⟨by rw [List.length_cons, List.length_cons, i1], fun z hz => ?_⟩
      rw [List.zip_cons_cons] at hz
      rcases List.mem_cons.mp hz with rfl | hz
      · unfold npI at eq
        split at eq
        rotate_left
        · cases eq
        rename_i as bs
        split at eq
        rotate_left
        · cases eq
        rename_i ia ib ea eb
        cases eq
        obtain ⟨b, us, rfl, sq, ru⟩ := r1.tupI
        cases ru with
        | cons ra ru =>
          cases ru with
          | cons rb ru =>
            cases ru
            obtain ⟨c, us1, rfl, sq1, ru1⟩ := ra.tupI
            obtain ⟨d, us2, rfl, sq2, ru2⟩ := rb.tupI
            have v1 := ints_of ru1 ea
            have v2 := ints_of ru2 eb
            subst v1 v2
            exact ⟨b, c, d, rfl, sq, sq1, sq2⟩
      · exact i2 z hz
theorem snd_lsetn {a : E} {e : Expr} {x y : Str} {pos p1 p2 p3 : Pos} (g : Good X p cy es W) (hc : cy.calm = true) (hx0 : x = "len") (hx : globB cy x = true) (hy0 : y = "set") (hy : globB cy y = true) (pl : plainE e = true) (ha : PE X e (RdE X p es W a)) :
    PE X (.Call (.Name x p1) [.Call (.Name y p2) [e] [] p3] [] pos) (RdE X p es W (.lsetn a)) := by
  subst hx0 hy0
  have hm : X.mg "len" = none := g.blt _ (by decide)
  have hm2 : X.mg "set" = none := g.blt _ (by decide)
  refine (peLsetN (g.glob hx) hm (g.glob hy) hm2 ha (g.calm hc).1 g.un (plain_star pl _ _)).imp fun s H Q ⟨B, b, σ, h, μ, st, q⟩ => ?_
  unfold evE at q
  refine seqE st q fun x h1 μ1 H1 v l1 st1 rx q1 => ?_
  obtain ⟨z, ez, kz⟩ := Post.of q1
  by_cases nt : ∃ ys, x = .tup ys
  · obtain ⟨ys, rfl⟩ := nt
    cases ez
  · have nt : ∀ ys, x ≠ .tup ys := fun ys e => nt ⟨ys, e⟩
    have ez' : ((items h1 x).bind fun xs => (npsI xs).bind fun l => if (List.range 8).any (fun N => decide (l = cprs N)) then some (PV.int l.length) else none) = some z := by
      cases x <;> first | exact ez | exact absurd rfl (nt _)
    obtain ⟨xs, e, ez'⟩ := Option.bind_eq_some_iff.mp ez'
    obtain ⟨l, e2, ez'⟩ := Option.bind_eq_some_iff.mp ez'
    split at ez'
    rotate_left
    · cases ez'
    rename_i hl
    cases ez'
    obtain ⟨N, hN, el⟩ := List.any_eq_true.mp hl
    have el := of_decide_eq_true el
    obtain ⟨ad, vs, rfl, sq, r⟩ := list_of st1.hr rx nt e
    obtain ⟨i1, i2⟩ := np_of r e2
    exact ⟨ad, vs, l, rfl, sq, i1, i2, simOk_of (by rw [el]; exact sim_cprs N hN), kz μ1 H1 .refl st1.hr _ (.int _)⟩
end Mi
end

section
set_option Elab.async false
set_option linter.all false
set_option maxRecDepth 100000
set_option maxHeartbeats 4000000
/-! SnS: texts: split, join, str, int, signs -/
namespace Mi
open PySem PySem.Spec PySem.W PySem.Calls PyProof.Rows L2 TL NumText
/-! the words of Mini are the kit's -/
theorem splN_eq (c : Nat) : ∀ (l acc : List Nat), splN c acc l = spl [c] 0 acc l
  | [], acc => by rw [spl_nil]; rfl
  | x :: r, acc => by
    unfold splN
    by_cases e : x = c
    · subst e
      have h : pre [x] (x :: r) = true := pre_self [x] r
      rw [if_pos rfl, spl_hit h, splN_eq x r []]
      rfl
    · rw [if_neg e, spl_miss (pre_of_head [] r e), splN_eq c r]
theorem wds_eq : ∀ (l : List Nat), (∀ c ∈ l, Unicode.isSpace c = decide (c = 32)) → ∀ (ws : List (List Nat)) (u : List Nat), wfin (l.foldl wstep (ws, u)) = ws ++ wdsN u l
  | [], _, ws, u => by
    show wfin (ws, u) = _
    unfold wfin wdsN
    by_cases e : u = []
    · rw [if_pos e, if_pos e, List.append_nil]
    · rw [if_neg e, if_neg e]
  | c :: r, h, ws, u => by
    have hc := h c List.mem_cons_self
    have hr : ∀ c ∈ r, Unicode.isSpace c = decide (c = 32) := fun d hd => h d (List.mem_cons_of_mem _ hd)
    rw [List.foldl_cons]
    unfold wdsN
    by_cases e : c = 32
    · rw [if_pos e]
      have hs : Unicode.isSpace c = true := by rw [hc, decide_eq_true e]
      by_cases eu : u = []
      · have st : wstep (ws, u) c = (ws, []) := by
          unfold wstep
          simp [hs, eu]
        rw [st, wds_eq r hr, if_pos eu]
      · have st : wstep (ws, u) c = (ws ++ [u], []) := by
          unfold wstep
          simp [hs, eu]
        rw [st, wds_eq r hr, if_neg eu, List.append_assoc]
        rfl
    · rw [if_neg e]
      have hs : Unicode.isSpace c = false := by rw [hc, decide_eq_false e]
      have st : wstep (ws, u) c = (ws, u ++ [c]) := by
        unfold wstep
        simp [hs]
      rw [st, wds_eq r hr]
theorem space_ok : ∀ c, c < 127 → 32 ≤ c → Unicode.isSpace c = decide (c = 32) := by decide +kernel
theorem numN_eq (n : Nat) : numN n = numL n := rfl
theorem sjn_eq (S : List Nat) : ∀ l : List (List Nat), sjnN S l = joinL S l
  | [] => by unfold sjnN joinL; rfl
  | [x] => by unfold sjnN joinL; rfl
  | x :: y :: t => by
    show x ++ (S ++ sjnN S (y :: t)) = x ++ (S ++ joinL S (y :: t))
    rw [sjn_eq S (y :: t)]
theorem tl_lt_of {z : Str} {c : Nat} (h : tl z = [c]) : z = ⟨#[c]⟩ := ext_tl (by rw [h])
theorem cps_one {z : Str} {c : Nat} (h : [c] = z.cps.toList) : z = ⟨#[c]⟩ := tl_lt_of h.symm
section
variable {K : PySem.W.Frag} {fa : Nat → Addr} {es : List (Addr × Nat × Option Addr)} {μ : Mu} {H : Hp}
theorem strs_of : ∀ {xs : List PV} {vs : List V} {l : List (List Nat)}, RVs K fa es μ H xs vs → strsP xs = some l → ∃ ys : List Str, vs = ys.map V.str ∧ l = ys.map tl
  | [], _, l, r, e => by
    cases r; cases e
    exact ⟨[], rfl, rfl⟩
  | x :: xs, _, l, r, e => by
    cases r with
    | @cons _ v _ vs r1 r2 =>
      cases x <;> first | (cases e; done) | skip
      rename_i s
      obtain ⟨l', e1, rfl⟩ := Option.map_eq_some_iff.mp e
      obtain ⟨z, rfl, rfl⟩ := r1.strI
      obtain ⟨ys, rfl, rfl⟩ := strs_of r2 e1
      exact ⟨z :: ys, rfl, rfl⟩
theorem rvs_strs : ∀ ys : List Str, RVs K fa es μ H ((ys.map tl).map PV.str) (ys.map V.str)
  | [] => .nil
  | y :: ys => .cons (.str y) (rvs_strs ys)
end
section
variable {X : Cx} {p : Pk} {cy : Cy} {es : List (Addr × Nat × Option Addr)} {W : WX} {a b : Expr} {l m : E} {x nm : Str} {pos pp apos cpos : Pos}
theorem call_strA : CallR X (.type "str") (fun xs H Q => ∃ n : Nat, xs = [.int n] ∧ ((n : Int)).natAbs.log2 < 1920 ∧ ∀ z : Str, tl z = numL n → Q (.str z) H) := by
  intro pins s σ H xs us Q I r h
  obtain ⟨n, rfl, hz, q⟩ := h
  exact call_str_int pins s σ H _ us Q I r ⟨n, rfl, hz, q _ (tl_num n)⟩
theorem snd_strI (g : Good X p cy es W) (hx0 : x = "str") (hx : globB cy x = true) (pl : plainE a = true) (ha : PE X a (RdE X p es W l)) : PE X (.Call (.Name x pp) [a] [] pos) (RdE X p es W (.strI l)) := by
  obtain ⟨h1, h2, h3, _⟩ := badName_of hx
  have hm : X.mg x = none := g.blt x (by rw [hx0]; decide)
  subst hx0
  refine (pe_callTy call_strA (g.glob hx) hm (by decide +kernel) (pa_one pl ha) h3 h1 (plain_star pl [] X.env)).imp fun s H Q ⟨B, b, σ, h, μ, st, q⟩ => ?_
  unfold evE at q
  refine seqE st q fun x h1 μ1 H1 v l1 st1 rx q1 => ?_
  obtain ⟨z, ez, kz⟩ := Post.of q1
  unfold strIV at ez
  split at ez
  · rename_i i
    split at ez
    · rename_i c
      cases ez
      cases rx.intI
      have ei : ((i.toNat : Nat) : Int) = i := Int.toNat_of_nonneg c.1
      refine ⟨i.toNat, by rw [ei], by rw [ei]; exact c.2, fun z hz => kz μ1 H1 .refl st1.hr _ ?_⟩
      have e2 : numN i.toNat = z.cps.toList := by rw [numN_eq]; exact hz.symm
      rw [e2]
      exact .str z
    · cases ez
  · cases ez
theorem snd_intS (g : Good X p cy es W) (hx0 : x = "int") (hx : globB cy x = true) (pl : plainE a = true) (ha : PE X a (RdE X p es W l)) : PE X (.Call (.Name x pp) [a] [] pos) (RdE X p es W (.intS l)) := by
  obtain ⟨h1, h2, h3, _⟩ := badName_of hx
  have hm : X.mg x = none := g.blt x (by rw [hx0]; decide)
  subst hx0
  refine (pe_callTy call_int_str (g.glob hx) hm (by decide +kernel) (pa_one pl ha) h3 h1 (plain_star pl [] X.env)).imp fun s H Q ⟨B, b, σ, h, μ, st, q⟩ => ?_
  unfold evE at q
  refine seqE st q fun x h1 μ1 H1 v l1 st1 rx q1 => ?_
  obtain ⟨z, ez, kz⟩ := Post.of q1
  unfold intSV at ez
  split at ez
  · split at ez
    · rename_i c
      cases ez
      obtain ⟨c1, c2, c3⟩ := c
      obtain ⟨y, rfl, rfl⟩ := rx.strI
      have ad : NumText.AllDigits (tl y) := fun c hc => by
        have z := List.all_eq_true.mp c1 c hc
        unfold digB at z
        simpa using z
      have ly : y.length ≤ 640 := by rw [len_tl]; exact c3
      refine ⟨y, _, rfl, intText_digits (x := y) ad c2 (by omega), ly, kz μ1 H1 .refl st1.hr _ ?_⟩
      exact .int _
    · cases ez
  · cases ez
theorem snd_sjn (hn : nm = ("join" : Str)) (hb : baseB a = true) (hl : (apos.endLine == cpos.line) = true) (pl : plainE b = true) (ha : PE X a (RdE X p es W l)) (hbb : PE X b (RdE X p es W m)) :
    PE X (.Call (.Attribute a nm apos) [b] [] cpos) (RdE X p es W (.sjn l m)) := by
  subst hn
  refine (pe_join ha hbb (plain_star pl [] X.env) (base_ok hb _ _ _) hl).imp fun s H Q ⟨B, b, σ, h, μ, st, q⟩ => ?_
  unfold evE at q
  refine seqE st q fun x h1 μ1 H1 v l1 st1 rx q1 => ?_
  split at q1
  rotate_left
  · exact q1.elim
  rename_i hs
  unfold isStrV at hs
  split at hs
  rotate_left
  · cases hs
  rename_i sa
  obtain ⟨y, rfl, rfl⟩ := rx.strI
  refine ⟨⟨y, rfl⟩, seqE st1 q1 fun z h2 μ2 H2 w l2 st2 rz q2 => ?_⟩
  obtain ⟨r, er, kr⟩ := Post.of q2
  simp only [sjnV] at er
  obtain ⟨xs, ex, er⟩ := Option.bind_eq_some_iff.mp er
  obtain ⟨ls, el, er⟩ := Option.bind_eq_some_iff.mp er
  split at er
  rotate_left
  · cases er
  rename_i hz
  cases er
  have key : ∀ (pp : Addr) (ys : List Str), ls = ys.map tl → (SqL X.K H2 pp (ys.map V.str) ∨ SqT X.K H2 pp (ys.map V.str)) → w = .ref pp →
      ∃ a p, ∃ zs : List Str, V.str y = .str a ∧ [w] = [V.ref p] ∧ (SqL X.K H2 p (zs.map V.str) ∨ SqT X.K H2 p (zs.map V.str)) ∧ (zs.map (·.length)).sum + zs.length * a.length ≤ 16777216 ∧ Q (.str (Txt.join a zs)) H2 := by
    intro pp ys e1 e2 e3
    subst e3
    refine ⟨y, pp, ys, rfl, rfl, e2, ?_, kr μ2 H2 .refl st2.hr _ ?_⟩
    · rw [e1, List.map_map, List.length_map] at hz
      have e4 : (ys.map (·.length)) = ys.map (List.length ∘ tl) := List.map_congr_left fun y _ => len_tl y
      rw [e4, len_tl]
      exact Nat.le_trans hz (by decide)
    · have e5 : sjnN (tl y) ls = tl (Txt.join y ys) := by rw [sjn_eq, e1, join_eq, tl_join]
      have e6 : sjnN y.cps.toList ls = (Txt.join y ys).cps.toList := e5
      rw [e6]
      exact .str _
  by_cases nt : ∃ ys, z = .tup ys
  · obtain ⟨us, rfl⟩ := nt
    cases ex
    obtain ⟨pp, vs, rfl, sq, rv⟩ := rz.tupI
    obtain ⟨ys, rfl, e1⟩ := strs_of rv el
    exact key pp ys e1 (.inr sq) rfl
  · obtain ⟨pp, vs, rfl, sq, rv⟩ := list_of st2.hr rz (fun ys e => nt ⟨ys, e⟩) ex
    obtain ⟨ys, rfl, e1⟩ := strs_of rv el
    exact key pp ys e1 (.inl sq) rfl
theorem imp_insg : ∀ s H Q, RdE X p es W (.insg l m) s H Q → tOp (fun x y H Q => ∃ (c : Nat) (z : Str), x = .str ⟨#[c]⟩ ∧ y = .str z ∧ Q (.bl (decide (c ∈ z.cps.toList))) H) (RdE X p es W l) (RdE X p es W m) s H Q := fun s H Q ⟨B, b, σ, h, μ, st, q⟩ => by
  unfold evE at q
  refine seqE st q fun x h1 μ1 H1 v l1 st1 rx q1 => seqE st1 q1 fun y h2 μ2 H2 w l2 st2 ry q2 => ?_
  obtain ⟨z, e, k⟩ := Post.of q2
  obtain ⟨r, e, rfl⟩ := Option.map_eq_some_iff.mp e
  have rx2 := rx.mono l2 st1.hr.mu
  unfold insgV at e
  split at e
  · rename_i cc sy
    cases e
    obtain ⟨zx, rfl, ex⟩ := rx2.strI
    obtain ⟨zy, rfl, rfl⟩ := ry.strI
    have e7 := cps_one ex
    subst e7
    exact ⟨_, zy, rfl, rfl, k μ2 H2 .refl st2.hr _ (.bl _)⟩
  · cases e
theorem snd_insg (pb : plainE b = true) (ha : PE X a (RdE X p es W l)) (hb : PE X b (RdE X p es W m)) :
    PE X (.Compare a [.In] [b] pos) (RdE X p es W (.insg l m)) ∧ PT X (.Compare a [.In] [b] pos) (RdT X p es W (.insg l m)) :=
  ⟨(pe_cmpR op_in_sign ha hb (plain_mark pb _)).imp imp_insg, (pt_cmpR op_in_sign ha hb (plain_mark pb _)).imp fun s H Q q => imp_insg s H _ (rd_test q)⟩
theorem fold_rep (y : Array Nat) : ∀ (n : Nat) (acc : Array Nat), ((List.replicate n y).foldl (· ++ ·) acc).toList = acc.toList ++ (List.replicate n y.toList).flatten
  | 0, acc => by simp
  | n + 1, acc => by
    rw [List.replicate_succ, List.foldl_cons, fold_rep y n, List.replicate_succ, List.flatten_cons, Array.toList_append, List.append_assoc]
theorem op_srep : OpR X (binaryOp .Mult) (fun x y H Q => ∃ (z : Str) (k : Int), x = .str z ∧ y = .int k ∧ 0 ≤ k ∧ k ≤ 1000 ∧ z.length ≤ 100 ∧ ∀ u : Str, tl u = (List.replicate k.toNat (tl z)).flatten → Q (.str u) H) := by
  intro pins s σ H x y v u Q I rx ry h
  obtain ⟨z, k, rfl, rfl, k0, k1, lz, q⟩ := h
  obtain ⟨t, rfl⟩ := rx
  obtain ⟨t', rfl⟩ := ry
  refine PySem.P.mul_str (by rw [decide_eq_false (by omega), decide_eq_false (by omega)]; rfl) (fun h1 _ => ?_) (fun h1 _ => ?_) ?_
  · have e : (1000000 : Int) ≤ ((2 : Int) ^ 63 - 1) / k := (Int.le_ediv_iff_mul_le (by omega)).mpr (by omega)
    omega
  · have : z.length * k.toNat ≤ 100 * 1000 := Nat.mul_le_mul lz (by omega)
    show decide (z.length * k.toNat > sizeLine) = false
    have := sizeLine_eq
    simp
    omega
  · by_cases h1 : k < 1
    · rw [if_pos h1]
      have : k = 0 := by omega
      subst this
      exact ⟨by decide, .str _, H, I.tok _, ⟨_, rfl⟩, q _ rfl⟩
    · rw [if_neg h1]
      split
      · rename_i h2
        refine ⟨.str _, H, I, ⟨_, rfl⟩, q _ ?_⟩
        rcases (by simpa using h2 : k = 1 ∨ z.length = 0) with e | e
        · subst e
          simp
        · have : tl z = [] := by
            have := len_tl z
            rw [e] at this
            exact List.length_eq_zero_iff.mp this.symm
          rw [this]
          simp
      · refine ⟨?_, .str _, H, I.tok _, ⟨_, rfl⟩, q _ ?_⟩
        · show ((List.replicate k.toNat z.cps).foldl (· ++ ·) #[]).size ≤ sizeLine
          rw [← Array.length_toList, fold_rep]
          have e8 : (List.replicate k.toNat z.cps.toList).flatten.length ≤ 100 * 1000 := by
            rw [List.length_flatten, List.map_replicate, List.sum_replicate_nat]
            have e9 : z.cps.toList.length ≤ 100 := by rw [← len_tl]; exact lz
            rw [Nat.mul_comm]
            exact Nat.mul_le_mul e9 (by omega)
          have := sizeLine_eq
          simp only [List.length_append, List.length_nil]
          omega
        · show ((List.replicate k.toNat z.cps).foldl (· ++ ·) #[]).toList = _
          rw [fold_rep]
          rfl
theorem imp_srep : ∀ s H Q, RdE X p es W (.srep l m) s H Q → tOp (fun x y H Q => ∃ (z : Str) (k : Int), x = .str z ∧ y = .int k ∧ 0 ≤ k ∧ k ≤ 1000 ∧ z.length ≤ 100 ∧ ∀ u : Str, tl u = (List.replicate k.toNat (tl z)).flatten → Q (.str u) H) (RdE X p es W l) (RdE X p es W m) s H Q := fun s H Q ⟨B, b, σ, h, μ, st, q⟩ => by
  unfold evE at q
  refine seqE st q fun x h1 μ1 H1 v l1 st1 rx q1 => seqE st1 q1 fun y h2 μ2 H2 w l2 st2 ry q2 => ?_
  obtain ⟨z, e, kz⟩ := Post.of q2
  have rx2 := rx.mono l2 st1.hr.mu
  unfold srepV at e
  split at e
  rotate_left
  · cases e
  split at e
  rotate_left
  · cases e
  rename_i c
  cases e
  obtain ⟨zx, rfl, rfl⟩ := rx2.strI
  cases ry.intI
  refine ⟨zx, _, rfl, rfl, c.1, c.2.1, by rw [len_tl]; exact c.2.2, fun u hu => kz μ2 H2 .refl st2.hr _ ?_⟩
  have e2 : (List.replicate (Int.toNat _) zx.cps.toList).flatten = u.cps.toList := hu.symm
  rw [e2]
  exact .str u
theorem snd_srep (ha : PE X a (RdE X p es W l)) (hb : PE X b (RdE X p es W m)) : PE X (.BinOp a .Mult b pos) (RdE X p es W (.srep l m)) := (pe_op op_srep ha hb).imp imp_srep
theorem rNew_of {B : Nat → Prop} {h : Hs} {μ0 μ : Mu} {H0 H : Hp} {Q : VK} {x : KX} {ls : List (List Nat)} {ys : List Str} (l0 : Le μ0 H0 μ H) (g : HR X.K p.fa B h μ H) (e : ls = ys.map tl)
    (q : Post X.K p.fa B μ H (.ok (ls.map PV.str) h) (KF X p es H0 Q) x) : rNewStrs ys H Q := fun pp hp => by
  subst e
  exact post_lst l0 g hp (rvs_strs ys) q
theorem snd_spl (hn : nm = ("split" : Str)) (hb : baseB a = true) (hl : (apos.endLine == cpos.line) = true) (pl : plainE b = true) (ha : PE X a (RdE X p es W l)) (hbb : PE X b (RdE X p es W m)) :
    PE X (.Call (.Attribute a nm apos) [b] [] cpos) (RdF X p es W (.spl l m)) := by
  subst hn
  refine (pe_split ha hbb (plain_star pl [] X.env) (base_ok hb _ _ _) hl).imp fun s H Q ⟨B, b, σ, h, μ, st, q⟩ => ?_
  unfold evF at q
  refine seqE st q fun x h1 μ1 H1 v l1 st1 rx q1 => ?_
  split at q1
  rotate_left
  · exact q1.elim
  rename_i hs
  unfold isStrV at hs
  split at hs
  rotate_left
  · cases hs
  obtain ⟨y, rfl, rfl⟩ := rx.strI
  refine ⟨⟨y, rfl⟩, seqE st1 q1 fun z h2 μ2 H2 w l2 st2 rz q2 => ?_⟩
  obtain ⟨r, er, _⟩ := Post.of q2
  have q3 := q2
  unfold splV at er
  split at er
  rotate_left
  · cases er
  rename_i s0 c es0
  cases es0
  split at er
  rotate_left
  · cases er
  rename_i hc
  cases er
  obtain ⟨zc, rfl, ec⟩ := rz.strI
  have ec := cps_one ec
  subst ec
  have k1 : ((⟨#[c]⟩ : Str).cps.all (· < 256)) = true := by simp; omega
  refine ⟨y, ⟨#[c]⟩, rfl, rfl, rfl, ?_, rNew_of (es := es) (x := XW p W s) (l1.trans l2) st2.hr (ls := splN c [] y.cps.toList) ?_ ?_⟩
  · have e1 : y.cps.toList.length ≤ 100000 := hc.1
    rw [len_tl, sizeLine_eq]
    show y.cps.toList.length + 2 ≤ _
    omega
  · rw [splN_eq]
    exact (split_spl y ⟨#[c]⟩ (by simp) (kind_ok k1)).symm
  · have e3 : splV (.str y.cps.toList) (.str [c]) = some ((splN c [] y.cps.toList).map .str) := by
      unfold splV
      exact if_pos hc
    have q3 : Post X.K p.fa B μ2 H2 (R.of (splV (.str y.cps.toList) (.str [c])) h2) (KF X p es H Q) (XW p W s) := q3
    rw [e3] at q3
    exact q3
theorem snd_wds (hn : nm = ("split" : Str)) (hb : baseB a = true) (hl : (apos.endLine == cpos.line) = true) (ha : PE X a (RdE X p es W l)) :
    PE X (.Call (.Attribute a nm apos) [] [] cpos) (RdF X p es W (.wds l)) := by
  subst hn
  refine (pe_words ha (base_ok hb _ _ _) hl).imp fun s H Q ⟨B, b, σ, h, μ, st, q⟩ => ?_
  unfold evF at q
  refine seqE st q fun x h1 μ1 H1 v l1 st1 rx q1 => ?_
  split at q1
  rotate_left
  · exact q1.elim
  rename_i hs
  unfold isStrV at hs
  split at hs
  rotate_left
  · cases hs
  obtain ⟨y, rfl, rfl⟩ := rx.strI
  obtain ⟨r, er, _⟩ := Post.of q1
  unfold wdsV at er
  simp only [] at er
  split at er
  rotate_left
  · cases er
  rename_i hc
  cases er
  refine ⟨⟨y, rfl⟩, y, rfl, rfl, ?_, rNew_of (es := es) (x := XW p W s) l1 st1.hr (ls := wdsN [] y.cps.toList) ?_ ?_⟩
  · have e1 : y.cps.toList.length ≤ 100000 := hc.1
    rw [len_tl, sizeLine_eq]
    show y.cps.toList.length + 2 ≤ _
    omega
  · rw [words_tl]
    refine (wds_eq _ (fun c hcc => ?_) [] []).symm
    have z := List.all_eq_true.mp hc.2 c hcc
    unfold txtB at z
    simp only [Bool.and_eq_true, decide_eq_true_eq] at z
    exact space_ok c z.2 z.1
  · have e3 : wdsV (.str y.cps.toList) = some ((wdsN [] y.cps.toList).map .str) := by
      unfold wdsV
      exact if_pos hc
    have q1 : Post X.K p.fa B μ1 H1 (R.of (wdsV (.str y.cps.toList)) h1) (KF X p es H Q) (XW p W s) := q1
    rw [e3] at q1
    exact q1
theorem itr_str {μ : Mu} {H : Hp} {z : Str} (hl : z.cps.toList.length ≤ sizeLine) : ItR X.K p.fa es μ H (Its z) (z.cps.toList.map fun c => PV.str [c]) where
  lim := by rw [List.length_map]; exact hl
  stop := fun μ1 H1 l => by
    show z.cps.size ≤ _
    rw [List.length_map, Array.length_toList]
    exact Nat.le_refl _
  go := fun i x μ1 H1 l e => by
    have := (List.getElem?_eq_some_iff.mp e).1
    rw [List.length_map, Array.length_toList] at this
    exact this
  yld := fun i x v μ1 H1 H' l m1 e y => by
    obtain ⟨rfl, c, hc, rfl⟩ := y
    rw [List.getElem?_map, Array.getElem?_toList, hc] at e
    cases e
    exact ⟨Same.refl _, .str ⟨#[c]⟩⟩
theorem snd_chars {tg : Expr} (ha : PE X a (RdE X p es W l)) : PI X tg a (RdI X p es W (.chars l)) := by
  refine (pi_str ha).imp fun s H R ⟨B, b, σ, h, μ, st, q⟩ => ?_
  unfold evI at q
  refine seqE st q fun x h1 μ1 H1 v l1 st1 rx q1 => ?_
  obtain ⟨z, ez, kz⟩ := Post.of q1
  unfold charsV at ez
  split at ez
  rotate_left
  · cases ez
  split at ez
  rotate_left
  · cases ez
  rename_i hc
  cases ez
  obtain ⟨y, rfl, rfl⟩ := rx.strI
  have big : 100000 ≤ sizeLine := by decide
  exact ⟨y, rfl, kz μ1 H1 .refl st1.hr _ (itr_str (by omega))⟩
end
end Mi
end

section
set_option Elab.async false
set_option linter.all false
set_option maxRecDepth 100000
set_option maxHeartbeats 8000000
/-! Snd14: every checked expression -/
namespace Mi
open PySem PySem.Spec PyProof.Rows L2
variable {p : Pk}
theorem isempty {α : Type} {l : List α} (h : l.isEmpty = true) : l = [] := by cases l with | nil => rfl | cons _ _ => cases h
theorem both {X : Cx} {es : List (Addr × Nat × Option Addr)} {W : WX} {e : Expr} {m : E} (k : PE X e (RdE X p es W m)) (v : tst m e = true → valE e = true) : PE X e (RdE X p es W m) ∧ (tst m e = true → PT X e (RdT X p es W m)) := ⟨k, fun t => pt_of k (v t)⟩
theorem both2 {A B C : Prop} (k : A ∧ B) : A ∧ (C → B) := ⟨k.1, fun _ => k.2⟩
mutual
theorem sndE : ∀ (m : E) {X : Cx} {cy : Cy} {es : List (Addr × Nat × Option Addr)} {W : WX} (g : Good X p cy es W) (e : Expr), ckE cy m e = true → PE X e (RdE X p es W m) ∧ (tst m e = true → PT X e (RdT X p es W m))
  | .var i, X, cy, es, W, g, e, h => by
    unfold ckE at h
    split at h
    · simp only [Bool.and_eq_true, decide_eq_true_eq] at h
      exact both (snd_var (X := X) (p := p) (es := es) (W := W) g h.1 h.2) (fun t => t)
    · cases h
  | .int i, X, cy, es, W, g, e, h => by
    unfold ckE at h
    split at h
    · have h := beq_iff_eq.mp h
      subst h
      exact both (snd_const (X := X) (p := p) (es := es) (W := W) (m := .int i) pe_int (fun b σ h => by unfold evE; rfl) (fun μ H => .int i)) (fun t => t)
    · cases h
  | .bl i, X, cy, es, W, g, e, h => by
    unfold ckE at h
    split at h
    · have h := beq_iff_eq.mp h
      subst h
      exact both (snd_const (X := X) (p := p) (es := es) (W := W) (m := .bl i) pe_bl (fun b σ h => by unfold evE; rfl) (fun μ H => .bl i)) (fun t => t)
    · cases h
  | .non, X, cy, es, W, g, e, h => by
    unfold ckE at h
    split at h
    · exact both (snd_const (X := X) (p := p) (es := es) (W := W) (m := .non) pe_non (fun b σ h => by unfold evE; rfl) (fun μ H => .non)) (fun t => t)
    · cases h
  | .str s, X, cy, es, W, g, e, h => by
    unfold ckE at h
    split at h
    · rename_i z _ _
      have h := of_decide_eq_true h
      subst h
      exact both (snd_const (X := X) (p := p) (es := es) (W := W) (m := .str z.cps.toList) pe_str (fun b σ h => by unfold evE; rfl) (fun μ H => .str z)) (fun t => t)
    · cases h
  | .glob i v, X, cy, es, W, g, e, h => by
    unfold ckE at h
    split at h
    · rename_i x _
      simp only [Bool.and_eq_true] at h
      obtain ⟨h1, h2⟩ := h
      split at h2
      · rename_i y w hc
        simp only [Bool.and_eq_true, decide_eq_true_eq] at h2
        obtain ⟨h3, h4⟩ := h2
        subst h3
        have h4 := PV.same_eq h4
        subst h4
        exact both (snd_glob (X := X) (p := p) (es := es) (W := W) g hc h1) (fun t => t)
      · cases h2
    · cases h
  | .gdx i kvs k, X, cy, es, W, g, e, h => by
    unfold ckE at h
    split at h
    · rename_i x _ y _
      simp only [Bool.and_eq_true] at h
      obtain ⟨⟨⟨h1, h2⟩, h3⟩, h4⟩ := h
      split at h4
      · rename_i z ks w hc
        simp only [Bool.and_eq_true, decide_eq_true_eq] at h4
        obtain ⟨h5, h6⟩ := h4
        subst h5
        have h6 := kvsSame_eq h6
        subst h6
        exact both (snd_gdx g hc h1 h2 (sndE k g _ h3).1) (fun t => t)
      · cases h4
    · cases h
  | .op2 o a b, X, cy, es, W, g, e, h => by
    unfold ckE at h
    split at h
    · simp only [Bool.and_eq_true] at h
      exact ⟨snd_op2 h.1.1 (sndE a g _ h.1.2).1 (sndE b g _ h.2).1, fun t => by cases t⟩
    · cases h
  | .cmp o a b, X, cy, es, W, g, e, h => by
    unfold ckE at h
    split at h
    · simp only [Bool.and_eq_true] at h
      exact both2 (snd_cmp g h.1.1.1 h.1.1.2 (sndE a g _ h.1.2).1 (sndE b g _ h.2).1)
    · cases h
  | .chain o o' a b c, X, cy, es, W, g, e, h => by
    unfold ckE at h
    split at h
    · simp only [Bool.and_eq_true] at h
      obtain ⟨⟨⟨⟨⟨⟨h1, h2⟩, h3⟩, h4⟩, h5⟩, h6⟩, h7⟩ := h
      exact both2 (snd_chain g h1 h2 h3 h4 (sndE a g _ h5).1 (sndE b g _ h6).1 (sndE c g _ h7).1)
    · cases h
  | .neg a, X, cy, es, W, g, e, h => by
    unfold ckE at h
    split at h
    · exact ⟨snd_neg (sndE a g _ h).1, fun t => by cases t⟩
    · cases h
  | .not_ a, X, cy, es, W, g, e, h => by
    unfold ckE at h
    split at h
    · exact ⟨snd_not (sndE a g _ h).1, fun t => by unfold tst at t; exact snd_notT ((sndE a g _ h).2 t)⟩
    · cases h
  | .and_ ms, X, cy, es, W, g, e, h => by
    unfold ckE at h
    split at h
    · rename_i vs pos
      have k := sndAnd ms g vs pos h
      refine ⟨k.1.imp fun s H Q ⟨B, b, σ, h, μ, st, q⟩ => ⟨B, b, σ, h, μ, st, by unfold evE at q; exact q⟩, fun t => ?_⟩
      unfold tst at t
      exact ((k.2 t).imp fun s H Q ⟨B, b, σ, h, μ, st, q⟩ => ⟨B, b, σ, h, μ, st, by unfold evE at q; exact q⟩).pt
    · cases h
  | .or_ ms, X, cy, es, W, g, e, h => by
    unfold ckE at h
    split at h
    · rename_i vs pos
      have k := sndOr ms g vs pos h
      refine ⟨k.1.imp fun s H Q ⟨B, b, σ, h, μ, st, q⟩ => ⟨B, b, σ, h, μ, st, by unfold evE at q; exact q⟩, fun t => ?_⟩
      unfold tst at t
      exact ((k.2 t).imp fun s H Q ⟨B, b, σ, h, μ, st, q⟩ => ⟨B, b, σ, h, μ, st, by unfold evE at q; exact q⟩).pt
    · cases h
  | .ite c a b, X, cy, es, W, g, e, h => by
    unfold ckE at h
    split at h
    · simp only [Bool.and_eq_true] at h
      exact ⟨snd_ite ((sndE c g _ h.1.1.1).2 h.1.1.2) (sndE a g _ h.1.2).1 (sndE b g _ h.2).1, fun t => by cases t⟩
    · cases h
  | .tup ms, X, cy, es, W, g, e, h => by
    unfold ckE at h
    split at h
    · simp only [Bool.and_eq_true, decide_eq_true_eq] at h
      exact ⟨snd_tup h.1 (sndEs ms g _ h.2), fun t => by cases t⟩
    · cases h
  | .lof f, X, cy, es, W, g, e, h => by
    unfold ckE at h
    exact both (snd_lof (sndF f g e h)) (fun t => t)
  | .mof f, X, cy, es, W, g, e, h => by
    unfold ckE at h
    simp only [Bool.and_eq_true] at h
    exact both (snd_mof (g.calm h.1).2 (sndF f g e h.2)) (fun t => t)
  | .tof f, X, cy, es, W, g, e, h => by
    unfold ckE at h
    split at h
    · simp only [Bool.and_eq_true] at h
      obtain ⟨n1, n2⟩ := callN_of h.1.1
      exact both (snd_tof g n1 n2 h.1.2 (sndF f g _ h.2)) (fun t => t)
    · cases h
  | .allc f, X, cy, es, W, g, e, h => by
    unfold ckE at h
    split at h
    · simp only [Bool.and_eq_true] at h
      obtain ⟨n1, n2⟩ := callN_of h.1.1.2
      exact both (snd_allc g h.1.1.1 n1 n2 h.1.2 (sndF f g _ h.2)) (fun t => t)
    · cases h
  | .anyc f, X, cy, es, W, g, e, h => by
    unfold ckE at h
    split at h
    · simp only [Bool.and_eq_true] at h
      obtain ⟨n1, n2⟩ := callN_of h.1.1.2
      exact both (snd_anyc g h.1.1.1 n1 n2 h.1.2 (sndF f g _ h.2)) (fun t => t)
    · cases h
  | .idx a i, X, cy, es, W, g, e, h => by
    unfold ckE at h
    split at h
    · simp only [Bool.and_eq_true] at h
      exact both (snd_idx h.1.1 (sndE a g _ h.1.2).1 (sndE i g _ h.2).1) (fun t => t)
    · cases h
  | .tsl a lo hi, X, cy, es, W, g, e, h => by
    unfold ckE at h
    split at h
    · simp only [Bool.and_eq_true] at h
      exact both (snd_tsl (sndE a g _ h.1.1).1 (sndO lo g _ h.1.2) (sndO hi g _ h.2)) (fun t => t)
    · cases h
  | .call f ms, X, cy, es, W, g, e, h => by
    unfold ckE at h
    split at h
    · simp only [Bool.and_eq_true, decide_eq_true_eq] at h
      exact both (snd_call g h.1.1.1 h.1.1.2 h.1.2 (ckEs_plain h.2).1 rfl (sndEs ms g _ h.2)) (fun t => t)
    · cases h
  | .callv ns i ms, X, cy, es, W, g, e, h => by
    unfold ckE at h
    split at h
    · simp only [Bool.and_eq_true, decide_eq_true_eq] at h
      obtain ⟨⟨⟨⟨h1, h2⟩, h3⟩, h4⟩, h5⟩ := h
      exact both (snd_callv (ns := ns) g h1 h2 h3 (fun n hn => by
        have z := List.all_eq_true.mp h4 n (List.contains_iff_mem.mp hn)
        split at z
        · rename_i x k e
          exact ⟨x, by rw [e, beq_iff_eq.mp z]⟩
        · cases z) (ckEs_plain h5).1 (sndEs ms g _ h5)) (fun t => t)
    · cases h
  | .b1 o a, X, cy, es, W, g, e, h => by
    unfold ckE at h
    split at h
    · simp only [Bool.and_eq_true] at h
      obtain ⟨⟨⟨h1, h2⟩, h3⟩, h4⟩ := h
      split at h2
      · rename_i n hn
        obtain ⟨n1, n2⟩ := callN_of h2
        exact both (snd_b1 g h1 (n1 ▸ hn) n2 h3 (sndE a g _ h4).1) (fun t => t)
      · cases h2
    · cases h
  | .b2 o a b, X, cy, es, W, g, e, h => by
    unfold ckE at h
    split at h
    · simp only [Bool.and_eq_true, Bool.or_eq_true, decide_eq_true_eq] at h
      obtain ⟨⟨⟨⟨⟨⟨h1, h2⟩, h3⟩, h4⟩, h5⟩, h6⟩, h7⟩ := h
      obtain ⟨n1, n2⟩ := callN_of h2
      exact both (snd_b2 g h1 n1.symm n2 (fun ho => g.hasgcd (h3.resolve_left fun z => z ho)) h4 h5 (sndE a g _ h6).1 (sndE b g _ h7).1) (fun t => t)
    · cases h
  | .meth m o ms, X, cy, es, W, g, e, h => by
    unfold ckE at h
    split at h
    · simp only [Bool.and_eq_true, decide_eq_true_eq] at h
      obtain ⟨⟨⟨⟨⟨⟨h1, h2⟩, h3⟩, h4⟩, h5⟩, h6⟩, h7⟩ := h
      have pl := ckEs_plain h7
      exact both (snd_meth g h1 h2 h3 h4 (pl.2 ▸ h5) pl.1 (sndE o g _ h6).1 (sndEs ms g _ h7)) (fun t => t)
    · cases h
  | .unk, X, cy, es, W, g, e, h => ⟨⟨fun _ _ _ _ _ _ ⟨B, b, σ, h, μ, st, q⟩ => by unfold evE at q; exact q.elim⟩, fun t => by
    exact ⟨fun _ _ _ _ _ _ ⟨B, b, σ, h, μ, st, q⟩ => by unfold evE at q; exact q.elim⟩⟩
  | .isi a t, X, cy, es, W, g, e, h => by
    unfold ckE at h
    split at h
    · simp only [Bool.and_eq_true] at h
      obtain ⟨⟨⟨⟨h1, h2⟩, h3⟩, h4⟩, h5⟩ := h
      obtain ⟨n1, n2⟩ := callN_of h1
      split at h5
      · simp only [Bool.and_eq_true, decide_eq_true_eq] at h5
        obtain ⟨hx, h5⟩ := h5
        exact both (snd_isx g hx h5 n1 n2 h2 h3 (sndE a g _ h4).1 ⟨_, (g.mkx _ _ h5).1⟩) (fun t => t)
      · simp only [Bool.and_eq_true, decide_eq_true_eq] at h5
        obtain ⟨⟨k1, k2⟩, k3⟩ := h5
        have hex : ∃ c, p.cls.contains c = true := by
          cases q : cy.tb.clss with
          | nil => rw [q] at k3; cases k3
          | cons y r =>
            obtain ⟨c, x⟩ := y
            exact ⟨c, (g.mkx c x (by rw [q, List.lookup_cons]; simp)).1⟩
        exact both (snd_isv g k1 k2 n1 n2 h2 h3 (sndE a g _ h4).1 hex) (fun t => t)
      · split at h5
        · rename_i m hm
          have h5 := of_decide_eq_true h5
          subst h5
          exact both (snd_isi g hm n1 n2 h2 h3 (sndE a g _ h4).1) (fun t => t)
        · cases h5
    · cases h
  | .trev a, X, cy, es, W, g, e, h => by
    unfold ckE at h
    split at h
    · simp only [Bool.and_eq_true] at h
      have h0 := beq_iff_eq.mp h.1
      subst h0
      exact both (snd_trev (sndE a g _ h.2).1) (fun t => t)
    · cases h
  | .tix o a, X, cy, es, W, g, e, h => by
    unfold ckE at h
    split at h
    · simp only [Bool.and_eq_true, decide_eq_true_eq] at h
      obtain ⟨⟨⟨⟨⟨⟨h1, h2⟩, h3⟩, h4⟩, h5⟩, h6⟩, h7⟩ := h
      exact both (snd_tix g h1 h2 h3 h4 h5 (sndE o g _ h6).1 (sndE a g _ h7).1) (fun t => t)
    · cases h
  | .xix o a, X, cy, es, W, g, e, h => by
    unfold ckE at h
    split at h
    · simp only [Bool.and_eq_true, decide_eq_true_eq] at h
      obtain ⟨⟨⟨⟨⟨⟨h1, h2⟩, h3⟩, h4⟩, h5⟩, h6⟩, h7⟩ := h
      exact both (snd_xix g h1 h2 h3 h4 h5 (sndE o g _ h6).1 (sndE a g _ h7).1) (fun t => t)
    · cases h
  | .mint a, X, cy, es, W, g, e, h => by
    unfold ckE at h
    split at h
    · simp only [Bool.and_eq_true] at h
      obtain ⟨n1, n2⟩ := callN_of h.1.1.2
      exact both (snd_mint g h.1.1.1 n1 n2 h.1.2 (sndE a g _ h.2).1) (fun t => t)
    · cases h
  | .eline a, X, cy, es, W, g, e, h => by
    unfold ckE at h
    split at h
    · simp only [Bool.and_eq_true, decide_eq_true_eq] at h
      exact both (snd_eline g h.1.1 h.1.2 (sndE (.var _) g _ h.2).1) (fun t => t)
    · cases h
  | .dnewu, X, cy, es, W, g, e, h => by
    unfold ckE at h
    split at h
    · exact both (snd_dnewu g h) (fun t => t)
    · cases h
  | .dnewt, X, cy, es, W, g, e, h => by
    unfold ckE at h
    split at h
    · exact both (snd_dnewt g h) (fun t => t)
    · cases h
  | .lset a, X, cy, es, W, g, e, h => by
    unfold ckE at h
    split at h
    · simp only [Bool.and_eq_true] at h
      obtain ⟨⟨⟨⟨h1, h2⟩, h3⟩, h4⟩, h5⟩ := h
      obtain ⟨n1, n2⟩ := callN_of h2
      obtain ⟨m1, m2⟩ := callN_of h3
      exact both (snd_lset g h1 n1 n2 m1 m2 h4 (sndE a g _ h5).1) (fun t => t)
    · cases h
  | .strI a, X, cy, es, W, g, e, h => by
    unfold ckE at h
    split at h
    · simp only [Bool.and_eq_true] at h
      obtain ⟨n1, n2⟩ := callN_of h.1.1
      exact both (snd_strI g n1 n2 h.1.2 (sndE a g _ h.2).1) (fun t => t)
    · cases h
  | .intS a, X, cy, es, W, g, e, h => by
    unfold ckE at h
    split at h
    · simp only [Bool.and_eq_true] at h
      obtain ⟨n1, n2⟩ := callN_of h.1.1
      exact both (snd_intS g n1 n2 h.1.2 (sndE a g _ h.2).1) (fun t => t)
    · cases h
  | .sjn o a, X, cy, es, W, g, e, h => by
    unfold ckE at h
    split at h
    · simp only [Bool.and_eq_true, decide_eq_true_eq] at h
      obtain ⟨⟨⟨⟨⟨h1, h2⟩, h3⟩, h4⟩, h5⟩, h6⟩ := h
      exact both (snd_sjn h1 h2 h3 h4 (sndE o g _ h5).1 (sndE a g _ h6).1) (fun t => t)
    · cases h
  | .insg a b, X, cy, es, W, g, e, h => by
    unfold ckE at h
    split at h
    · simp only [Bool.and_eq_true] at h
      exact both2 (snd_insg h.1.1 (sndE a g _ h.1.2).1 (sndE b g _ h.2).1)
    · cases h
  | .srep a b, X, cy, es, W, g, e, h => by
    unfold ckE at h
    split at h
    · simp only [Bool.and_eq_true] at h
      exact both (snd_srep (sndE a g _ h.1).1 (sndE b g _ h.2).1) (fun t => t)
    · cases h
  | .lsetn a, X, cy, es, W, g, e, h => by
    unfold ckE at h
    split at h
    · simp only [Bool.and_eq_true] at h
      obtain ⟨⟨⟨⟨h1, h2⟩, h3⟩, h4⟩, h5⟩ := h
      obtain ⟨n1, n2⟩ := callN_of h2
      obtain ⟨m1, m2⟩ := callN_of h3
      exact both (snd_lsetn g h1 n1 n2 m1 m2 h4 (sndE a g _ h5).1) (fun t => t)
    · cases h
  | .frz _, _, _, _, _, _, e, h => by unfold ckE at h; cases h
  | .rngv a b, X, cy, es, W, g, e, h => by
    unfold ckE at h
    split at h
    · simp only [Bool.and_eq_true] at h
      obtain ⟨⟨⟨⟨h1, h2⟩, h3⟩, h4⟩, h5⟩ := h
      obtain ⟨n1, n2⟩ := callN_of h1
      exact both (snd_rngv g n1 n2 h2 h3 (sndE a g _ h4).1 (sndE b g _ h5).1) (fun t => t)
    · cases h
  | .dnew, X, cy, es, W, g, e, h => by
    unfold ckE at h
    split at h
    · exact both (snd_dnew g h) (fun t => t)
    · cases h
  | .din neg k d, X, cy, es, W, g, e, h => by
    unfold ckE at h
    split at h
    · simp only [Bool.and_eq_true] at h
      exact both2 (snd_din g h.1.1.1 h.1.1.2 (sndE k g _ h.1.2).1 (sndE d g _ h.2).1)
    · cases h
  | .dlen a, X, cy, es, W, g, e, h => by
    unfold ckE at h
    split at h
    · simp only [Bool.and_eq_true] at h
      obtain ⟨⟨⟨h1, h2⟩, h3⟩, h4⟩ := h
      obtain ⟨n1, n2⟩ := callN_of h2
      exact both (snd_dlen g n1 n2 h3 (sndE a g _ h4).1) (fun t => t)
    · cases h
  | .dgd d k z, X, cy, es, W, g, e, h => by
    unfold ckE at h
    split at h
    · simp only [Bool.and_eq_true, decide_eq_true_eq] at h
      obtain ⟨⟨⟨⟨⟨⟨⟨h1, h2⟩, h3⟩, h4⟩, h5⟩, h6⟩, h7⟩, h8⟩ := h
      exact both (snd_dgd g h1 h2 h3 h4 h5 (sndE d g _ h6).1 (sndE k g _ h7).1 (sndE z g _ h8).1) (fun t => t)
    · cases h
  | .dget d k, X, cy, es, W, g, e, h => by
    unfold ckE at h
    split at h
    · simp only [Bool.and_eq_true] at h
      exact both (snd_dget g h.1.1 (sndE d g _ h.1.2).1 (sndE k g _ h.2).1) (fun t => t)
    · cases h
theorem sndO : ∀ (m : Oe) {X : Cx} {cy : Cy} {es : List (Addr × Nat × Option Addr)} {W : WX} (g : Good X p cy es W) (e : Option Expr), ckO cy m e = true → PO X e (RdO X p es W m)
  | .no, X, cy, es, W, g, e, h => by
    unfold ckO at h
    split at h
    · exact snd_no
    · cases h
  | .so a, X, cy, es, W, g, e, h => by
    unfold ckO at h
    split at h
    · exact snd_so (sndE a g _ h).1
    · cases h
theorem sndEs : ∀ (m : Es) {X : Cx} {cy : Cy} {es : List (Addr × Nat × Option Addr)} {W : WX} (g : Good X p cy es W) (l : List Expr), ckEs cy m l = true → PA X l (RdA X p es W m)
  | .nil, X, cy, es, W, g, l, h => by
    unfold ckEs at h
    rw [isempty h]
    exact snd_nil
  | .cons a r, X, cy, es, W, g, l, h => by
    unfold ckEs at h
    cases l with
    | nil => cases h
    | cons x xs =>
      simp only [Bool.and_eq_true] at h
      exact snd_cons h.1.1 (sndE a g _ h.1.2).1 (sndEs r g _ h.2)
theorem sndAnd : ∀ (m : Es) {X : Cx} {cy : Cy} {es : List (Addr × Nat × Option Addr)} {W : WX} (g : Good X p cy es W) (l : List Expr) (pos : Pos), ckL cy m l = true → PE X (.BoolOp .And l pos) (RdAnd X p es W m) ∧ (tstL m l = true → PW X (.BoolOp .And l pos) (RdAndT X p es W m))
  | .nil, _, _, _, _, _, l, _, h => by unfold ckL at h; cases h
  | .cons a .nil, X, cy, es, W, g, l, pos, h => by
    unfold ckL at h
    cases l with
    | nil => cases h
    | cons x xs =>
      simp only [Bool.and_eq_true] at h
      cases xs with
      | nil =>
        refine ⟨snd_and1 (sndE a g _ h.1).1, fun t => ?_⟩
        unfold tstL at t
        simp only [Bool.and_eq_true] at t
        exact snd_and1T ((sndE a g _ h.1).2 t.1)
      | cons y ys => have := h.2; unfold ckL at this; cases this
  | .cons a (.cons c r), X, cy, es, W, g, l, pos, h => by
    unfold ckL at h
    cases l with
    | nil => cases h
    | cons x xs =>
      simp only [Bool.and_eq_true] at h
      cases xs with
      | nil => have := h.2; unfold ckL at this; cases this
      | cons y ys =>
        have k := sndAnd (.cons c r) g (y :: ys) pos h.2
        refine ⟨snd_and (sndE a g _ h.1).1 k.1, fun t => ?_⟩
        unfold tstL at t
        simp only [Bool.and_eq_true] at t
        exact snd_andT ((sndE a g _ h.1).2 t.1) (k.2 t.2)
theorem sndOr : ∀ (m : Es) {X : Cx} {cy : Cy} {es : List (Addr × Nat × Option Addr)} {W : WX} (g : Good X p cy es W) (l : List Expr) (pos : Pos), ckL cy m l = true → PE X (.BoolOp .Or l pos) (RdOr X p es W m) ∧ (tstL m l = true → PW X (.BoolOp .Or l pos) (RdOrT X p es W m))
  | .nil, _, _, _, _, _, l, _, h => by unfold ckL at h; cases h
  | .cons a .nil, X, cy, es, W, g, l, pos, h => by
    unfold ckL at h
    cases l with
    | nil => cases h
    | cons x xs =>
      simp only [Bool.and_eq_true] at h
      cases xs with
      | nil =>
        refine ⟨snd_or1 (sndE a g _ h.1).1, fun t => ?_⟩
        unfold tstL at t
        simp only [Bool.and_eq_true] at t
        exact snd_or1T ((sndE a g _ h.1).2 t.1)
      | cons y ys => have := h.2; unfold ckL at this; cases this
  | .cons a (.cons c r), X, cy, es, W, g, l, pos, h => by
    unfold ckL at h
    cases l with
    | nil => cases h
    | cons x xs =>
      simp only [Bool.and_eq_true] at h
      cases xs with
      | nil => have := h.2; unfold ckL at this; cases this
      | cons y ys =>
        have k := sndOr (.cons c r) g (y :: ys) pos h.2
        refine ⟨snd_or (sndE a g _ h.1).1 k.1, fun t => ?_⟩
        unfold tstL at t
        simp only [Bool.and_eq_true] at t
        exact snd_orT ((sndE a g _ h.1).2 t.1) (k.2 t.2)
theorem sndC : ∀ (m : Es) {X : Cx} {cy : Cy} {es : List (Addr × Nat × Option Addr)} (g : Good X p cy es WN) (l : List Expr), ckC cy m l = true → PTs X l (RdC X p es m)
  | .nil, X, cy, es, g, l, h => by
    unfold ckC at h
    rw [isempty h]
    refine ⟨fun pins s σ H Q I ⟨B, b, σ', h, μ, st, q⟩ => pts_nil.run pins s σ H Q I ?_⟩
    unfold evC at q
    exact Post.here q st.hr
  | .cons a .nil, X, cy, es, g, l, h => by
    unfold ckC at h
    cases l with
    | nil => cases h
    | cons x xs =>
      cases xs with
      | nil =>
        simp only [Bool.and_eq_true] at h
        refine ⟨fun pins s σ H Q I ⟨B, b, σ', h', μ, st, q⟩ => (pts_one ((sndE a g _ h.1).2 h.2)).run pins s σ H Q I ⟨B, b, σ', h', μ, st, ?_⟩⟩
        unfold evC at q
        refine (q.bind).mono (fun x h1 μ1 H1 l g1 z => ?_) fun _ _ _ _ _ _ _ z => z.elim
        cases x with
        | bl c => exact ⟨c, rfl, Post.here z g1⟩
        | _ => exact z.elim
      | cons y ys => cases h
  | .cons a (.cons c r), X, cy, es, g, l, h => by
    unfold ckC at h
    cases l with
    | nil => cases h
    | cons x xs => cases xs <;> cases h
theorem sndF : ∀ (m : F) {X : Cx} {cy : Cy} {es : List (Addr × Nat × Option Addr)} {W : WX} (g : Good X p cy es W) (e : Expr), ckF cy m e = true → PE X e (RdF X p es W m)
  | .disp ms, X, cy, es, W, g, e, h => by
    unfold ckF at h
    split at h
    · simp only [Bool.and_eq_true, decide_eq_true_eq] at h
      exact snd_disp h.1 (sndEs ms g _ h.2)
    · cases h
  | .comp t it c l own, X, cy, es, W, g, e, h => by
    unfold ckF at h
    split at h
    · rename_i elt tg iter ifs n scope pos
      simp only [Bool.and_eq_true, decide_eq_true_eq] at h
      obtain ⟨⟨⟨⟨⟨⟨⟨⟨h1, h2⟩, h3⟩, h4⟩, h5⟩, h6⟩, h7⟩, h8⟩, h9⟩ := h
      subst h2
      have es0 := (g.calm h1).2
      subst es0
      have bo : BlkOk X.N X.env.scope scope (ownP cy own) := by
        rw [g.N]
        exact blkOk_sc (sc := scOf cy.sc) (show cy.sc = X.env.scope.names from g.sc.symm) (blkOk_by h5)
      have k := (snd_comp (own := ownP cy own) (t := t) (cs := c) (l := l) (it := it) (elt := elt) (pos := pos) (ifs := ifs) g h1 (sndI it g h1 tg _ h3.1 h3.2) bo (fun i hi => by
        rw [ownP_ix]
        exact List.contains_iff_mem.mp (List.all_eq_true.mp h6 i hi)) (fun s H C cl fp => sndT t (g.blk h1 bo.kind s H C cl fp) tg h7) (fun s H C cl fp => sndC c (g.blk h1 bo.kind s H C cl fp) ifs h8) (fun s H C cl fp => (sndE l (g.blk h1 bo.kind s H C cl fp) elt h9).1) h4).2
      rw [ownP_ix] at k
      exact k
    · cases h
  | .compw i t l own, X, cy, es, W, g, e, h => by
    unfold ckF at h
    split at h
    · rename_i elt tg x px n scope pos
      simp only [Bool.and_eq_true, decide_eq_true_eq] at h
      obtain ⟨⟨⟨⟨⟨⟨⟨h1, h2⟩, h3⟩, h4⟩, h5⟩, h6⟩, h7⟩, h9⟩ := h
      subst h2
      have es0 := (g.calm h1).2
      subst es0
      have bo : BlkOk X.N X.env.scope scope (ownP cy own) := by
        rw [g.N]
        exact blkOk_sc (sc := scOf cy.sc) (show cy.sc = X.env.scope.names from g.sc.symm) (blkOk_by h5)
      have k := (snd_compw (own := ownP cy own) (t := t) (l := l) (elt := elt) (pos := pos) (px := px) g h1 h3 h4 bo (fun i hi => by
        rw [ownP_ix]
        exact List.contains_iff_mem.mp (List.all_eq_true.mp h6 i hi)) (fun s H C cl fp => sndT t (g.blk h1 bo.kind s H C cl fp) tg h7) (fun s H C cl fp => (sndE l (g.blk h1 bo.kind s H C cl fp) elt h9).1)).2
      rw [ownP_ix] at k
      exact k
    · cases h
  | .copy a, X, cy, es, W, g, e, h => by
    unfold ckF at h
    split at h
    · simp only [Bool.and_eq_true] at h
      obtain ⟨n1, n2⟩ := callN_of h.1.1
      exact snd_listOf g n1 n2 h.1.2 (sndE a g _ h.2).1
    · cases h
  | .slice a lo hi, X, cy, es, W, g, e, h => by
    unfold ckF at h
    split at h
    · simp only [Bool.and_eq_true] at h
      exact snd_slice (sndE a g _ h.1.1).1 (sndO lo g _ h.1.2) (sndO hi g _ h.2)
    · cases h
  | .cat a b, X, cy, es, W, g, e, h => by
    unfold ckF at h
    split at h
    · rename_i op _ _
      simp only [Bool.and_eq_true] at h
      obtain ⟨⟨h1, h2⟩, h3⟩ := h
      cases op <;> first | exact snd_cat (sndE a g _ h2).1 (sndE b g _ h3).1 | cases h1
    · cases h
  | .rep a b, X, cy, es, W, g, e, h => by
    unfold ckF at h
    split at h
    · rename_i op _ _
      simp only [Bool.and_eq_true] at h
      obtain ⟨⟨h1, h2⟩, h3⟩ := h
      cases op <;> first | exact snd_rep (sndE a g _ h2).1 (sndE b g _ h3).1 | cases h1
    · cases h
  | .rev a, X, cy, es, W, g, e, h => by
    unfold ckF at h
    split at h
    · simp only [Bool.and_eq_true] at h
      have h1 := beq_iff_eq.mp h.1
      subst h1
      exact snd_rev (sndE a g _ h.2).1
    · cases h
  | .ofI (.rng1 a), X, cy, es, W, g, e, h => by
    unfold ckF at h
    split at h
    · simp only [Bool.and_eq_true] at h
      obtain ⟨⟨⟨⟨h1, h2⟩, h3⟩, h4⟩, h5⟩ := h
      obtain ⟨n1, n2⟩ := callN_of h2
      obtain ⟨m1, m2⟩ := callN_of h3
      exact snd_ofI1 g h1 n1 n2 m1 m2 h4 (sndE a g _ h5).1
    · cases h
  | .ofI (.rng2 a b), X, cy, es, W, g, e, h => by
    unfold ckF at h
    split at h
    · simp only [Bool.and_eq_true] at h
      obtain ⟨⟨⟨⟨⟨⟨h1, h2⟩, h3⟩, h4⟩, h5⟩, h6⟩, h7⟩ := h
      obtain ⟨n1, n2⟩ := callN_of h2
      obtain ⟨m1, m2⟩ := callN_of h3
      exact snd_ofI2 g h1 n1 n2 m1 m2 h4 h5 (sndE a g _ h6).1 (sndE b g _ h7).1
    · cases h
  | .ofI (.ex _), _, _, _, _, _, e, h => by unfold ckF at h; cases h
  | .ofI (.rng3 _ _ _), _, _, _, _, _, e, h => by unfold ckF at h; cases h
  | .ofI (.enum _), _, _, _, _, _, e, h => by unfold ckF at h; cases h
  | .ofI (.zip _ _), _, _, _, _, _, e, h => by unfold ckF at h; cases h
  | .ofI (.vals _), _, _, _, _, _, e, h => by unfold ckF at h; cases h
  | .ofI (.keys _), _, _, _, _, _, e, h => by unfold ckF at h; cases h
  | .ofI (.zipn _), _, _, _, _, _, e, h => by unfold ckF at h; cases h
  | .ofI (.comb _ _), _, _, _, _, _, e, h => by unfold ckF at h; cases h
  | .ofI (.chars _), _, _, _, _, _, e, h => by unfold ckF at h; cases h
  | .sorted it, X, cy, es, W, g, e, h => match it, h with
    | .ex a, h => by
      unfold ckF at h
      split at h
      · simp only [Bool.and_eq_true] at h
        obtain ⟨n1, n2⟩ := callN_of h.1.1
        exact snd_sorted g n1 n2 h.1.2 (sndE a g _ h.2).1
      · cases h
    | .chars _, h => by unfold ckF at h; cases h
    | .rng1 _, h => by unfold ckF at h; cases h
    | .rng2 _ _, h => by unfold ckF at h; cases h
    | .rng3 _ _ _, h => by unfold ckF at h; cases h
    | .enum _, h => by unfold ckF at h; cases h
    | .zip _ _, h => by unfold ckF at h; cases h
    | .vals _, h => by unfold ckF at h; cases h
    | .keys _, h => by unfold ckF at h; cases h
    | .zipn _, h => by unfold ckF at h; cases h
    | .comb _ _, h => by unfold ckF at h; cases h
  | .sset a, X, cy, es, W, g, e, h => by
    unfold ckF at h
    split at h
    · simp only [Bool.and_eq_true] at h
      obtain ⟨⟨⟨⟨h1, h2⟩, h3⟩, h4⟩, h5⟩ := h
      obtain ⟨n1, n2⟩ := callN_of h2
      obtain ⟨m1, m2⟩ := callN_of h3
      exact snd_sset g h1 n1 n2 m1 m2 h4 (sndE a g _ h5).1
    · cases h
  | .spl a b, X, cy, es, W, g, e, h => by
    unfold ckF at h
    split at h
    · simp only [Bool.and_eq_true, decide_eq_true_eq] at h
      obtain ⟨⟨⟨⟨⟨h1, h2⟩, h3⟩, h4⟩, h5⟩, h6⟩ := h
      exact snd_spl h1 h2 h3 h4 (sndE a g _ h5).1 (sndE b g _ h6).1
    · cases h
  | .wds a, X, cy, es, W, g, e, h => by
    unfold ckF at h
    split at h
    · simp only [Bool.and_eq_true, decide_eq_true_eq] at h
      obtain ⟨⟨⟨h1, h2⟩, h3⟩, h4⟩ := h
      exact snd_wds h1 h2 h3 (sndE a g _ h4).1
    · cases h
  | .dvs a, X, cy, es, W, g, e, h => by
    unfold ckF at h
    split at h
    · simp only [Bool.and_eq_true, decide_eq_true_eq] at h
      obtain ⟨⟨⟨⟨⟨h1, h2⟩, h3⟩, h4⟩, h5⟩, h6⟩ := h
      obtain ⟨n1, n2⟩ := callN_of h2
      exact snd_dvs g h1 n1 n2 h3 h4 h5 (sndE a g _ h6).1
    · cases h
  | .srtt a, X, cy, es, W, g, e, h => by
    unfold ckF at h
    split at h
    · simp only [Bool.and_eq_true] at h
      obtain ⟨n1, n2⟩ := callN_of h.1.1
      exact snd_srtt g n1 n2 h.1.2 (sndE a g _ h.2).1
    · cases h
  | .srtp a, X, cy, es, W, g, e, h => by
    unfold ckF at h
    split at h
    · simp only [Bool.and_eq_true] at h
      obtain ⟨n1, n2⟩ := callN_of h.1.1
      exact snd_srtp g n1 n2 h.1.2 (sndE a g _ h.2).1
    · cases h
  | .dsort a, X, cy, es, W, g, e, h => by
    unfold ckF at h
    split at h
    · simp only [Bool.and_eq_true] at h
      obtain ⟨⟨⟨h1, h2⟩, h3⟩, h4⟩ := h
      obtain ⟨n1, n2⟩ := callN_of h2
      exact snd_dsort g h1 n1 n2 h3 (sndE a g _ h4).1
    · cases h
theorem sndI : ∀ (m : I) {X : Cx} {cy : Cy} {es : List (Addr × Nat × Option Addr)} {W : WX} (g : Good X p cy es W) (hc : cy.calm = true) (tg e : Expr), tgI m tg = true → ckI cy m e = true → PI X tg e (RdI X p es W m)
  | .ex a, X, cy, es, W, g, hc, tg, e, ht, h => by
    unfold ckI at h
    exact snd_iex (sndE a g _ h).1
  | .chars a, X, cy, es, W, g, hc, tg, e, ht, h => by
    unfold ckI at h
    exact snd_chars (sndE a g _ h).1
  | .rng1 a, X, cy, es, W, g, hc, tg, e, ht, h => by
    unfold ckI at h
    split at h
    · simp only [Bool.and_eq_true] at h
      obtain ⟨n1, n2⟩ := callN_of h.1.1
      exact snd_rng1 g n1 n2 h.1.2 (sndE a g _ h.2).1
    · cases h
  | .rng2 a b, X, cy, es, W, g, hc, tg, e, ht, h => by
    unfold ckI at h
    split at h
    · simp only [Bool.and_eq_true] at h
      obtain ⟨n1, n2⟩ := callN_of h.1.1.1.1
      exact snd_rng2 g n1 n2 h.1.1.1.2 h.1.1.2 (sndE a g _ h.1.2).1 (sndE b g _ h.2).1
    · cases h
  | .rng3 _ _ _, _, _, _, _, _, _, tg, e, ht, h => by unfold ckI at h; cases h
  | .enum a, X, cy, es, W, g, hc, tg, e, ht, h => by
    unfold ckI at h
    split at h
    · simp only [Bool.and_eq_true] at h
      obtain ⟨n1, n2⟩ := callN_of h.1.1
      cases tg <;> first | exact snd_enum g n1 n2 h.1.2 (sndE a g _ h.2).1 | (unfold tgI at ht; cases ht)
    · cases h
  | .zip a b, X, cy, es, W, g, hc, tg, e, ht, h => by
    unfold ckI at h
    split at h
    · simp only [Bool.and_eq_true] at h
      obtain ⟨n1, n2⟩ := callN_of h.1.1.1.1
      cases tg <;> first | exact snd_zip g n1 n2 h.1.1.1.2 h.1.1.2 (sndE a g _ h.1.2).1 (sndE b g _ h.2).1 | (unfold tgI at ht; cases ht)
    · cases h
  | .vals _, _, _, _, _, _, _, tg, e, ht, h => by unfold ckI at h; cases h
  | .keys _, _, _, _, _, _, _, tg, e, ht, h => by unfold ckI at h; cases h
  | .zipn es, X, cy, _, W, g, hc, tg, e, ht, h => by
    unfold ckI at h
    split at h
    · simp only [Bool.and_eq_true] at h
      obtain ⟨n1, n2⟩ := callN_of h.1.1
      cases tg <;> first | exact snd_zipn g n1 n2 h.1.2 (sndEs es g _ h.2) | (unfold tgI at ht; cases ht)
    · cases h
  | .comb a b, X, cy, es, W, g, hc, tg, e, ht, h => by
    unfold ckI at h
    split at h
    · simp only [Bool.and_eq_true] at h
      obtain ⟨n1, n2⟩ := callN_of h.1.1.1.1.2
      exact snd_comb g hc h.1.1.1.1.1 n1 n2 h.1.1.1.2 h.1.1.2 (sndE a g _ h.1.2).1 (sndE b g _ h.2).1
    · cases h
theorem sndT : ∀ (m : T) {X : Cx} {cy : Cy} {es : List (Addr × Nat × Option Addr)} {W : WX} (g : Good X p cy es W) (e : Expr), ckT cy m e = true → PG X e (RdG X p es W m)
  | .nm i, X, cy, es, W, g, e, h => by
    unfold ckT at h
    split at h
    · simp only [Bool.and_eq_true, decide_eq_true_eq] at h
      exact snd_nm g h.1 h.2
    · cases h
  | .tp ts, X, cy, es, W, g, e, h => by
    unfold ckT at h
    split at h
    · simp only [Bool.and_eq_true, decide_eq_true_eq] at h
      exact snd_tp g h.1.1.1 h.1.1.2 h.1.2 (sndTs ts g _ h.1.1.2 h.2)
    · cases h
  | .ix o i, X, cy, es, W, g, e, h => by
    unfold ckT at h
    split at h
    · simp only [Bool.and_eq_true] at h
      exact snd_ix g h.1.1.1 h.1.1.2 (sndE o g _ h.1.2).1 (sndE i g _ h.2).1
    · cases h
  | .dix o i, X, cy, es, W, g, e, h => by
    unfold ckT at h
    split at h
    · simp only [Bool.and_eq_true] at h
      exact snd_dix g h.1.1.1 h.1.1.2 (sndE o g _ h.1.2).1 (sndE i g _ h.2).1
    · cases h
theorem sndTs : ∀ (m : Ts) {X : Cx} {cy : Cy} {es : List (Addr × Nat × Option Addr)} {W : WX} (g : Good X p cy es W) (l : List Expr), l.all plainT = true → ckTs cy m l = true → PGs X l (RdGs X p es W m)
  | .nil, X, cy, es, W, g, l, pl, h => by
    unfold ckTs at h
    rw [isempty h]
    exact snd_gnil
  | .cons t ts, X, cy, es, W, g, l, pl, h => by
    unfold ckTs at h
    cases l with
    | nil => cases h
    | cons x xs =>
      simp only [Bool.and_eq_true] at h
      simp only [List.all_cons, Bool.and_eq_true] at pl
      exact snd_gcons pl.1 (sndT t g _ h.1) (sndTs ts g _ pl.2 h.2)
end
end Mi
end

section
set_option Elab.async false
set_option linter.all false
set_option maxRecDepth 100000
set_option maxHeartbeats 8000000
/-! Snd15: every checked statement; a def keeps its promise -/
namespace Mi
open PySem PySem.Spec PyProof.Rows L2
variable {p : Pk}
section
variable {X : Cx} {cy : Cy} {es : List (Addr × Nat × Option Addr)} {W : WX}
theorem imp_lof {f : F} : ∀ s H Q, RdE X p es W (.lof f) s H Q → RdF X p es W f s H Q := fun s H Q ⟨B, b, σ, h, μ, st, q⟩ => by
  unfold evE at q
  refine ⟨B, b, σ, h, μ, st, ?_⟩
  cases e : evF p.C b f σ h with
  | bad => rw [e] at q; exact q
  | exc c fs h' => rw [e] at q; exact q
  | ok xs h' =>
    rw [e] at q
    intro μ1 H1 l1 g1 a vs n0 e1 nl nf rs
    have q : ∀ μ' H', Le μ H μ' H' → HR X.K p.fa B h' μ' H' → KE' X p es Q (.lst xs) h' μ' H' := q
    refine q (μ1.frz a) H1 ⟨l1.keep, l1.dom, l1.liv, l1.len, fun b z => .inl (l1.fz b z), fun b z => ?_⟩ (g1.frz e1 nl) _ (.lst e1 (.inr rfl) (rs.wide fun _ z => .inl z))
    rcases z with z | z
    · exact l1.nf b z
    · exact .inr (.inl (z ▸ n0))
theorem imp_mof {f : F} : ∀ s H Q, RdE X p [] W (.mof f) s H Q → RdF X p [] W f s H Q := fun s H Q ⟨B, b, σ, h, μ, st, q⟩ => by
  unfold evE at q
  refine ⟨B, b, σ, h, μ, st, ?_⟩
  cases e : evF p.C b f σ h with
  | bad => rw [e] at q; exact q
  | exc c fs h' => rw [e] at q; exact q
  | ok xs h' =>
    rw [e] at q
    intro μ1 H1 l1 g1 a vs n0 e1 nl nf rs
    have q : ∀ μ' H', Le μ H μ' H' → HR X.K p.fa B (h' ++ [.lst xs]) μ' H' → KE' X p [] Q (.ref h'.length) (h' ++ [.lst xs]) μ' H' := q
    have g2 := g1.alloc st.bB (Nat.le_trans st.bl l1.len) e1 nl nf rs
    refine q (μ1.add a) H1 ⟨l1.keep, l1.dom, fun n c z => ?_, by simp [Mu.add]; exact Nat.le_succ_of_le l1.len, l1.fz, l1.nf⟩ g2 _ (.ref (by simp [Mu.add, g1.len]) fun a' z => ?_)
    · by_cases y : n < μ1.l.length
      · have z : (μ1.l ++ [some a])[n]? = some (some c) := z
        rw [List.getElem?_append_left y] at z
        exact l1.liv n c z
      · by_cases y2 : n = μ1.l.length
        · subst y2
          have z : (μ1.l ++ [some a])[μ1.l.length]? = some (some c) := z
          simp at z
          exact .inr ⟨l1.len, z ▸ n0⟩
        · rw [List.getElem?_eq_none (by simp [Mu.add]; omega)] at z; cases z
    · have z : (μ1.l ++ [some a])[h'.length]? = some (some a') := z
      rw [g1.len] at z
      simp at z
      exact z.symm
/-- name = [.. for ..] on one line, the name a local of the def -/
theorem sndLC (g : Good X p cy es W) {t : T} {it : I} {c : Es} {l : E} {own : List Nat} {e : Expr} (h : ckF cy (.comp t it c l own) e = true) : ∃ elt tg iter ifs scope pos, e = .ListComp elt [⟨tg, iter, ifs, 0⟩] scope pos ∧
    ∀ {i : Nat} {y : Str} {py spos : Pos}, cy.N[i]? = some y → cy.sc.lookup y = some .local → swapsWith e (some (.Name y py)) spos.line X.env = pure true →
      ∃ te, PS X (.Assign [.Name y py] e spos) (tAsg te (gName i)) ∧ ∀ s H Q, RdF X p es W (.comp t it c l own) s H Q → te s H Q := by
  unfold ckF at h
  split at h
  · rename_i elt tg iter ifs n scope pos
    simp only [Bool.and_eq_true, decide_eq_true_eq] at h
    obtain ⟨⟨⟨⟨⟨⟨⟨⟨h1, h2⟩, h3⟩, h4⟩, h5⟩, h6⟩, h7⟩, h8⟩, h9⟩ := h
    subst h2
    have es0 := (g.calm h1).2
    subst es0
    refine ⟨elt, tg, iter, ifs, scope, pos, rfl, fun {i y py spos} hN hl hs => ?_⟩
    have bo : BlkOk X.N X.env.scope scope (ownP cy own) := by
      rw [g.N]
      exact blkOk_sc (sc := scOf cy.sc) (show cy.sc = X.env.scope.names from g.sc.symm) (blkOk_by h5)
    have k := (snd_comp (own := ownP cy own) (t := t) (cs := c) (l := l) (it := it) (elt := elt) (pos := pos) (ifs := ifs) g h1 (sndI it g h1 tg _ h3.1 h3.2) bo (fun i hi => by
      rw [ownP_ix]
      exact List.contains_iff_mem.mp (List.all_eq_true.mp h6 i hi)) (fun s H C cl fp => sndT t (g.blk h1 bo.kind s H C cl fp) tg h7) (fun s H C cl fp => sndC c (g.blk h1 bo.kind s H C cl fp) ifs h8) (fun s H C cl fp => (sndE l (g.blk h1 bo.kind s H C cl fp) elt h9).1) h4).1
    refine ⟨_, ps_setLc (g.calm h1).1 g.nd (by rw [g.N]; exact hN) (by rw [g.sc]; exact hl) hs (sndI it g h1 tg _ h3.1 h3.2) bo (fun s H C cl fp => sndT t (g.blk h1 bo.kind s H C cl fp) tg h7) (fun s H C cl fp => sndC c (g.blk h1 bo.kind s H C cl fp) ifs h8) (fun s H C cl fp => (sndE l (g.blk h1 bo.kind s H C cl fp) elt h9).1) (fun x => plain_fold h4 _ _), fun s H Q q => k s H Q (by rw [ownP_ix]; exact q)⟩
  · cases h
theorem sndLCW (g : Good X p cy es W) {t : T} {i0 : Nat} {l : E} {own : List Nat} {e : Expr} (h : ckF cy (.compw i0 t l own) e = true) : ∃ elt tg iter ifs scope pos, e = .ListComp elt [⟨tg, iter, ifs, 0⟩] scope pos ∧
    ∀ {i : Nat} {y : Str} {py spos : Pos}, cy.N[i]? = some y → cy.sc.lookup y = some .local → swapsWith e (some (.Name y py)) spos.line X.env = pure true →
      ∃ te, PS X (.Assign [.Name y py] e spos) (tAsg te (gName i)) ∧ ∀ s H Q, RdF X p es W (.compw i0 t l own) s H Q → te s H Q := by
  unfold ckF at h
  split at h
  · rename_i elt tg x px n scope pos
    simp only [Bool.and_eq_true, decide_eq_true_eq] at h
    obtain ⟨⟨⟨⟨⟨⟨⟨h1, h2⟩, h3⟩, h4⟩, h5⟩, h6⟩, h7⟩, h9⟩ := h
    subst h2
    have es0 := (g.calm h1).2
    subst es0
    refine ⟨elt, tg, _, [], scope, pos, rfl, fun {i y py spos} hN hl hs => ?_⟩
    have bo : BlkOk X.N X.env.scope scope (ownP cy own) := by
      rw [g.N]
      exact blkOk_sc (sc := scOf cy.sc) (show cy.sc = X.env.scope.names from g.sc.symm) (blkOk_by h5)
    have k := (snd_compw (own := ownP cy own) (t := t) (l := l) (elt := elt) (pos := pos) (px := px) g h1 h3 h4 bo (fun i hi => by
      rw [ownP_ix]
      exact List.contains_iff_mem.mp (List.all_eq_true.mp h6 i hi)) (fun s H C cl fp => sndT t (g.blk h1 bo.kind s H C cl fp) tg h7) (fun s H C cl fp => (sndE l (g.blk h1 bo.kind s H C cl fp) elt h9).1)).1
    refine ⟨_, ps_setLc (g.calm h1).1 g.nd (by rw [g.N]; exact hN) (by rw [g.sc]; exact hl) hs (pi_seq (snd_var g h3 h4)) bo (fun s H C cl fp => sndT t (g.blk h1 bo.kind s H C cl fp) tg h7) (fun _ _ _ _ _ => pts_nil) (fun s H C cl fp => (sndE l (g.blk h1 bo.kind s H C cl fp) elt h9).1) (fun x => plain_fold rfl _ _), fun s H Q q => k s H Q (by rw [ownP_ix]; exact q)⟩
  · cases h
def compOf : E → Option (F × Bool)
  | .lof (.compw i t l own) => some (.compw i t l own, false)
  | .mof (.compw i t l own) => some (.compw i t l own, true)
  | .lof (.comp t it c l own) => some (.comp t it c l own, false)
  | .mof (.comp t it c l own) => some (.comp t it c l own, true)
  | _ => none
/-- does the store of a comprehension's list go by the short way -/
def lcTrue (cy : Cy) (y : Str) (py : Pos) (e : Expr) : Bool := match e with
  | .ListComp _ _ scope ps => cy.sc.lookup y == some .local && py.line == ps.line && !(scope.names.any fun (n, k) => n == y && (k == .local || k == .cell))
  | _ => false
theorem lc_true (g : Good X p cy es W) {y : Str} {py : Pos} {e : Expr} (h : lcTrue cy y py e = true) (ln : Nat) : swapsWith e (some (.Name y py)) ln X.env = pure true := by
  unfold lcTrue at h
  split at h
  · simp only [Bool.and_eq_true, Bool.not_eq_true'] at h
    exact sw_true g.kind (by rw [g.sc]; exact beq_iff_eq.mp h.1.1) h.1.2 h.2
  · cases h
theorem lc_false (g : Good X p cy es W) {y : Str} {py : Pos} {e : Expr} (h : lcTrue cy y py e = false) (pl : plainE e = true) (ln : Nat) : swapsWith e (some (.Name y py)) ln X.env = pure false := by
  by_cases hl : isLC e = true
  · cases e <;> first | (simp [isLC] at hl; done) | skip
    rename_i elt gs scope ps
    have hb : X.env.blockKind = .function := by unfold Env.blockKind; rw [g.kind]; rfl
    have hk : X.env.kindOf y = cy.sc.lookup y := by unfold Env.kindOf; rw [g.sc]
    unfold swapsWith
    simp only [lcTrue] at h
    simp only [hb, hk, Expr.pos]
    have : ((ScopeKind.function == ScopeKind.function) : Bool) = true := rfl
    rw [this, Bool.true_and]
    simp only [h]
  · exact plain_swap pl (by simpa using hl) _ _ _
/-- how a tuple is stored to a tuple of targets: by way of no tuple (names), or of one (none); nothing: not served -/
def envD (cy : Cy) : Env := { (default : Env) with scope := scOf cy.sc }
def swapB (cy : Cy) (ts vs : List Expr) : Option (Option (List Str)) := match swappedStores [.Tuple ts 0 ⟨0, 0, 0, 0⟩] (.Tuple vs 0 ⟨0, 0, 0, 0⟩) (envD cy) with
  | .pure o => some o
  | _ => none
theorem swapB_ok (g : Good X p cy es W) {ts vs : List Expr} {k k2 : Nat} {p1 p2 : Pos} {o : Option (List Str)} (h : swapB cy ts vs = some o) : swappedStores [.Tuple ts k p1] (.Tuple vs k2 p2) X.env = pure o := by
  have e : swappedStores [.Tuple ts k p1] (.Tuple vs k2 p2) X.env = swappedStores [.Tuple ts 0 ⟨0, 0, 0, 0⟩] (.Tuple vs 0 ⟨0, 0, 0, 0⟩) (envD cy) := by
    have hb : X.env.blockKind = (envD cy).blockKind := by unfold Env.blockKind; rw [g.kind]; rfl
    have hk : X.env.kindOf = (envD cy).kindOf := by
      funext y
      unfold Env.kindOf
      rw [g.sc]
      rfl
    unfold swappedStores
    simp only [hb, hk]
  rw [e]
  unfold swapB at h
  split at h
  · rename_i o' q
    cases h
    rw [q]
    rfl
  · cases h
end
end Mi
end

section
set_option Elab.async false
set_option linter.all false
set_option maxRecDepth 100000
set_option maxHeartbeats 8000000
/-! Snd16: statements, blocks -/
namespace Mi
open PySem PySem.Spec PyProof.Rows L2
variable {p : Pk}
section
variable {X : Cx} {cy : Cy} {es : List (Addr × Nat × Option Addr)} {W : WX}
theorem snd_aug (g : Good X p cy es W) {i : Nat} {x : Str} {o : Op2} {op : Operator} {l : E} {e : Expr} {pos pos' : Pos} (ho : (o = .add ∧ op = .Add) ∨ (o = .sub ∧ op = .Sub)) (hN : cy.N[i]? = some x) (hl : locB cy x = true) (he : PE X e (RdE X p es W l)) :
    PS X (.AugAssign (.Name x pos') op e pos) (RdS X p es W (.aug i o l)) := by
  have key : ∀ (ti : TIp), (∀ (a b : PV) (v w : V) (μ : Mu) (H : Hp) (z : PV) (Q : VK), evIp o a b = some z → RV X.K p.fa es μ H a v → RV X.K p.fa es μ H b w → (∀ u, RV X.K p.fa es μ H z u → Q u H) → ti v w H Q) → PIp X op ti → PS X (.AugAssign (.Name x pos') op e pos) (RdS X p es W (.aug i o l)) := fun ti ht hp => by
    refine (ps_aug g.nd (by rw [g.N]; exact hN) (g.loc hl) he hp (g.locF hl)).imp fun D s H ⟨B, b, σ, h, μ, st, q⟩ => ?_
    unfold evS at q
    have q := q.bind
    obtain ⟨x0, e0, k0⟩ := Post.of q
    have q1 := k0 μ H .refl st.hr
    have e2 : σ[i]? = some (some x0) := by
      cases z : σ[i]? with
      | none => rw [z] at e0; cases e0
      | some o => rw [z] at e0; cases o <;> cases e0; rfl
    obtain ⟨v, ev, rv⟩ := st.env.2 i _ e2
    refine ⟨v, ev, seqS st q1 fun y h1 μ1 H1 w l1 st1 ry q2 => ?_⟩
    obtain ⟨z, ez, kz⟩ := Post.of q2.bind
    refine ht x0 y v w μ1 H1 z _ ez (rv.mono l1 st.hr.mu) ry fun u ru => ?_
    exact Post.here (kz μ1 H1 .refl st1.hr) st1.hr _ (st1.env.set ru i)
  rcases ho with ⟨rfl, rfl⟩ | ⟨rfl, rfl⟩
  · refine key _ (fun a b v w μ H z Q e ra rb k => ?_) ip_add
    cases a <;> cases b <;> first | (simp [evIp] at e; done) | skip
    cases ra.intI; cases rb.intI; cases e
    exact ⟨_, _, rfl, rfl, k _ (.int _)⟩
  · refine key _ (fun a b v w μ H z Q e ra rb k => ?_) ip_sub
    cases a <;> cases b <;> first | (simp [evIp] at e; done) | skip
    cases ra.intI; cases rb.intI; cases e
    exact ⟨_, _, rfl, rfl, k _ (.int _)⟩
/-- x, y = a, b straight to the names -/
theorem snd_par (g : Good X p cy es W) (hc : cy.calm = true) {i j : Nat} {x y : Str} {a b : Expr} {ms : Es} {px py p1 p2 pos : Pos} {k k2 : Nat} (hi : cy.N[i]? = some x) (hj : cy.N[j]? = some y) (hij : i ≠ j) (hx : cy.sc.lookup x = some .local) (hy : cy.sc.lookup y = some .local)
    (hw : swapB cy [.Name x px, .Name y py] [a, b] = some (some [x, y])) (ha : PA X [a, b] (RdA X p es W ms)) : PS X (.Assign [.Tuple [.Name x px, .Name y py] k p1] (.Tuple [a, b] k2 p2) pos) (RdS X p es W (.asg (.tp (.cons (.nm i) (.cons (.nm j) .nil))) (.tup ms))) := by
  refine (ps_par (g.calm hc).1 g.nd (by rw [g.N]; exact hi) (by rw [g.N]; exact hj) hij (by rw [g.sc]; exact hx) (by rw [g.sc]; exact hy) ha (swapB_ok g hw)).imp fun D s H ⟨B, b, σ, h, μ, st, q⟩ => ?_
  unfold evS evE at q
  have q : Post X.K p.fa B μ H ((evEs p.C b ms σ h).bind fun vs h1 => (evT p.C b (.tp (.cons (.nm i) (.cons (.nm j) .nil))) (.tup vs) σ h1).bind fun σ h => .ok (.nx σ) h) (KS X p es D) (XS p W) := by
    cases e : evEs p.C b ms σ h with
    | bad => rw [e] at q; exact q
    | exc c fs h' => rw [e] at q; exact q
    | ok vs h' => rw [e] at q; exact q
  refine ⟨B, b, σ, h, μ, st, q.bind.mono (fun vs h1 μ1 H1 l1 g1 z ws rs => ?_) fun _ _ _ _ _ _ _ z => z.xw⟩
  unfold evT at z
  simp only [] at z
  split at z
  · rename_i hl
    match vs, hl, rs, z with
    | [v1, v2], _, .cons (v := w1) r1 (.cons (v := w2) r2 .nil), z =>
      refine ⟨w1, w2, rfl, ?_⟩
      have env := ((st.env.mono l1 st.hr.mu).set r1 i).set r2 j
      exact (show Post X.K p.fa B μ1 H1 (R.ok (.nx ((σ.set i (some v1)).set j (some v2))) h1) (KS X p es D) (XS p W) from z) μ1 H1 .refl g1 _ env
  · exact z.elim
end
/-- a live list is never changed again -/
theorem snd_frzv {X : Cx} {cy : Cy} {es : List (Addr × Nat × Option Addr)} {W : WX} (g : Good X p cy es W) (hc : cy.calm = true) {i : Nat} {m : Bl} {l : List Stmt} (h : PSs X l (RdB X p es W m)) : PSs X l (RdB X p es W (.cons (.frzv i) m)) := by
  have he := (g.calm hc).2
  subst he
  refine h.imp fun D s H ⟨B, b, σ, h, μ, st, q⟩ => ?_
  unfold evBl evS at q
  split at q
  · rename_i n hi
    split at q
    · rename_i xs e
      have e2 : σ[i]? = some (some (.ref n)) := by
        cases z : σ[i]? with
        | none => rw [z] at hi; cases hi
        | some o => rw [z] at hi; cases o <;> cases hi; rfl
      obtain ⟨v, ev, rv⟩ := st.env.2 i _ e2
      obtain ⟨a, rfl⟩ := rv.refI
      obtain ⟨ea, vs, eH, rs⟩ := st.hr.lst rv e
      obtain ⟨l1, g1, r1⟩ := st.hr.kill ea eH rs
      have q : Post X.K p.fa B μ H (evBl p.C b m (σ.set i (some (.lst xs))) (h.set n .dead)) (KS X p [] D) (XS p W) := q
      refine ⟨B, b, σ.set i (some (.lst xs)), h.set n .dead, _, ⟨st.bB, Nat.le_trans st.bl l1.len, ?_, g1⟩, q.le l1⟩
      have z := (st.env.mono l1 st.hr.mu).set r1 i
      rwa [set_self ev] at z
    · exact q.elim
  · exact ⟨B, b, σ, h, μ, st, q⟩
  · exact q.elim
/-- a live dict is never changed again -/
theorem snd_frzk {X : Cx} {cy : Cy} {es : List (Addr × Nat × Option Addr)} {W : WX} (g : Good X p cy es W) (hc : cy.calm = true) {i : Nat} {m : Bl} {l : List Stmt} (h : PSs X l (RdB X p es W m)) : PSs X l (RdB X p es W (.cons (.frzk i) m)) := by
  have he := (g.calm hc).2
  subst he
  refine (pss_or h (pss_lock h)).imp fun D s H ⟨B, b, σ, h, μ, st, q⟩ => ?_
  unfold evBl evS at q
  split at q
  · rename_i n hi
    split at q
    · rename_i kvs e
      split at q
      · rename_i dl ed
        have e2 : σ[i]? = some (some (.ref n)) := by
          cases z : σ[i]? with
          | none => rw [z] at hi; cases hi
          | some o => rw [z] at hi; cases o <;> cases hi; rfl
        obtain ⟨v, ev, rv⟩ := st.env.2 i _ e2
        obtain ⟨a, rfl⟩ := rv.refI
        obtain ⟨ea, ks, eH, rk⟩ := st.hr.dic rv e
        have ek := dctOf_of rk ed
        refine .inr ⟨a, _, eH, True.intro, fun od => ?_⟩
        obtain ⟨l1, g1⟩ := st.hr.killD (od := od) ea eH
        have r1 : RV X.K p.fa [] (μ.kill n a) (upd H a (.frz od (.dK ks))) (.dct dl) (.ref a) := by
          refine .dct (o := od) ?_
          rw [upd_same, ek]
        have q : Post X.K p.fa B μ H (evBl p.C b m (σ.set i (some (.dct dl))) (h.set n .dead)) (KS X p [] D) (XS p W) := q
        refine ⟨B, b, σ.set i (some (.dct dl)), h.set n .dead, _, ⟨st.bB, Nat.le_trans st.bl l1.len, ?_, g1⟩, q.le l1⟩
        have z := (st.env.mono l1 st.hr.mu).set r1 i
        rwa [set_self ev] at z
      · exact q.elim
    · exact q.elim
  · exact .inl ⟨B, b, σ, h, μ, st, q⟩
  · exact q.elim
/-- the live lists among related ones -/
theorem HR.kills {K : PySem.W.Frag} {fa : Nat → Addr} {B : Nat → Prop} {H : Hp} : ∀ {xs ys : List PV} {vs : List V} {h h' : Hs} {μ : Mu}, HR K fa B h μ H → RVs K fa [] μ H xs vs → frzEls xs h = some (ys, h') →
    ∃ μ', Le μ H μ' H ∧ HR K fa B h' μ' H ∧ RVs K fa [] μ' H ys vs
  | [], ys, vs, h, h', μ, g, r, e => by
    simp only [frzEls, Option.some.injEq, Prod.mk.injEq] at e
    obtain ⟨rfl, rfl⟩ := e
    exact ⟨μ, .refl, g, r⟩
  | x :: xs, ys, vs, h, h', μ, g, r, e => by
    obtain ⟨v, vs, rfl, r1, r2⟩ : ∃ v vs', vs = v :: vs' ∧ RV K fa [] μ H x v ∧ RVs K fa [] μ H xs vs' := by
      cases r with
      | cons r rr => exact ⟨_, _, rfl, r, rr⟩
    have plain : ∀ q : Option (List PV × Hs), q = frzEls xs h → q.map (fun q => (x :: q.1, q.2)) = some (ys, h') → ∃ μ', Le μ H μ' H ∧ HR K fa B h' μ' H ∧ RVs K fa [] μ' H ys (v :: vs) := fun q hq e => by
      cases q with
      | none => cases e
      | some q =>
        cases e
        obtain ⟨μ', l, g', r'⟩ := HR.kills g r2 hq.symm
        exact ⟨μ', l, g', .cons (r1.mono l g.mu) r'⟩
    cases x with
    | ref n =>
      simp only [frzEls] at e
      split at e
      · rename_i zs ez
        obtain ⟨a, rfl⟩ := r1.refI
        obtain ⟨ea, us, eH, rs⟩ := g.lst r1 ez
        obtain ⟨l1, g1, rz⟩ := g.kill ea eH rs
        cases q : frzEls xs (h.set n .dead) with
        | none => rw [q] at e; cases e
        | some q' =>
          rw [q] at e
          cases e
          obtain ⟨μ', l, g', r'⟩ := HR.kills g1 (r2.mono l1 g.mu) q
          exact ⟨μ', l1.trans l, g', .cons (rz.mono l g1.mu) r'⟩
      · cases e
    | non => exact plain _ rfl e
    | bl _ => exact plain _ rfl e
    | int _ => exact plain _ rfl e
    | str _ => exact plain _ rfl e
    | tup _ => exact plain _ rfl e
    | lst _ => exact plain _ rfl e
    | fn _ => exact plain _ rfl e
    | exc _ _ => exact plain _ rfl e
    | exo _ _ => exact plain _ rfl e
    | scr _ => exact plain _ rfl e
    | rng _ _ => exact plain _ rfl e
    | dct _ => exact plain _ rfl e
theorem HR.frzD {K : PySem.W.Frag} {fa : Nat → Addr} {B : Nat → Prop} {H : Hp} {h h' : Hs} {μ : Mu} {x y : PV} {v : V} (g : HR K fa B h μ H) (r : RV K fa [] μ H x v) (e : Mi.frzD h x = some (y, h')) : ∃ μ', Le μ H μ' H ∧ HR K fa B h' μ' H ∧ RV K fa [] μ' H y v := by
  cases x with
  | lst xs =>
    simp only [Mi.frzD] at e
    cases q : frzEls xs h with
    | none => rw [q] at e; cases e
    | some q' =>
      rw [q] at e
      cases e
      cases r with
      | lst s m rr =>
        obtain ⟨μ', l, g', r'⟩ := g.kills rr q
        exact ⟨μ', l, g', .lst s (l.fz _ m) r'⟩
  | ref n =>
    simp only [Mi.frzD] at e
    split at e
    · rename_i xs ex
      split at e
      · rename_i ys h1 ey
        split at e
        · rename_i zs ez
          cases e
          obtain ⟨a, rfl⟩ := r.refI
          obtain ⟨ea, vs, eH, rs⟩ := g.lst r ex
          obtain ⟨μ1, l1, g1, r1⟩ := g.kills rs ey
          have rr := r.mono l1 g.mu
          obtain ⟨ea2, ws, eH2, rs2⟩ := g1.lst rr ez
          obtain ⟨l2, g2, rz⟩ := g1.kill ea2 eH2 rs2
          refine ⟨_, l1.trans l2, g2, ?_⟩
          cases rz with
          | lst s m _ =>
            rw [eH] at s
            cases s
            exact .lst eH m (r1.mono l2 g1.mu)
        · cases e
      · cases e
    · cases e
  | _ => simp [Mi.frzD] at e
theorem snd_frzd {X : Cx} {cy : Cy} {es : List (Addr × Nat × Option Addr)} {W : WX} (g : Good X p cy es W) (hc : cy.calm = true) {i : Nat} {m : Bl} {l : List Stmt} (h : PSs X l (RdB X p es W m)) : PSs X l (RdB X p es W (.cons (.frzd i) m)) := by
  have he := (g.calm hc).2
  subst he
  refine h.imp fun D s H ⟨B, b, σ, h, μ, st, q⟩ => ?_
  unfold evBl evS at q
  split at q
  · rename_i x hi
    split at q
    · rename_i y h' e
      have e2 : σ[i]? = some (some x) := by
        cases z : σ[i]? with
        | none => rw [z] at hi; cases hi
        | some o => rw [z] at hi; cases o <;> cases hi; rfl
      obtain ⟨v, ev, rv⟩ := st.env.2 i _ e2
      obtain ⟨μ', l1, g1, r1⟩ := st.hr.frzD rv e
      have q : Post X.K p.fa B μ H (evBl p.C b m (σ.set i (some y)) h') (KS X p [] D) (XS p W) := q
      refine ⟨B, b, σ.set i (some y), h', _, ⟨st.bB, Nat.le_trans st.bl l1.len, ?_, g1⟩, q.le l1⟩
      have z := (st.env.mono l1 st.hr.mu).set r1 i
      rwa [set_self ev] at z
    · exact q.elim
  · exact q.elim
def augOk : Op2 → Operator → Bool
  | .add, .Add => true
  | .sub, .Sub => true
  | _, _ => false
theorem augOk_of {o : Op2} {op : Operator} (h : augOk o op = true) : (o = .add ∧ op = .Add) ∨ (o = .sub ∧ op = .Sub) := by
  cases o <;> cases op <;> first | (simp [augOk] at h; done) | (simp)
/-- a store -/
def ckAsg (cy : Cy) (t : T) (e : E) (tg x : Expr) : Bool :=
  plainT tg && plainE x && ckE cy e x && ckT cy t tg && (match tg with
    | .Name y py => if lcTrue cy y py x then (match compOf e with
        | some _ => (match t with | .nm i => decide (cy.N[i]? = some y) | _ => false)
        | none => false) else true
    | .Tuple ts _ _ => (match x with
        | .Tuple vs _ _ => (match swapB cy ts vs with
          | some none => true
          | some (some ns) => (match ts, vs, t, e with
            | [.Name a _, .Name b _], [_, _], .tp (.cons (.nm i) (.cons (.nm j) .nil)), .tup ms => cy.calm && decide (cy.N[i]? = some a) && decide (cy.N[j]? = some b) && decide (i ≠ j) && decide (cy.sc.lookup a = some .local) && decide (cy.sc.lookup b = some .local) && decide (ns = [a, b]) && ckEs cy ms vs
            | _, _, _, _ => false)
          | none => false)
        | .List _ _ => false
        | _ => true)
    | _ => noTup tg)
theorem sndAsg {X : Cx} {cy : Cy} {es : List (Addr × Nat × Option Addr)} {W : WX} (g : Good X p cy es W) {t : T} {e : E} {tg x : Expr} {pos : Pos} (h : ckAsg cy t e tg x = true) : PS X (.Assign [tg] x pos) (RdS X p es W (.asg t e)) := by
  unfold ckAsg at h
  simp only [Bool.and_eq_true] at h
  obtain ⟨⟨⟨⟨h1, h2⟩, h3⟩, h4⟩, h5⟩ := h
  have hE := (sndE e g x h3).1
  have hT := sndT t g tg h4
  split at h5
  · rename_i y py
    split at h5
    · rename_i hl
      split at h5
      · rename_i fb hc
        split at h5
        · rename_i i
          have hN := of_decide_eq_true h5
          have hloc : cy.sc.lookup y = some .local := by
            unfold lcTrue at hl
            split at hl
            · simp only [Bool.and_eq_true] at hl
              exact beq_iff_eq.mp hl.1.1
            · cases hl
          unfold compOf at hc
          split at hc
          · rename_i i0 t' l own
            unfold ckE at h3
            obtain ⟨elt, tg', iter, ifs, scope, ps, rfl, k⟩ := sndLCW g h3
            obtain ⟨te, k1, k2⟩ := k (spos := pos) hN hloc (lc_true g hl pos.line)
            refine k1.imp fun D s H q => ?_
            have q1 := imp_asg D s H q
            refine k2 s H _ (imp_lof s H _ ?_)
            obtain ⟨B, b, σ, h, μ, st, q1⟩ := q1
            refine ⟨B, b, σ, h, μ, st, q1.mono (fun v h1 μ1 H1 l1 g1 z w rw' => ?_) fun _ _ _ _ _ _ _ z => z⟩
            obtain ⟨B2, b2, σ2, h2, μ2, x2, st2, r2, q2⟩ := z w rw'
            unfold evT at q2
            exact Post.here q2 st2.hr _ (st2.env.set r2 i) chg_set
          · rename_i i0 t' l own
            unfold ckE at h3
            simp only [Bool.and_eq_true] at h3
            have es0 := (g.calm h3.1).2
            subst es0
            obtain ⟨elt, tg', iter, ifs, scope, ps, rfl, k⟩ := sndLCW g h3.2
            obtain ⟨te, k1, k2⟩ := k (spos := pos) hN hloc (lc_true g hl pos.line)
            refine k1.imp fun D s H q => ?_
            have q1 := imp_asg D s H q
            refine k2 s H _ (imp_mof s H _ ?_)
            obtain ⟨B, b, σ, h, μ, st, q1⟩ := q1
            refine ⟨B, b, σ, h, μ, st, q1.mono (fun v h1 μ1 H1 l1 g1 z w rw' => ?_) fun _ _ _ _ _ _ _ z => z⟩
            obtain ⟨B2, b2, σ2, h2, μ2, x2, st2, r2, q2⟩ := z w rw'
            unfold evT at q2
            exact Post.here q2 st2.hr _ (st2.env.set r2 i) chg_set
          · rename_i t' it c l own
            unfold ckE at h3
            obtain ⟨elt, tg', iter, ifs, scope, ps, rfl, k⟩ := sndLC g h3
            obtain ⟨te, k1, k2⟩ := k (spos := pos) hN hloc (lc_true g hl pos.line)
            refine k1.imp fun D s H q => ?_
            have q1 := imp_asg D s H q
            refine k2 s H _ (imp_lof s H _ ?_)
            obtain ⟨B, b, σ, h, μ, st, q1⟩ := q1
            refine ⟨B, b, σ, h, μ, st, q1.mono (fun v h1 μ1 H1 l1 g1 z w rw' => ?_) fun _ _ _ _ _ _ _ z => z⟩
            obtain ⟨B2, b2, σ2, h2, μ2, x2, st2, r2, q2⟩ := z w rw'
            unfold evT at q2
            exact Post.here q2 st2.hr _ (st2.env.set r2 i) chg_set
          · rename_i t' it c l own
            unfold ckE at h3
            simp only [Bool.and_eq_true] at h3
            have es0 := (g.calm h3.1).2
            subst es0
            obtain ⟨elt, tg', iter, ifs, scope, ps, rfl, k⟩ := sndLC g h3.2
            obtain ⟨te, k1, k2⟩ := k (spos := pos) hN hloc (lc_true g hl pos.line)
            refine k1.imp fun D s H q => ?_
            have q1 := imp_asg D s H q
            refine k2 s H _ (imp_mof s H _ ?_)
            obtain ⟨B, b, σ, h, μ, st, q1⟩ := q1
            refine ⟨B, b, σ, h, μ, st, q1.mono (fun v h1 μ1 H1 l1 g1 z w rw' => ?_) fun _ _ _ _ _ _ _ z => z⟩
            obtain ⟨B2, b2, σ2, h2, μ2, x2, st2, r2, q2⟩ := z w rw'
            unfold evT at q2
            exact Post.here q2 st2.hr _ (st2.env.set r2 i) chg_set
          · cases hc
        · cases h5
      · cases h5
    · rename_i hl
      exact (ps_asg hE hT (by show swapsWith x (some (.Name y py)) pos.line X.env = _; exact lc_false g (by simpa using hl) h2 _) (noswap (.inl rfl)) (tgt1 h1 _)).imp imp_asg
  · rename_i ts k1 p1
    have ns : ∀ ln, swapsWith x (some (.Tuple ts k1 p1)) ln X.env = pure false := fun ln => by
      by_cases hl : isLC x = true
      · cases x <;> first | (simp [isLC] at hl; done) | rfl
      · exact plain_swap h2 (by simpa using hl) _ _ _
    split at h5
    · rename_i vs k2 p2
      split at h5
      · rename_i hs
        exact (ps_asg hE hT (ns pos.line) (swapB_ok g hs) (tgt1 h1 _)).imp imp_asg
      · rename_i nn hs
        split at h5
        · simp only [Bool.and_eq_true, decide_eq_true_eq] at h5
          obtain ⟨⟨⟨⟨⟨⟨⟨k1, k2⟩, k3⟩, k4⟩, k5⟩, k6⟩, k7⟩, k8⟩ := h5
          subst k7
          exact snd_par g k1 k2 k3 k4 k5 k6 hs (sndEs _ g _ k8)
        · cases h5
      · cases h5
    · cases h5
    · exact (ps_asg hE hT (ns pos.line) (noswap (.inr (by cases x <;> first | rfl | (simp_all)))) (tgt1 h1 _)).imp imp_asg
  · by_cases hl : isLC x = true
    · refine (ps_asg hE hT ?_ (noswap (.inl h5)) (tgt1 h1 _)).imp imp_asg
      cases x <;> first | (simp [isLC] at hl; done) | skip
      cases tg <;> first | rfl | (simp_all; done) | (simp [plainT] at h1)
    · exact snd_asg h2 (by simpa using hl) h1 (noswap (.inl h5)) hE hT
mutual
def ckS (cy : Cy) : St → Stmt → Bool
  | .expr e, s => match s with
    | .Expr x _ => plainE x && !isLC x && ckE cy e x
    | _ => false
  | .asg t e, s => match s with
    | .Assign [tg] x _ => ckAsg cy t e tg x
    | _ => false
  | .aug i o e, s => match s with
    | .AugAssign (.Name x _) op y _ => augOk o op && decide (cy.N[i]? = some x) && locB cy x && ckE cy e y
    | _ => false
  | .ret e, s => match s with
    | .Return (some x) _ => ckE cy e x
    | _ => false
  | .retN, s => match s with
    | .Return none _ => true
    | _ => false
  | .ifs c a b, s => match s with
    | .If t x y _ => ckE cy c t && tst c t && ckB cy a x && ckB cy b y
    | _ => false
  | .whl c a, s => match s with
    | .While t x [] _ => ckE cy c t && tst c t && ckB cy a x
    | _ => false
  | .for_ t it b, s => match s with
    | .For tg e x [] _ => cy.calm && plainE e && (tgI it tg && ckI cy it e) && ckT cy t tg && ckB cy b x
    | _ => false
  | .brk, s => match s with
    | .Break _ => true
    | _ => false
  | .cont, s => match s with
    | .Continue _ => true
    | _ => false
  | .pass, s => match s with
    | .Pass _ => true
    | _ => false
  | .raise c es, s => match s with
    | .Raise (some (.Call (.Name x _) [y] [] _)) none _ => cy.calm && decide (c ≠ 2) && decide (cy.tb.clss.lookup c = some x) && globB cy x && (match es with
      | .nil => (match y with
        | .Constant (.str _) _ _ => true
        | _ => false)
      | .cons a .nil => plainE y && ckE cy a y
      | _ => false)
    | _ => false
  | .raiseT a, s => match s with
    | .Raise (some (.Call (.Name x _) [.Constant (.str _) _ _, y] [] _)) none _ => cy.calm && cy.tb.txt && decide (cy.tb.clss.lookup 2 = some x) && globB cy x && plainE y && ckE cy a y
    | _ => false
  | .tryX e c i, s => match s with
    | .Try [.Expr y _] [.ExceptHandler (some (.Name x _)) (some n) [.Return (some (.Name n2 _)) _] _] [] [] _ => cy.calm && cy.top && decide (n2 = n) && decide (cy.tb.clss.lookup c = some x) && globB cy x && decide (cy.sc.lookup n = some .local) && decide (cy.N[i]? = some n) && visB cy n &&
      plainE y && !isLC y && ckE cy e y
    | _ => false
  | .tryT e c i sb, s => match s with
    | .Try [.Expr y _] (.ExceptHandler (some (.Name x _)) (some n) (b₀ :: r) _ :: _) [] [] _ => cy.calm && cy.top && cy.tb.exc && decide (cy.tb.clss.lookup c = some x) && globB cy x && decide (cy.sc.lookup n = some .local) && decide (cy.N[i]? = some n) &&
      plainE y && !isLC y && ckE cy e y && ckB { cy with calm := false, top := false } sb (b₀ :: r)
    | _ => false
  | .try_ k e c i sb, s => match s with
    | .Try [st] [.ExceptHandler (some (.Name x _)) (some n) (b₀ :: r) _] [] [] _ => cy.calm && cy.top && cy.tb.exc && decide (k < 2) && decide (cy.tb.clss.lookup c = some x) && globB cy x && decide (cy.sc.lookup n = some .local) && (match i with
      | some i => decide (cy.N[i]? = some n)
      | none => false) && (match st with
      | .Return (some y) _ => decide (k = 1) && ckE cy e y
      | .Expr y _ => decide (k = 0) && plainE y && !isLC y && ckE cy e y
      | _ => false) && ckB { cy with calm := false, top := false } sb (b₀ :: r)
    | _ => false
  | .dasg j i t k v own, s => match s with
    | .Assign [.Name y py] (.DictComp kx vx [⟨tg, .Name x _, [], n⟩] scope ps) _ => cy.calm && decide (n = 0) && decide (cy.N[i]? = some x) && visB cy x && decide (cy.N[j]? = some y) && decide (cy.sc.lookup y = some .local) && (py.line == ps.line) && !(scope.names.any fun (n, k) => n == y && (k == .local || k == .cell)) &&
        blkC cy.N (scOf cy.sc) scope (ownP cy own) && (t.names.all fun i => own.contains i) && ckT (cy.blk scope) t tg && ckE (cy.blk scope) k kx && ckE (cy.blk scope) v vx
    | _ => false
  | .unk, _ => true
  | _, _ => false
def ckB (cy : Cy) : Bl → List Stmt → Bool
  | .nil, l => l.isEmpty
  | .cons s b, l => match s with
    | .frzv _ => cy.calm && ckB cy b l
    | .frzk _ => cy.calm && ckB cy b l
    | .frzd _ => cy.calm && ckB cy b l
    | s => match l with
      | x :: xs => ckS cy s x && ckB cy b xs
      | [] => false
end
mutual
theorem sndS : ∀ (m : St) {X : Cx} {cy : Cy} {es : List (Addr × Nat × Option Addr)} {W : WX} (g : Good X p cy es W) (s : Stmt), ckS cy m s = true → PS X s (RdS X p es W m)
  | .expr e, X, cy, es, W, g, s, h => by
    unfold ckS at h
    split at h
    · simp only [Bool.and_eq_true, Bool.not_eq_true'] at h
      exact snd_expr g h.1.1 h.1.2 (sndE e g _ h.2).1
    · cases h
  | .asg t e, X, cy, es, W, g, s, h => by
    unfold ckS at h
    split at h
    · exact sndAsg g h
    · cases h
  | .aug i o e, X, cy, es, W, g, s, h => by
    unfold ckS at h
    split at h
    · simp only [Bool.and_eq_true, decide_eq_true_eq] at h
      exact snd_aug g (augOk_of h.1.1.1) h.1.1.2 h.1.2 (sndE e g _ h.2).1
    · cases h
  | .ret e, X, cy, es, W, g, s, h => by
    unfold ckS at h
    split at h
    · exact snd_ret (sndE e g _ h).1
    · cases h
  | .retN, X, cy, es, W, g, s, h => by
    unfold ckS at h
    split at h
    · exact snd_retN
    · cases h
  | .ifs c a b, X, cy, es, W, g, s, h => by
    unfold ckS at h
    split at h
    · simp only [Bool.and_eq_true] at h
      exact snd_if ((sndE c g _ h.1.1.1).2 h.1.1.2) (sndB a g _ h.1.2) (sndB b g _ h.2)
    · cases h
  | .whl c a, X, cy, es, W, g, s, h => by
    unfold ckS at h
    split at h
    · simp only [Bool.and_eq_true] at h
      exact snd_while g ((sndE c g _ h.1.1).2 h.1.2) (sndB a g _ h.2)
    · cases h
  | .for_ t it b, X, cy, es, W, g, s, h => by
    unfold ckS at h
    split at h
    · simp only [Bool.and_eq_true] at h
      exact snd_for g h.1.1.1.2 h.1.1.1.1 (sndI it g h.1.1.1.1 _ _ h.1.1.2.1 h.1.1.2.2) (sndT t g _ h.1.2) (sndB b g _ h.2)
    · cases h
  | .dasg j i t k v own, X, cy, es, W, g, s, h => by
    unfold ckS at h
    split at h
    · rename_i y py kx vx tg x px n scope ps pos
      simp only [Bool.and_eq_true, decide_eq_true_eq, Bool.not_eq_true'] at h
      obtain ⟨⟨⟨⟨⟨⟨⟨⟨⟨⟨⟨⟨h1, h2⟩, h3⟩, h4⟩, h5⟩, h6⟩, h7⟩, h8⟩, h9⟩, h10⟩, h11⟩, h12⟩, h13⟩ := h
      subst h2
      have es0 := (g.calm h1).2
      subst es0
      have bo : BlkOk X.N X.env.scope scope (ownP cy own) := by
        rw [g.N]
        exact blkOk_sc (sc := scOf cy.sc) (show cy.sc = X.env.scope.names from g.sc.symm) (blkOk_by h9)
      have k := snd_dasg (own := ownP cy own) (t := t) (k := k) (v := v) (kx := kx) (vx := vx) (px := px) (pos := ps) (py := py) (spos := pos) g h1 h3 h4 h5 h6 (sw_trueD g.kind (by rw [g.sc]; exact h6) h7 h8) bo (fun i hi => by
        rw [ownP_ix]
        exact List.contains_iff_mem.mp (List.all_eq_true.mp h10 i hi)) (fun s H C cl fp => sndT t (g.blk h1 bo.kind s H C cl fp) tg h11) (fun s H C cl fp => (sndE k (g.blk h1 bo.kind s H C cl fp) kx h12).1) (fun s H C cl fp => (sndE v (g.blk h1 bo.kind s H C cl fp) vx h13).1)
      rw [ownP_ix] at k
      exact k
    · cases h
  | .brk, X, cy, es, W, g, s, h => by
    unfold ckS at h
    split at h
    · exact snd_brk
    · cases h
  | .cont, X, cy, es, W, g, s, h => by
    unfold ckS at h
    split at h
    · exact snd_cont
    · cases h
  | .pass, X, cy, es, W, g, s, h => by
    unfold ckS at h
    split at h
    · exact snd_pass
    · cases h
  | .raise c ms, X, cy, es, W, g, s, h => by
    unfold ckS at h
    split at h
    · simp only [Bool.and_eq_true, decide_eq_true_eq] at h
      obtain ⟨⟨⟨⟨k1, k0⟩, k2⟩, k3⟩, h⟩ := h
      cases ms with
      | nil =>
        dsimp only at h
        split at h
        · exact snd_raise g k1 k0 k2 k3
        · cases h
      | cons a r =>
        cases r with
        | nil =>
          dsimp only at h
          have h := Bool.and_eq_true_iff.mp h
          exact snd_raise1 g k1 k0 k2 k3 h.1 (sndE a g _ h.2).1
        | cons _ _ => dsimp only at h; cases h
    · cases h
  | .try_ k e c i sb, X, cy, es, W, g, s, h => by
    unfold ckS at h
    split at h
    · rename_i st x np n b₀ r pos' pos
      simp only [Bool.and_eq_true, decide_eq_true_eq] at h
      obtain ⟨⟨⟨⟨⟨⟨⟨⟨⟨h1, h2⟩, h3⟩, h4⟩, h5⟩, h6⟩, h7⟩, h8⟩, h9⟩, h10⟩ := h
      split at h8
      · rename_i i
        have h8 := of_decide_eq_true h8
        refine snd_tryAs g h1 h2 h3 h4 h5 h6 h8 h7 (fun W' pn xe tk po => ?_) (fun a oe pn c' d hc hz hf => sndB sb (g.suite hc h3 hz hf) _ h10)
        have gt := g.tr tk po
        split at h9
        · simp only [Bool.and_eq_true, decide_eq_true_eq] at h9
          obtain ⟨rfl, h9⟩ := h9
          exact (pss_one (ps_ret (sndE e gt _ h9).1)).imp fun D s H q => q
        · simp only [Bool.and_eq_true, decide_eq_true_eq, Bool.not_eq_true'] at h9
          obtain ⟨⟨⟨rfl, h9⟩, h10⟩, h11⟩ := h9
          exact (pss_one (ps_expr (sndE e gt _ h11).1 (plain_swap h9 h10 _ _ _))).imp fun D s H q => q
        · cases h9
      · cases h8
    · cases h
  | .raiseT a, X, cy, es, W, g, s, h => by
    unfold ckS at h
    split at h
    · simp only [Bool.and_eq_true, decide_eq_true_eq] at h
      obtain ⟨⟨⟨⟨⟨h1, h2⟩, h3⟩, h4⟩, h5⟩, h6⟩ := h
      exact snd_raiseT g h1 h2 h3 h4 h5 (sndE a g _ h6).1
    · cases h
  | .tryX e c i, X, cy, es, W, g, s, h => by
    unfold ckS at h
    split at h
    · simp only [Bool.and_eq_true, decide_eq_true_eq, Bool.not_eq_true'] at h
      obtain ⟨⟨⟨⟨⟨⟨⟨⟨⟨⟨h1, h2⟩, rfl⟩, h4⟩, h5⟩, h6⟩, h7⟩, hv⟩, h8⟩, h9⟩, h10⟩ := h
      refine snd_tryX g h1 h2 h4 h5 h7 h6 hv (fun W' pn xe tk po => ?_)
      exact (pss_one (ps_expr (sndE e (g.tr tk po) _ h10).1 (plain_swap h8 h9 _ _ _))).imp fun D s H q => q
    · cases h
  | .tryT e c i sb, X, cy, es, W, g, s, h => by
    unfold ckS at h
    split at h
    · simp only [Bool.and_eq_true, decide_eq_true_eq, Bool.not_eq_true'] at h
      obtain ⟨⟨⟨⟨⟨⟨⟨⟨⟨⟨h1, h2⟩, h3⟩, h4⟩, h5⟩, h6⟩, h7⟩, h8⟩, h9⟩, h10⟩, h11⟩ := h
      refine snd_tryT g h1 h2 h3 h4 h5 h7 h6 (fun W' pn xe tk po => ?_) (fun a oe pn c' d hc hz hf => sndB sb (g.suite hc h3 hz hf) _ h11)
      exact (pss_one (ps_expr (sndE e (g.tr tk po) _ h10).1 (plain_swap h8 h9 _ _ _))).imp fun D s H q => q
    · cases h
  | .augx _ _ _ _, _, _, _, _, _, s, h => by unfold ckS at h; cases h
  | .frzv _, _, _, _, _, _, s, h => by unfold ckS at h; cases h
  | .frzd _, _, _, _, _, _, s, h => by unfold ckS at h; cases h
  | .frzk _, _, _, _, _, _, s, h => by unfold ckS at h; cases h
  | .unk, X, cy, es, W, g, s, h => ⟨fun _ _ _ _ _ _ ⟨B, b, σ, h, μ, st, q⟩ => by unfold evS at q; exact q.elim⟩
theorem sndB : ∀ (m : Bl) {X : Cx} {cy : Cy} {es : List (Addr × Nat × Option Addr)} {W : WX} (g : Good X p cy es W) (l : List Stmt), ckB cy m l = true → PSs X l (RdB X p es W m)
  | .nil, X, cy, es, W, g, l, h => by
    unfold ckB at h
    rw [isempty h]
    exact snd_bnil
  | .cons s b, X, cy, es, W, g, l, h => by
    unfold ckB at h
    split at h
    · have h := Bool.and_eq_true_iff.mp h
      exact snd_frzv g h.1 (sndB b g _ h.2)
    · have h := Bool.and_eq_true_iff.mp h
      exact snd_frzk g h.1 (sndB b g _ h.2)
    · have h := Bool.and_eq_true_iff.mp h
      exact snd_frzd g h.1 (sndB b g _ h.2)
    · split at h
      · simp only [Bool.and_eq_true] at h
        exact snd_bcons (sndS s g _ h.1) (sndB b g _ h.2)
      · cases h
end
end Mi
end

section
set_option Elab.async false
set_option linter.all false
set_option maxRecDepth 100000
set_option maxHeartbeats 8000000
/-! Snd17: a def keeps its promise; the program's -/
namespace Mi
open PySem PySem.Spec PyProof.Rows L2
/-- a def of the text -/
structure Src where
  name : Str
  /-- the name under which it is found -/
  gl : Str
  N : List Str
  ps : List Str
  params : Arguments
  body : List Stmt
  scope : Scope
def nmOf (s : Stmt) : Str := match s with | .FunctionDef n _ _ _ _ _ _ _ _ _ => n | _ => Str.ofString ""
def Src.ofA (gl : Str) (N : List Str) (s : Stmt) : Src := ⟨nmOf s, gl, N, (defArgs s).args.map (·.arg), defArgs s, defBody s, defScope s⟩
def Src.of (N : List Str) (s : Stmt) : Src := ⟨nmOf s, nmOf s, N, (defArgs s).args.map (·.arg), defArgs s, defBody s, defScope s⟩
def nodupB (l : List Str) : Bool := decide l.Nodup
/-- the def's frame: names, parameters -/
def Src.scOk (s : Src) : Bool := (match s.scope.kind with | .function => true | _ => false) && !s.scope.isCoroutine && !s.scope.isGenerator && nodupB s.N && decide (s.N.take s.ps.length = s.ps) && (s.ps.all fun x => match s.scope.names.lookup x with
  | some .local => true
  | some .cell => true
  | _ => false) && (s.scope.names.all fun y => !(y.2 == .free))
theorem Src.sc {s : Src} (h : s.scOk = true) : FnScope s.N s.ps s.scope := by
  unfold Src.scOk nodupB at h
  simp only [Bool.and_eq_true, decide_eq_true_eq, Bool.not_eq_true', List.all_eq_true] at h
  obtain ⟨⟨⟨⟨⟨⟨h1, h2⟩, h3⟩, h4⟩, h5⟩, h6⟩, h7⟩ := h
  refine ⟨?_, h2, h3, h4, h5, fun x hx => ?_, fun y hy e => ?_⟩
  · split at h1
    · assumption
    · cases h1
  · have := h6 x hx
    split at this
    · exact .inl (by assumption)
    · exact .inr (by assumption)
    · cases this
  · have := h7 y hy
    rw [e] at this
    cases this
/-- how its arguments bind -/
def Src.Binds (s : Src) : Prop := ∀ (kV doc pm : Value) (an : Option Addr) (cdv ct : Value) (us : List Value), us.length = s.ps.length → bindArgs (PySem.W.fnOf s.name s.name s.params s.body s.scope .none kV doc pm an cdv ct) ⟨us, []⟩ = pure (s.ps.zip us)
def Src.cy (tb : Tb) (s : Src) : Cy := ⟨tb, s.N, s.scope.names, true, true, []⟩
/-- the def is what the small language says -/
def Src.ok (tb : Tb) (s : Src) (fd : Fd) : Bool := s.scOk && decide (fd.ar = s.ps.length) && decide (fd.sz = s.N.length) && ckB (s.cy tb) fd.body s.body
/-- the facts of a program -/
structure Facts (P : Program) (w : World) (K : PySem.W.Frag) (mg : Str → Option Value) (fa ca : Nat → Addr) (cls : List Nat) (tb : Tb) (Pg : Pg) (srcs : List (Nat × Src)) : Prop where
  fn : ∀ f x n, tb.fns.lookup f = some (x, n) → mg x = some (.ref (fa f)) ∧ ∃ s fd, srcs.lookup f = some s ∧ Pg.lookup f = some fd ∧ s.ok tb fd = true ∧ s.ps.length = n ∧ s.Binds ∧ ∃ g, FunD K s.name s.name s.params s.body s.scope [] [] (fa f) g
  cons : ∀ (i : Nat) x v, tb.cons[i]? = some (x, v) → ∃ u w, mg x = some u ∧ RelV w u ∧ ∀ es μ H, RV K fa es μ H v w
  dics : ∀ (i : Nat) x ks kvs, tb.dics[i]? = some (x, ks, kvs) → ∃ d, mg x = some (.ref d) ∧ ∀ (z : Str) v, kvs.lookup z.cps.toList = some v → ∃ u, KDct K w d z u ∧ ∀ es μ H, RV K fa es μ H v u
  blt : ∀ x, x ∈ (["len", "abs", "int", "tuple", "all", "any", "range", "enumerate", "zip", "list", "isinstance", "min", "max", "str", "sorted", "bool", "set", "sum"] : List Str) → mg x = none
  gcd : ∀ v, mg "gcd" = some v → v = .builtin "math.gcd"
  hasgcd : tb.gcd = true → mg "gcd" = some (.builtin "math.gcd")
  hascmb : tb.comb = true → mg "combinations" = some (.type "itertools.combinations")
  exm : ∀ c d x, tb.clss.lookup d = some x → cls.contains c = true → mg x = some (.ref (ca d)) ∧ PySem.W.exmOne K (.ref (ca c)) (.ref (ca d)) = some (isSub c d) ∧ PySem.W.kitOne K (.ref (ca c)) (.ref (ca d)) = some (isSub c d)
  exv : ∀ c, cls.contains c = true → tb.exc = true → ExcC K (ca c) ∧ PySem.W.kitOne K (.ref (ca c)) (.type "ValueError") = some true ∧ mg "ValueError" = none
  fac : ∀ c, (fa (1001 + 2 * c) = 1 ↔ cls.contains c = true) ∧ fa (1000 + 2 * c) = ca c
  mkt : tb.txt = true → cls.contains 2 = true ∧ mg "super" = none ∧ ∃ fI fd, TextK P K (ca 2) fI fd ∧ Binds K fd ["self", "message", "line"] []
  mkx : ∀ c x, tb.clss.lookup c = some x → cls.contains c = true ∧ (c ≠ 2 → ∃ (B newId initId : String) (bm : List Value), ExcBaseFacts B newId initId bm ∧ PySem.W.excIn K (ca c) bm newId = true ∧ PySem.W.keepIn K (.ref (ca c)) = true ∧
    PySem.W.subIn K (.ref (ca c)) (.type "BaseException") = some true ∧ PySem.W.typeIn K (.ref (ca c)) = some (.type "type"))
theorem strt_env {K : PySem.W.Frag} {fa : Nat → Addr} {μ : Mu} {H : Hp} {xs : List PV} {vs : List V} (N : List Str) (r : RVs K fa [] μ H xs vs) : EnvR K fa [] μ H (strt N.length xs) (L2.start N vs) := by
  unfold strt L2.start
  refine ⟨by simp [r.length], fun i x q => ?_⟩
  by_cases hi : i < xs.length
  · rw [List.getElem?_append_left (by simpa using hi), List.getElem?_map] at q
    cases e : xs[i]? with
    | none => rw [e] at q; cases q
    | some y =>
      rw [e] at q
      cases q
      obtain ⟨v, ev, rv⟩ := r.get e
      refine ⟨v, ?_, rv⟩
      rw [List.getElem?_append_left (by rw [List.length_map, ← r.length]; exact hi), List.getElem?_map, ev]
      rfl
  · rw [List.getElem?_append_right (by simpa using hi)] at q
    rw [List.getElem?_replicate] at q
    split at q <;> cases q
section
variable {P : Program} {w : World} {K : PySem.W.Frag} {mg : Str → Option Value} {base : Heap} {fa ca : Nat → Addr} {cls : List Nat} {tb : Tb} {Pg : Pg} {srcs : List (Nat × Src)}
theorem dic_low {n : Nat} : ∀ {kvs : List (PV × PV)}, (Obj.dic kvs).low n = true → PV.lows n (kvs.map (·.2)) = true
  | [], _ => rfl
  | (k, v) :: r, h => by
    simp only [Obj.low, List.all_cons, Bool.and_eq_true] at h
    obtain ⟨⟨_, h2⟩, h3⟩ := h
    exact Bool.and_eq_true_iff.mpr ⟨h2, dic_low (kvs := r) h3⟩
theorem dic_lowB {n : Nat} : ∀ {kvs : List (PV × PV)} {ks : List (Key × V)}, kvs.map (·.1) = ks.map (fun q => kPV q.1) → PV.lows n (kvs.map (·.2)) = true → (Obj.dic kvs).low n = true
  | [], _, _, _ => rfl
  | (k, v) :: r, [], h, _ => by cases h
  | (k, v) :: r, (q, u) :: s, h, l => by
    simp only [List.map_cons, List.cons.injEq] at h
    have l := Bool.and_eq_true_iff.mp l
    have ih := dic_lowB (kvs := r) (ks := s) h.2 l.2
    have hk : k.low n = true := by rw [h.1]; cases q <;> rfl
    show ((k.low n && v.low n) && r.all fun p => p.1.low n && p.2.low n) = true
    rw [hk, l.1, Bool.true_and, Bool.true_and]
    exact ih
theorem cut_back {B : Nat → Prop} {h' : Hs} {μ μ' : Mu} {H H' : Hp} (g : HR K fa (fun c => B c ∨ c = μ.l.length) h' μ' H') (l : Le μ H μ' H') (hB : ∀ c, B c → c ≤ μ.l.length) :
    HR K fa B (h'.take μ.l.length) ⟨μ'.l.take μ.l.length, μ'.F⟩ H' ∧ Le μ H ⟨μ'.l.take μ.l.length, μ'.F⟩ H' := by
  have tk : ∀ (n : Nat) a, (μ'.l.take μ.l.length)[n]? = some (some a) → μ'.l[n]? = some (some a) := fun n a q => by
    rw [List.getElem?_take] at q
    split at q
    · exact q
    · cases q
  refine ⟨⟨fun n a q => g.mu n a (tk n a q), by simp [g.len], fun n o q nd => ?_, fun n m a q1 q2 => g.inj n m a (tk n a q1) (tk m a q2), g.fd, fun c hc n o hn q => ?_⟩, ⟨l.keep, l.dom, fun n a q => l.liv n a (tk n a q), by show μ.l.length ≤ (μ'.l.take μ.l.length).length; rw [List.length_take]; have := l.len; omega, l.fz, l.nf⟩⟩
  · rw [List.getElem?_take] at q
    split at q
    · rename_i hn
      obtain ⟨a, q1, ro⟩ := g.obj n o q nd
      refine ⟨a, by show (μ'.l.take μ.l.length)[n]? = _; rw [List.getElem?_take, if_pos hn]; exact q1, ?_⟩
      have lo := g.lows μ.l.length (.inr rfl) n o hn q
      cases o with
      | lst xs =>
        obtain ⟨vs, h1, r⟩ := ro
        exact ⟨vs, h1, r.cut _ lo⟩
      | dic kvs =>
        obtain ⟨ks, h1, ek, r⟩ := ro
        exact ⟨ks, h1, ek, r.cut _ (dic_low lo)⟩
      | dit _ => obtain ⟨ks, h1, ek, r⟩ := ro; exact ⟨ks, h1, ek, r.cut _ lows_tupI⟩
      | diu _ => obtain ⟨ks, h1, ek, r⟩ := ro; exact ⟨ks, h1, ek, r.cut _ lows_tupI⟩
      | dead => exact ro
    · cases q
  · rw [List.getElem?_take] at q
    split at q
    · exact g.lows c (.inl hc) n o hn q
    · cases q
theorem fn_ok (F : Facts P w K mg fa ca cls tb Pg srcs) : ∀ (d : Nat) (f : Nat) (x : Str) (n : Nat), tb.fns.lookup f = some (x, n) →
    ∃ fd ps, ps.length = n ∧ mg x = some (.ref (fa f)) ∧ PySem.W.keepIn K (.ref (fa f)) = true ∧ Binds K fd ps [] ∧ (∃ s, srcs.lookup f = some s ∧ ps = s.ps) ∧ (∀ (s : Shared) (us : List Value), us.length = ps.length → BindsTo s fd ⟨us, []⟩ (ps.zip us)) ∧ ∀ base : Heap, FnOk P w K mg base (CX P w) d (fa f) fd ps (spC K fa ca cls (callD Pg d) f n)
  | 0, f, x, n, h => by
    obtain ⟨hm, s, fd, h1, h2, h3, h4, hbd, g, hg⟩ := F.fn f x n h
    unfold Src.ok at h3
    simp only [Bool.and_eq_true, decide_eq_true_eq] at h3
    refine ⟨g, s.ps, h4, hm, hg.kp, hg.bindsN hbd, ⟨s, h1, rfl⟩, hg.bindsA hbd, fun base => ⟨fun vs H Q E q => by rw [h4]; exact q.1, fun A outer st H args us vs Q E hr he hb hv q => ?_⟩⟩
    · obtain ⟨_, B, b, xs, hh, μ, _, _, _, _, q⟩ := q
      exact q.elim
  | d + 1, f, x, n, h => by
    obtain ⟨hm, s, fd, h1, h2, h3, h4, hbd, g, hg⟩ := F.fn f x n h
    have h3' := h3
    unfold Src.ok at h3
    simp only [Bool.and_eq_true, decide_eq_true_eq] at h3
    obtain ⟨⟨⟨k1, k4⟩, k5⟩, k6⟩ := h3
    refine ⟨g, s.ps, h4, hm, hg.kp, hg.bindsN hbd, ⟨s, h1, rfl⟩, hg.bindsA hbd, fun base => hg.ok (Src.sc k1) (fun vs H Q E q => by rw [h4]; exact q.1) fun cdv A outer st H vs Q E hr q => ?_⟩
    · obtain ⟨hl, B, b, xs, hh, μ, hB, hb, hR, rv, q⟩ := q
      generalize hX : cxOf (CX P w) P w K mg base s.N s.name s.scope (fa f) cdv A outer st H E = X
      have gd : Good X ⟨fa, ca, cls, d, callD Pg d⟩ (s.cy tb) [] (fun cls d _ H => E cls d H) := by
        subst hX
        exact {
          N := rfl
          nd := (Src.sc k1).nd
          sc := rfl
          kind := (Src.sc k1).kind
          fn := fun _ _ _ => rfl
          calm := fun _ => ⟨rfl, rfl⟩
          room := fun _ => hr
          top := fun _ => ⟨rfl, rfl, rfl⟩
          un := by
            have := hr.un
            show (A.deeper _).units + 65 < cLine
            omega
          tk := takes_of rfl rfl rfl rfl
          po := passes_of rfl
          fns := fun f x n h => by
            obtain ⟨fd, ps, a1, a2, a3, a4, _, _, a5⟩ := fn_ok F d f x n h
            exact ⟨fd, ps, a1, a2, a3, a4, a5 base⟩
          cons := F.cons
          dics := F.dics
          blt := F.blt
          gcd := F.gcd
          hasgcd := F.hasgcd
          hascmb := F.hascmb
          exm := F.exm
          exv := F.exv
          mkx := fun c x h => by
            obtain ⟨a1, mk⟩ := F.mkx c x h
            refine ⟨a1, fun ne => ?_⟩
            obtain ⟨B, n1, n2, bm, a2, a3, a4, a5, a6⟩ := mk ne
            exact ⟨B, n1, n2, bm, a2, a3, a4, raises_own a5 a6⟩
          mkt := fun h => F.mkt h
          fac := F.fac
          exu := fun x h => by cases h
          exi := fun a c d h => by cases h
          exf := fun _ a d h => by cases h }
      have ps := sndB fd.body gd s.body k6
      refine ⟨_, ps, ?_⟩
      have eK : X.K = K := by subst hX; rfl
      have hxl : xs.length = fd.ar := by rw [rv.length, hl, k4, h4]
      unfold callD at q
      rw [h2] at q
      simp only [hxl, if_true] at q
      rw [k5] at q
      subst eK
      by_cases ht : fd.tr = true
      · rw [if_pos ht] at q
        have hlen := hR.len
        have hR' : HR X.K fa (fun c => B c ∨ c = μ.l.length) hh μ H := ⟨hR.mu, hR.len, hR.obj, hR.inj, hR.fd, fun c hc n o hn qo => by
          rcases hc with hc | hc
          · exact hR.lows c hc n o hn qo
          · subst hc
            by_cases nd : o = .dead
            · subst nd; rfl
            · obtain ⟨a, _, ro⟩ := hR.obj n o qo nd
              cases o with
              | lst ys => obtain ⟨ws, _, r⟩ := ro; exact r.lowB
              | dic kvs => obtain ⟨ks, _, ek, r⟩ := ro; exact dic_lowB ek r.lowB
              | dit _ => rfl
              | diu _ => rfl
              | dead => rfl⟩
        refine ⟨fun c => B c ∨ c = μ.l.length, hh.length, strt s.N.length xs, hh, μ, ⟨fun c hc => by rw [hlen]; exact hc.elim (fun z => Nat.le_trans (hB c z) hb) (fun z => Nat.le_of_eq z), by rw [hlen]; exact Nat.le_refl _, strt_env s.N rv, hR'⟩, ?_⟩
        have bB : ∀ c, B c → c ≤ μ.l.length := fun c z => Nat.le_trans (hB c z) hb
        show Post X.K fa (fun c => B c ∨ c = μ.l.length) μ H (evBl (callD Pg d) hh.length fd.body (strt s.N.length xs) hh) _ _
        cases e : evBl (callD Pg d) hh.length fd.body (strt s.N.length xs) hh with
        | bad => rw [e] at q; exact q
        | exc c fs h' =>
          rw [e] at q
          simp only [] at q
          split at q
          · intro μ' H' l g cls d s' hx
            obtain ⟨g2, l2⟩ := cut_back g l bB
            rw [hlen] at q
            exact q _ _ l2 g2 cls d hx
          · exact q.elim
        | ok fl h' =>
          rw [e] at q
          cases fl with
          | rt v =>
            simp only [] at q
            split at q
            · rename_i lo
              intro μ' H' l g w rw'
              obtain ⟨g2, l2⟩ := cut_back g l bB
              rw [hlen] at q lo
              exact q _ _ l2 g2 w (rw'.cut _ lo)
            · exact q.elim
          | nx σ =>
            intro μ' H' l g s' es'
            obtain ⟨g2, l2⟩ := cut_back g l bB
            rw [hlen] at q
            exact q _ _ l2 g2 _ .non
          | bk _ => exact q.elim
          | ct _ => exact q.elim
      · rw [if_neg ht] at q
        refine ⟨B, b, strt s.N.length xs, hh, μ, ⟨hB, hb, strt_env s.N rv, hR⟩, ?_⟩
        show Post X.K fa B μ H (evBl (callD Pg d) b fd.body (strt s.N.length xs) hh) _ _
        cases e : evBl (callD Pg d) b fd.body (strt s.N.length xs) hh with
        | bad => rw [e] at q; exact q
        | exc c fs h' =>
          rw [e] at q
          exact fun μ' H' l g cls d s' hx => q μ' H' l g cls d hx
        | ok fl h' =>
          rw [e] at q
          cases fl with
          | rt v => exact fun μ' H' l g w rw' => q μ' H' l g w rw'
          | nx σ => exact fun μ' H' l g s' es' => q μ' H' l g _ .non
          | bk _ => exact q.elim
          | ct _ => exact q.elim
end
end Mi
end

section
set_option Elab.async false
set_option linter.all false
set_option maxRecDepth 100000
set_option maxHeartbeats 8000000
/-! Snd18: what the top has left; the end of a law -/
namespace Mi
open PySem PySem.Spec PyProof.Rows L2
open He hiding conB conB_ok
mutual
/-- a constant of the module -/
def conB (K : PySem.W.Frag) (fa : Nat → Addr) : PV → Value → Bool
  | .int i, u => match u with | .int j _ => i == j | _ => false
  | .str s, u => match u with | .str z _ => decide (s = z.cps.toList) | _ => false
  | .fn f, u => match u with | .ref a => a == fa f | _ => false
  | .tup xs, u => match u with
    | .ref a => match K.lookup a with
      | some ⟨.type c, none, .seq its _, _⟩ => decide (c = "tuple") && (decide (its.size ≤ sizeLine) && conBs K fa xs its.toList)
      | _ => false
    | _ => false
  | _, _ => false
def conBs (K : PySem.W.Frag) (fa : Nat → Addr) : List PV → List Value → Bool
  | [], us => us.isEmpty
  | x :: xs, us => match us with
    | u :: us => conB K fa x u && conBs K fa xs us
    | [] => false
end
mutual
theorem conB_ok {K : PySem.W.Frag} {fa : Nat → Addr} : ∀ {x : PV} {u : Value}, conB K fa x u = true → ∃ w, RelV w u ∧ ∀ es μ H, RV K fa es μ H x w
  | .int i, u, h => by
    unfold conB at h
    split at h
    · rename_i j t
      exact ⟨.int i, ⟨t, by rw [beq_iff_eq.mp h]⟩, fun _ _ _ => .int i⟩
    · cases h
  | .str s, u, h => by
    unfold conB at h
    split at h
    · rename_i z t
      have h := of_decide_eq_true h
      subst h
      exact ⟨.str z, ⟨t, rfl⟩, fun _ _ _ => .str z⟩
    · cases h
  | .fn f, u, h => by
    unfold conB at h
    split at h
    · have h := beq_iff_eq.mp h
      subst h
      exact ⟨.ref (fa f), rfl, fun _ _ _ => .fn f⟩
    · cases h
  | .tup xs, u, h => by
    unfold conB at h
    split at h
    · rename_i a
      split at h
      · rename_i c its n sl q
        simp only [Bool.and_eq_true, decide_eq_true_eq] at h
        obtain ⟨h1, h2, h3⟩ := h
        obtain ⟨ws, r, k⟩ := conBs_ok h3
        exact ⟨.ref a, rfl, fun es μ H => .tup (.inr ⟨_, its, n, q, congrArg Value.type h1, rfl, h2, r, rfl⟩) (k es μ H)⟩
      · cases h
    · cases h
  | .non, _, h => by simp [conB] at h
  | .bl _, _, h => by simp [conB] at h
  | .lst _, _, h => by simp [conB] at h
  | .ref _, _, h => by simp [conB] at h
  | .exc _ _, _, h => by simp [conB] at h
  | .exo _ _, _, h => by simp [conB] at h
  | .scr _, _, h => by simp [conB] at h
theorem conBs_ok {K : PySem.W.Frag} {fa : Nat → Addr} : ∀ {x : List PV} {u : List Value}, conBs K fa x u = true → ∃ ws, Vals ws u ∧ ∀ es μ H, RVs K fa es μ H x ws
  | [], us, h => by
    unfold conBs at h
    rw [isempty h]
    exact ⟨[], .nil, fun _ _ _ => .nil⟩
  | x :: xs, us, h => by
    unfold conBs at h
    cases us with
    | nil => cases h
    | cons u us =>
      simp only [Bool.and_eq_true] at h
      obtain ⟨w, r, k⟩ := conB_ok h.1
      obtain ⟨ws, rs, ks⟩ := conBs_ok h.2
      exact ⟨w :: ws, .cons r rs, fun es μ H => .cons (k es μ H) (ks es μ H)⟩
end
def clsK (cn : List (Nat × Str)) (K : PySem.W.Frag) (c : Nat) : Addr := match cn.lookup c with
  | some x => ga K x
  | none => 0
/-- places: of the defs; from 1000 on, in turn, of the classes and whether there are such -/
def faK (tb : Tb) (K : PySem.W.Frag) (f : Nat) : Addr := if f < 1000 then (match tb.fns.lookup f with
  | some (x, _) => ga K x
  | none => 0) else if f % 2 = 0 then clsK tb.clss K ((f - 1000) / 2) else if (tb.clss.map (·.1)).contains ((f - 1001) / 2) then 1 else 0
def bltNames : List Str := ["len", "abs", "int", "tuple", "all", "any", "range", "enumerate", "zip", "list", "isinstance", "min", "max", "str", "sorted", "bool", "set", "sum"]
def eqV' (a b : Option (Option Value)) : Bool := decide (a = b)
def excCB (K : PySem.W.Frag) (D : Addr) : Bool :=
  eqO (PySem.W.findIn K (.ref D) "__getattribute__") (some (some (.builtin "BaseException.__getattribute__"))) && eqO (PySem.W.findIn K (.ref D) "__getattr__") (some none) &&
  decide (PySem.W.subIn K (.ref D) (.type "BaseException") = some true) && PySem.W.hasDictIn K D && eqO (PySem.W.findIn K (.ref D) "__class__") (some (some (.builtin "object.__class__"))) &&
  eqO (PySem.W.specialIn K (.builtin "object.__class__") "__get__") (some (some (.builtin "getset_descriptor.__get__"))) && decide (PySem.W.takesIn K (.builtin "object.__class__") = some true) && decide (PySem.W.mroIn K D (.type "object") = some true)
theorem excCB_ok {K : PySem.W.Frag} {D : Addr} (h : excCB K D = true) : ExcC K D := by
  unfold excCB at h
  simp only [Bool.and_eq_true, decide_eq_true_eq] at h
  obtain ⟨⟨⟨⟨⟨⟨⟨h1, h2⟩, h3⟩, h4⟩, h5⟩, h6⟩, h7⟩, h8⟩ := h
  exact ⟨eqO_ok h1, eqO_ok h2, h3, h4, eqO_ok h5, eqO_ok h6, h7, h8⟩
/-- the file of the linked text -/
def cutFile : Str := "/claim/cut.py"
/-- all that is asked of what the top has left -/
def factB (tb : Tb) (K : PySem.W.Frag) : Bool :=
  (tb.fns.all fun q => decide (q.1 < 1000) && (Fa.glo q.2.1).ok K) &&
  (tb.cons.all fun q => match PySem.W.nsIn K mainGlobals q.1 with
    | some (some u) => conB K (faK tb K) q.2 u
    | _ => false) &&
  (tb.dics.all fun q => (Fa.glo q.1).ok K && q.2.2.all fun r => match PySem.W.nsIn K (ga K q.1) (⟨r.1.toArray⟩ : Str) with
    | some (some u) => conB K (faK tb K) r.2 u
    | _ => false) &&
  (bltNames.all fun x => (Fa.free x).ok K) &&
  (if tb.gcd then eqO (PySem.W.nsIn K mainGlobals "gcd") (some (some (.builtin "math.gcd"))) else eqO (PySem.W.nsIn K mainGlobals "gcd") (some none)) &&
  (!tb.comb || eqO (PySem.W.nsIn K mainGlobals "combinations") (some (some (.type "itertools.combinations")))) &&
  (tb.clss.all fun q => (Fa.glo q.2).ok K && (decide (q.1 = 2) || (Fa.exc q.2).ok K)) &&
  (tb.clss.all fun q => tb.clss.all fun r => decide (PySem.W.exmOne K (.ref (ga K q.2)) (.ref (ga K r.2)) = some (isSub q.1 r.1)) && decide (PySem.W.kitOne K (.ref (ga K q.2)) (.ref (ga K r.2)) = some (isSub q.1 r.1))) &&
  (!tb.txt || ((Fa.free "super").ok K && (decide (tb.clss.lookup 2 = some ("TextError" : Str)) && textB K (ga K "TextError") cutFile))) &&
  (!tb.exc || ((Fa.free "ValueError").ok K && tb.clss.all fun q => excCB K (ga K q.2) && decide (PySem.W.kitOne K (.ref (ga K q.2)) (.type "ValueError") = some true)))
/-- all that is asked of the texts -/
def statB (tb : Tb) (Pg : Pg) (srcs : List (Nat × Src)) : Bool := tb.fns.all fun q => match srcs.lookup q.1, Pg.lookup q.1 with
  | some s, some fd => s.ok tb fd && s.ps.length == q.2.2 && decide (s.gl = q.2.1)
  | _, _ => false
def Src.defD (s : Src) : DefD := ⟨(s.gl, none), s.name, s.name, s.params, s.body, s.scope, [], []⟩
/-- the tables' places and keys -/
def tabsOf (tb : Tb) : List He.Tab := tb.dics.map fun q => (fun K => ga K q.1, q.2.1)
abbrev AlX : Type := AlD × List (Option (List (Option (Str × Int))))
def obsX (fb : PySem.W.Frag → Bool) (fn : List DefD) (ts : List He.Tab) (K : PySem.W.Frag) : AlX := ((fb K && fn.all fun d => d.ok K, fn.map fun d => fnW K d.at_), ts.map fun t => dicW K (t.1 K))
def valX (fn : List DefD) (ts : List He.Tab) (w : World) : AlX := (valD fn, ts.map fun t => some (keysIn w.params t.2))
def SaysX (fb : PySem.W.Frag → Bool) (fn : List DefD) (ts : List He.Tab) (w : World) (K : PySem.W.Frag) : Prop := obsX fb fn ts K = valX fn ts w
/-- the places that are read: what the names reach in n steps, or simply the first n -/
def adrs (g : Addr → Option PySem.Obj) (n : Nat) : List Addr := if n < 10 then asD g n else List.range n
def obsXG (n : Nat) (fb : PySem.W.Frag → Bool) (fn : List DefD) (ts : List He.Tab) (g : Addr → Option PySem.Obj) : AlX := obsX fb fn ts (frG g (adrs g n))
def hookX (n : Nat) (fb : PySem.W.Frag → Bool) (fn : List DefD) (ts : List He.Tab) : PySem.W.Hook where
  α := AlX
  obs := fun s => obsXG n fb fn ts s.heap.get?
  val := fun w => valX fn ts w
  says := fun w h => ∃ K : PySem.W.Frag, K.In h ∧ SaysX fb fn ts w K
  of := fun _ _ e => ⟨_, frG_in, e⟩
  keeps := fun _ _ _ ⟨K, hK, c⟩ k => ⟨K, PySem.W.Frag.In.keeps hK k, c⟩
theorem obsXG_eq {n : Nat} {fb : PySem.W.Frag → Bool} {fn : List DefD} {ts : List He.Tab} {g : Addr → Option PySem.Obj} {s : Shared} (h : ∀ a, g a = s.heap.get? a) : obsXG n fb fn ts g = (hookX n fb fn ts).obs s := by
  have e : g = s.heap.get? := funext h
  rw [e] <;> rfl
section
variable {fb : PySem.W.Frag → Bool} {fn : List DefD} {ts : List He.Tab} {w : World} {K : PySem.W.Frag}
theorem SaysX.d1 (c : SaysX fb fn ts w K) : (fb K && fn.all fun d => d.ok K, fn.map fun d => fnW K d.at_) = valD fn := congrArg (fun z : AlX => z.1) c
theorem SaysX.fact (c : SaysX fb fn ts w K) : fb K = true := (ba (show (fb K && fn.all fun d => d.ok K) = true from congrArg (fun z : AlD => z.1) c.d1)).1
theorem SaysX.def_ (c : SaysX fb fn ts w K) (i : Nat) {d : DefD} (h : fn[i]? = some d) : ∃ fd, FunD K d.name d.qual d.params d.body d.scope (d.dvs K) (d.kws K) (fAd K d.at_) fd := by
  have c2 := (ba (show (fb K && fn.all fun d => d.ok K) = true from congrArg (fun z : AlD => z.1) c.d1)).2
  have e : fn.map (fun d => fnW K d.at_) = fn.map DefD.val := congrArg (fun z : AlD => z.2) c.d1
  have e2 : (fn.map fun d => fnW K d.at_)[i]? = (fn.map DefD.val)[i]? := by rw [e]
  rw [List.getElem?_map, List.getElem?_map, h] at e2
  exact DefD.funD (Option.some.inj e2) (List.all_eq_true.mp c2 d (List.mem_of_getElem? h))
theorem SaysX.tab (c : SaysX fb fn ts w K) (i : Nat) {t : He.Tab} (h : ts[i]? = some t) : ∃ es n, KDict K w (t.1 K) es n := by
  have e : ts.map (fun t => dicW K (t.1 K)) = ts.map fun t => some (keysIn w.params t.2) := congrArg (fun z : AlX => z.2) c
  have e2 : (ts.map fun t => dicW K (t.1 K))[i]? = (ts.map fun t => some (keysIn w.params t.2))[i]? := by rw [e]
  rw [List.getElem?_map, List.getElem?_map, h] at e2
  exact dicW_ok (Option.some.inj e2)
end
theorem lookup_mem {l : List (List Nat × PV)} {k : List Nat} {v : PV} (h : l.lookup k = some v) : (k, v) ∈ l := by
  induction l with
  | nil => cases h
  | cons y r ih =>
    obtain ⟨n, j⟩ := y
    rw [List.lookup_cons] at h
    by_cases hx : k = n
    · subst hx
      simp only [beq_self_eq_true] at h
      cases h
      exact List.mem_cons_self
    · have hb : (k == n) = false := by simpa using hx
      rw [hb] at h
      exact List.mem_cons_of_mem _ (ih h)
theorem mem_lookup' {α : Type} {l : List (Nat × α)} {f : Nat} {x : α} (h : l.lookup f = some x) : (f, x) ∈ l := by
  induction l with
  | nil => cases h
  | cons y r ih =>
    obtain ⟨n, j⟩ := y
    rw [List.lookup_cons] at h
    by_cases hx : f = n
    · subst hx
      simp only [beq_self_eq_true] at h
      cases h
      exact List.mem_cons_self
    · have hb : (f == n) = false := by simpa using hx
      rw [hb] at h
      exact List.mem_cons_of_mem _ (ih h)
theorem facts_of {P : Program} {w : World} {K : PySem.W.Frag} {h : Heap} {mg : Str → Option Value} {tb : Tb} {Pg : Pg} {srcs : List (Nat × Src)} (X : K.In h) (G : h.Ns mainGlobals mg) (st : statB tb Pg srcs = true) (bd : ∀ q ∈ srcs, q.2.Binds) (ht : tb.txt = true → (P.main.file == cutFile) = true ∧ (P.main.scope.names.lookup ("super" : Str)).isSome = false)
    (c : SaysX (factB tb) (srcs.map fun q => q.2.defD) (tabsOf tb) w K) : Facts P w K mg (faK tb K) (clsK tb.clss K) (tb.clss.map (·.1)) tb Pg srcs := by
  have fB := c.fact
  unfold factB at fB
  simp only [Bool.and_eq_true] at fB
  obtain ⟨⟨⟨⟨⟨⟨⟨⟨⟨f1, f2⟩, f8⟩, f3⟩, f4⟩, f4b⟩, f5⟩, f6⟩, ft⟩, f7⟩ := fB
  have kn : ∀ c, (tb.clss.map (·.1)).contains c = true → ∃ x, tb.clss.lookup c = some x := fun c hc => by
    rw [List.contains_iff_mem] at hc
    obtain ⟨q, hq, rfl⟩ := List.mem_map.mp hc
    cases z : tb.clss.lookup q.1 with
    | some x => exact ⟨x, rfl⟩
    | none =>
      exfalso
      rw [List.lookup_eq_none_iff] at z
      exact absurd (z q hq) (by simp)
  have cl : ∀ c x, tb.clss.lookup c = some x → clsK tb.clss K c = ga K x ∧ (c, x) ∈ tb.clss := fun c x hc => ⟨by unfold clsK; rw [hc], mem_lookup' hc⟩
  refine ⟨fun f x n hf => ?_, fun i x v hi => ?_, fun i x ks kvs hi => ?_, fun x hx => ?_, fun v hv => ?_, fun hg => ?_, fun hg => ?_, fun c d x hd hc => ?_, fun c hc he => ?_, fun c => ?_, fun hx => ?_, fun c x hc => ?_⟩
  · have m := mem_lookup' hf
    have g1 := List.all_eq_true.mp f1 _ m
    have s1 := List.all_eq_true.mp st _ m
    simp only [Bool.and_eq_true, decide_eq_true_eq] at g1
    have e : faK tb K f = ga K x := by unfold faK; rw [if_pos g1.1, hf]
    refine ⟨by rw [e]; exact glo_ok X G g1.2, ?_⟩
    simp only [] at s1
    split at s1
    · rename_i s fd h1 h2
      simp only [Bool.and_eq_true, decide_eq_true_eq] at s1
      obtain ⟨⟨k1, k2⟩, k3⟩ := s1
      have ms := mem_lookup' h1
      obtain ⟨i, hi⟩ := List.getElem?_of_mem ms
      obtain ⟨g, hg⟩ := c.def_ i (d := s.defD) (by rw [List.getElem?_map, hi]; rfl)
      refine ⟨s, fd, h1, h2, k1, beq_iff_eq.mp k2, bd _ ms, g, ?_⟩
      have e3 : faK tb K f = fAd K (s.gl, none) := by
        rw [e, k3]
        rfl
      rw [e3]
      exact hg
    · cases s1
  · have m := List.mem_of_getElem? hi
    have g1 := List.all_eq_true.mp f2 _ m
    simp only [] at g1
    split at g1
    · rename_i u hu
      obtain ⟨w, r, k⟩ := conB_ok g1
      exact ⟨u, w, PySem.W.mg_of X G hu, r, k⟩
    · cases g1
  · have m := List.mem_of_getElem? hi
    have g1 := List.all_eq_true.mp f8 _ m
    simp only [Bool.and_eq_true] at g1
    obtain ⟨es, n, kd⟩ := c.tab i (t := (fun K => ga K x, ks)) (by unfold tabsOf; rw [List.getElem?_map, hi]; rfl)
    refine ⟨ga K x, glo_ok X G g1.1, fun z v hv => ?_⟩
    have g2 := List.all_eq_true.mp g1.2 _ (lookup_mem hv)
    simp only [] at g2
    split at g2
    · rename_i u hu
      rw [str_of] at hu
      obtain ⟨w', r, k⟩ := conB_ok g2
      exact ⟨w', ⟨es, n, u, kd.at_, kd.lit, hu, r⟩, k⟩
    · cases g2
  · exact free_ok X G (List.all_eq_true.mp f3 x hx)
  · cases hg : tb.gcd with
    | true => rw [hg, if_pos rfl] at f4; rw [PySem.W.mg_of X G (eqO_ok f4)] at hv; cases hv; rfl
    | false => rw [hg] at f4; rw [PySem.W.mg_none_of X G (eqO_ok f4)] at hv; cases hv
  · rw [hg, if_pos rfl] at f4
    exact PySem.W.mg_of X G (eqO_ok f4)
  · rw [hg] at f4b
    simp only [Bool.not_true, Bool.false_or] at f4b
    exact PySem.W.mg_of X G (eqO_ok f4b)
  · obtain ⟨y, hy⟩ := kn c hc
    obtain ⟨e1, m1⟩ := cl c y hy
    obtain ⟨e2, m2⟩ := cl d x hd
    have g5 := List.all_eq_true.mp f5 _ m2
    have g6 := List.all_eq_true.mp (List.all_eq_true.mp f6 _ m1) _ m2
    simp only [Bool.and_eq_true, decide_eq_true_eq] at g5 g6
    rw [e1, e2]
    exact ⟨glo_ok X G g5.1, g6.1, g6.2⟩
  · obtain ⟨y, hy⟩ := kn c hc
    obtain ⟨e1, m1⟩ := cl c y hy
    rw [he] at f7
    simp only [Bool.not_true, Bool.false_or, Bool.and_eq_true] at f7
    have g7 := List.all_eq_true.mp f7.2 _ m1
    simp only [Bool.and_eq_true, decide_eq_true_eq] at g7
    rw [e1]
    exact ⟨excCB_ok g7.1, g7.2, free_ok X G f7.1⟩
  · refine ⟨?_, ?_⟩
    · unfold faK
      rw [if_neg (by omega), if_neg (by omega), show (1001 + 2 * c - 1001) / 2 = c by omega]
      cases (tb.clss.map (·.1)).contains c <;> simp
    · unfold faK
      rw [if_neg (by omega), if_pos (by omega), show (1000 + 2 * c - 1000) / 2 = c by omega]
  · rw [hx] at ft
    simp only [Bool.not_true, Bool.false_or, Bool.and_eq_true, decide_eq_true_eq] at ft
    obtain ⟨t1, t2, t3⟩ := ft
    obtain ⟨e1, m1⟩ := cl 2 _ t2
    obtain ⟨h1, h2⟩ := ht hx
    rw [e1]
    exact ⟨by rw [List.contains_iff_mem]; exact List.mem_map.mpr ⟨_, m1, rfl⟩, free_ok X G t1, text_ok t3 h1 h2⟩
  · obtain ⟨e1, m1⟩ := cl c x hc
    have g5 := List.all_eq_true.mp f5 _ m1
    simp only [Bool.and_eq_true] at g5
    refine ⟨by rw [List.contains_iff_mem]; exact List.mem_map.mpr ⟨_, m1, rfl⟩, fun ne => ?_⟩
    have g6 : (Fa.exc x).ok K = true := by
      rcases Bool.or_eq_true_iff.mp g5.2 with z | z
      · exact absurd (of_decide_eq_true z) ne
      · exact z
    obtain ⟨k1, k2, k3, k4⟩ := exc_ok g6
    rw [e1]
    exact ⟨_, _, _, _, PySem.F.excBase_ValueError, k1, k2, k3, k4⟩
theorem bits_log (z : Int) : z.natAbs.log2 ≤ Builtin.Int.intBits z := by
  unfold Builtin.Int.intBits
  split
  · rename_i h
    have : z = 0 := by simpa using h
    subst this
    decide
  · omega
/-- the end of a law: the script's number of items and their bits are told -/
theorem walk_X {nn : Nat} {l : PySem.W.OpenLaw} {n k : Nat} {q : Program} {loose : List Str} {XP : (Str → Option Value) → Heap → Prop} {d : DefRec} {x : Str} {tb : Tb} {Pg : Pg} {srcs : List (Nat × Src)} {law : Nat} {lsrc : Src}
    (hn : l.most = some n) (hn2 : n ≤ sizeLine) (hdf : d.params.defaults = []) (hr : Room k callerA) (st : statB tb Pg srcs = true) (bd : ∀ q ∈ srcs, q.2.Binds) (ht : tb.txt = true → (l.prog.main.file == cutFile) = true ∧ (l.prog.main.scope.names.lookup ("super" : Str)).isSome = false)
    (hl : tb.fns.lookup law = some (d.name, 1)) (hs : srcs.lookup law = some lsrc) (hps : lsrc.ps = [x])
    (main : ∀ ns : List Int, ns.length ≤ n → (∀ z ∈ ns, z.natAbs.log2 ≤ 1048576) → ∃ h', callD Pg k law [.scr (ns.map .int)] [] 0 = .ok (.bl true) h') :
    PySem.W.WalkO q loose XP (fun w h => (hookX nn (factB tb) (srcs.map fun q => q.2.defD) (tabsOf tb)).says w h) l.row.toRowW d [] (fun f vs => PySem.call f vs) := by
  refine Att.attach_callB hn hdf fun w s₀ s₁ mg mb fa o pm cd doc a vs ns G Y ho hd hcd hmg hobj hints hlen hbits hg => ?_
  obtain ⟨K, KX, c⟩ := Y
  have F := facts_of (P := l.prog) (w := w) (Pg := Pg) KX G.T.g st bd ht c
  obtain ⟨fd, ps, a1, a2, a3, a4, ⟨s, a5, a6⟩, a7, a8⟩ := fn_ok F k law _ _ hl
  rw [hs] at a5
  cases a5
  rw [hps] at a6
  subst a6
  have e := hmg.symm.trans a2
  cases e
  refine law_call (sp := spC K (faK tb K) (clsK tb.clss K) (tb.clss.map (·.1)) (callD Pg k) law 1) KX G.T.g G.T.b G.T.builtins G.T.nolimit hg hobj hints (Nat.le_trans hlen hn2) hr (fun base _ _ => a8 base) (fun s u => a7 s [u] rfl) (fun H hO hS => ?_) fun H e s' h => ?_
  · obtain ⟨h', hm⟩ := main ns hlen fun z hz => Nat.le_trans (bits_log z) (hbits z hz)
    refine ⟨rfl, fun _ => False, 0, [.scr (ns.map .int)], [], ⟨[], fun _ => False⟩, fun _ z => z.elim, Nat.le_refl _, ⟨fun n a q => by simp at q, rfl, fun n o q => by simp at q, fun n m a q => by simp at q, fun _ z => z.elim, fun _ z => z.elim⟩, .cons (.scr ?_) .nil, ?_⟩
    · rcases hS with (z | ⟨o, z⟩) | z
      · rcases hO a with y | ⟨o, xs, y⟩
        · rw [y] at z; cases z
        · rw [y] at z; cases z
      · exact .inl ⟨o, z⟩
      · exact .inr z
    · rw [hm]
      intro μ' H' _ _ v rv
      cases rv with
      | bl _ => rfl
  · unfold CX at h
    obtain ⟨_, _, _, _, _, _, _, _, _, _, _, _, z⟩ := h
    exact z
end Mi
end

section
set_option linter.all false
set_option maxRecDepth 100000
/-! the law's text in the small language: printed by a program of our own -/
namespace Mi.Lw
open Mi
abbrev f_other : Nat := 161
abbrev f_edge_of : Nat := 113
abbrev f_nodes_of : Nat := 156
abbrev f_ends_of : Nat := 116
abbrev f_steps_of : Nat := 185
abbrev f_left_face : Nat := 139
abbrev f_groups_of : Nat := 128
abbrev f_face_count : Nat := 117
abbrev f_numbered : Nat := 158
abbrev f_ratio : Nat := 172
abbrev f_plus : Nat := 170
abbrev f_minus : Nat := 146
abbrev f_times : Nat := 191
abbrev f_over : Nat := 164
abbrev f_opposite : Nat := 160
abbrev f_less : Nat := 142
abbrev f_total : Nat := 192
abbrev f_is_ratio : Nat := 132
abbrev f_require : Nat := 177
abbrev f_without_edge : Nat := 206
abbrev f_without_node : Nat := 207
abbrev f_with_turn : Nat := 205
abbrev f_with_amount : Nat := 202
abbrev f_replaced : Nat := 176
abbrev f_is_edge : Nat := 130
abbrev f_is_inner : Nat := 131
abbrev f_move_loop : Nat := 148
abbrev f_move_loose : Nat := 149
abbrev f_move_series : Nat := 151
abbrev f_move_parallel : Nat := 150
abbrev f_move_star : Nat := 152
abbrev f_move_triangle : Nat := 153
abbrev f_apply_move : Nat := 96
abbrev f_require_drawing : Nat := 401
abbrev f_check_net : Nat := 102
abbrev f_pivot_row : Nat := 168
abbrev f_reduce_row : Nat := 174
abbrev f_determinant : Nat := 110
abbrev f_circular_pairs : Nat := 103
abbrev f_minor : Nat := 145
abbrev f_refusal : Nat := 175
abbrev f_greatest_edge : Nat := 126
abbrev f_bordered : Nat := 100
abbrev f_greatest_spike : Nat := 127
abbrev f_without_rim_edge : Nat := 208
abbrev f_without_spike : Nat := 209
abbrev f_joined_nodes : Nat := 134
abbrev f_next_part : Nat := 154
abbrev f_parts_of : Nat := 166
abbrev f_with_rim_edge : Nat := 203
abbrev f_with_spike : Nat := 204
abbrev f_rebuild : Nat := 173
abbrev f_number_of : Nat := 157
abbrev f_amount_of : Nat := 94
abbrev f_parse_net : Nat := 165
abbrev f_law_pick : Nat := 63
abbrev f_law_call : Nat := 15
abbrev f_law_raised : Nat := 67
abbrev f_law : Nat := 136
def fd_other : Fd := ⟨1, 1, true, (.cons (.ret (.op2 .sub (.op2 .add (.var 0) (.int 1)) (.op2 .mul (.int 2) (.op2 .mod (.var 0) (.int 2))))) .nil)⟩
def fd_edge_of : Fd := ⟨1, 1, true, (.cons (.ret (.op2 .fdiv (.var 0) (.int 2))) .nil)⟩
def fd_nodes_of : Fd := ⟨1, 5, true, (.cons (.asg (.nm 1) (.mof (.rep (.lof (.disp (.cons (.int 0) .nil))) (.op2 .mul (.int 2) (.b1 .len (.idx (.var 0) (.int 2))))))) (.cons (.for_ (.tp (.cons (.nm 2) (.cons (.nm 3) .nil))) (.enum (.idx (.var 0) (.int 1))) (.cons (.for_ (.nm 4) (.ex (.var 3)) (.cons (.asg (.ix (.var 1) (.var 4)) (.op2 .add (.var 2) (.int 1))) .nil)) .nil)) (.cons (.frzv 1) (.cons (.ret (.var 1)) .nil))))⟩
def fd_ends_of : Fd := ⟨1, 3, true, (.cons (.asg (.nm 1) (.call 156 (.cons (.var 0) .nil))) (.cons (.ret (.lof (.comp (.nm 2) (.rng1 (.b1 .len (.idx (.var 0) (.int 2)))) .nil (.tup (.cons (.idx (.var 1) (.op2 .mul (.int 2) (.var 2))) (.cons (.idx (.var 1) (.op2 .add (.op2 .mul (.int 2) (.var 2)) (.int 1))) .nil))) [2]))) .nil))⟩
def fd_steps_of : Fd := ⟨1, 6, true, (.cons (.asg (.nm 1) (.mof (.rep (.lof (.disp (.cons (.glob 0 (.int (-1))) .nil))) (.op2 .mul (.int 2) (.b1 .len (.idx (.var 0) (.int 2))))))) (.cons (.asg (.nm 2) (.mof (.rep (.lof (.disp (.cons (.glob 0 (.int (-1))) .nil))) (.op2 .mul (.int 2) (.b1 .len (.idx (.var 0) (.int 2))))))) (.cons (.for_ (.tp (.cons (.nm 3) (.cons (.nm 4) .nil))) (.enum (.idx (.var 0) (.int 1))) (.cons (.for_ (.nm 5) (.rng1 (.b1 .len (.var 4))) (.cons (.ifs (.cmp .lt (.op2 .add (.var 5) (.int 1)) (.b1 .len (.var 4))) (.cons (.asg (.ix (.var 1) (.idx (.var 4) (.var 5))) (.idx (.var 4) (.op2 .add (.var 5) (.int 1)))) (.cons (.asg (.ix (.var 2) (.idx (.var 4) (.op2 .add (.var 5) (.int 1)))) (.idx (.var 4) (.var 5))) .nil)) (.cons (.ifs (.cmp .ge (.var 3) (.idx (.var 0) (.int 0))) (.cons (.asg (.ix (.var 1) (.idx (.var 4) (.var 5))) (.idx (.var 4) (.int 0))) (.cons (.asg (.ix (.var 2) (.idx (.var 4) (.int 0))) (.idx (.var 4) (.var 5))) .nil)) .nil) .nil)) .nil)) .nil)) (.cons (.frzv 2) (.cons (.frzv 1) (.cons (.ret (.tup (.cons (.var 1) (.cons (.var 2) .nil)))) .nil))))))⟩
def fd_left_face : Fd := ⟨2, 6, true, (.cons (.asg (.tp (.cons (.nm 2) (.cons (.nm 3) .nil))) (.call 185 (.cons (.var 0) .nil))) (.cons (.asg (.nm 4) (.mof (.disp (.cons (.var 1) .nil)))) (.cons (.asg (.nm 5) (.idx (.var 2) (.call 161 (.cons (.var 1) .nil)))) (.cons (.whl (.and_ (.cons (.cmp .ne (.var 5) (.glob 0 (.int (-1)))) (.cons (.cmp .ne (.var 5) (.var 1)) .nil))) (.cons (.expr (.meth .append (.var 4) (.cons (.var 5) .nil))) (.cons (.asg (.nm 5) (.idx (.var 2) (.call 161 (.cons (.var 5) .nil)))) .nil))) (.cons (.frzv 4) (.cons (.ret (.b1 .tuple (.var 4))) .nil))))))⟩
def fd_groups_of : Fd := ⟨1, 5, true, (.cons (.asg (.nm 1) (.mof (.ofI (.rng1 (.op2 .add (.b1 .len (.idx (.var 0) (.int 1))) (.int 1)))))) (.cons (.for_ (.tp (.cons (.nm 2) (.cons (.nm 3) .nil))) (.ex (.lof (.rep (.call 116 (.cons (.var 0) .nil)) (.b1 .len (.idx (.var 0) (.int 1)))))) (.cons (.asg (.nm 4) (.b2 .min (.idx (.var 1) (.var 2)) (.idx (.var 1) (.var 3)))) (.cons (.asg (.ix (.var 1) (.var 2)) (.var 4)) (.cons (.asg (.ix (.var 1) (.var 3)) (.var 4)) .nil)))) (.cons (.frzv 1) (.cons (.ret (.lof (.slice (.var 1) (.so (.int 1)) .no))) .nil))))⟩
def fd_face_count : Fd := ⟨1, 13, true, (.cons (.asg (.tp (.cons (.nm 1) (.cons (.nm 2) (.cons (.nm 3) .nil)))) (.var 0)) (.cons (.asg (.nm 4) (.op2 .mul (.int 2) (.b1 .len (.var 3)))) (.cons (.asg (.nm 5) .dnew) (.cons (.for_ (.tp (.cons (.nm 6) (.cons (.nm 7) .nil))) (.enum (.var 2)) (.cons (.asg (.nm 8) (.lof (.copy (.var 7)))) (.cons (.ifs (.cmp .lt (.var 6) (.var 1)) (.cons (.asg (.nm 8) (.lof (.cat (.lof (.cat (.lof (.disp (.cons (.op2 .add (.var 4) (.op2 .mul (.int 2) (.var 6))) .nil))) (.var 8))) (.lof (.disp (.cons (.op2 .add (.op2 .add (.var 4) (.op2 .mul (.int 2) (.op2 .mod (.op2 .sub (.var 6) (.int 1)) (.var 1)))) (.int 1)) .nil)))))) .nil) .nil) (.cons (.for_ (.tp (.cons (.nm 9) (.cons (.nm 10) .nil))) (.enum (.var 8)) (.cons (.asg (.dix (.var 5) (.var 10)) (.idx (.var 8) (.op2 .mod (.op2 .add (.var 9) (.int 1)) (.b1 .len (.var 8))))) .nil)) .nil)))) (.cons (.asg (.nm 11) .dnew) (.cons (.asg (.nm 12) (.int 0)) (.cons (.frzk 5) (.cons (.for_ (.nm 10) (.ex (.var 5)) (.cons (.ifs (.din true (.var 10) (.var 11)) (.cons (.aug 12 .add (.int 1)) (.cons (.whl (.din true (.var 10) (.var 11)) (.cons (.asg (.dix (.var 11) (.var 10)) (.bl true)) (.cons (.asg (.nm 10) (.dget (.var 5) (.call 161 (.cons (.var 10) .nil)))) .nil))) .nil)) .nil) .nil)) (.cons (.ret (.var 12)) .nil)))))))))⟩
def fd_numbered : Fd := ⟨1, 18, true, (.cons (.asg (.tp (.cons (.nm 1) (.cons (.nm 2) (.cons (.nm 3) .nil)))) (.var 0)) (.cons (.asg (.nm 4) (.call 156 (.cons (.var 0) .nil))) (.cons (.asg (.nm 5) (.mof (.ofI (.rng2 (.int 1) (.op2 .add (.var 1) (.int 1)))))) (.cons (.dasg 6 5 (.nm 15) (.var 15) (.bl true) [15]) (.cons (.asg (.nm 7) (.mof (.compw 5 (.nm 15) (.idx (.var 2) (.op2 .sub (.var 15) (.int 1))) [15]))) (.cons (.asg (.nm 8) .dnew) (.cons (.asg (.nm 9) (.mof (.disp .nil))) (.cons (.asg (.nm 10) (.int 0)) (.cons (.whl (.cmp .lt (.var 10) (.b1 .len (.var 5))) (.cons (.for_ (.nm 11) (.ex (.idx (.var 7) (.var 10))) (.cons (.ifs (.din true (.var 11) (.var 8)) (.cons (.asg (.dix (.var 8) (.var 11)) (.op2 .mul (.int 2) (.b1 .len (.var 9)))) (.cons (.asg (.dix (.var 8) (.call 161 (.cons (.var 11) .nil))) (.op2 .add (.op2 .mul (.int 2) (.b1 .len (.var 9))) (.int 1))) (.cons (.expr (.meth .append (.var 9) (.cons (.call 113 (.cons (.var 11) .nil)) .nil))) (.cons (.asg (.nm 12) (.idx (.var 4) (.call 161 (.cons (.var 11) .nil)))) (.cons (.ifs (.din true (.var 12) (.var 6)) (.cons (.asg (.dix (.var 6) (.var 12)) (.bl true)) (.cons (.expr (.meth .append (.var 5) (.cons (.var 12) .nil))) (.cons (.asg (.nm 13) (.tix (.idx (.var 2) (.op2 .sub (.var 12) (.int 1))) (.call 161 (.cons (.var 11) .nil)))) (.cons (.expr (.meth .append (.var 7) (.cons (.op2 .add (.tsl (.idx (.var 2) (.op2 .sub (.var 12) (.int 1))) (.so (.var 13)) .no) (.tsl (.idx (.var 2) (.op2 .sub (.var 12) (.int 1))) .no (.so (.var 13)))) .nil))) .nil)))) .nil) .nil))))) .nil) .nil)) (.cons (.aug 10 .add (.int 1)) .nil))) (.cons (.frzv 7) (.cons (.asg (.nm 14) (.lof (.comp (.nm 16) (.ex (.var 7)) .nil (.tof (.comp (.nm 11) (.ex (.var 16)) .nil (.dget (.var 8) (.var 11)) [11])) [16]))) (.cons (.frzv 9) (.cons (.ret (.tup (.cons (.var 1) (.cons (.b1 .tuple (.var 14)) (.cons (.tof (.comp (.nm 17) (.ex (.var 9)) .nil (.idx (.var 3) (.var 17)) [17])) .nil))))) .nil)))))))))))))⟩
def fd_ratio : Fd := ⟨2, 3, true, (.cons (.ifs (.cmp .eq (.var 1) (.int 0)) (.cons (.raise 1 .nil) .nil) .nil) (.cons (.asg (.nm 2) (.b2 .gcd (.var 0) (.var 1))) (.cons (.ifs (.cmp .lt (.var 1) (.int 0)) (.cons (.asg (.nm 2) (.neg (.var 2))) .nil) .nil) (.cons (.ret (.tup (.cons (.op2 .fdiv (.var 0) (.var 2)) (.cons (.op2 .fdiv (.var 1) (.var 2)) .nil)))) .nil))))⟩
def fd_plus : Fd := ⟨2, 2, true, (.cons (.ret (.call 172 (.cons (.op2 .add (.op2 .mul (.idx (.var 0) (.int 0)) (.idx (.var 1) (.int 1))) (.op2 .mul (.idx (.var 1) (.int 0)) (.idx (.var 0) (.int 1)))) (.cons (.op2 .mul (.idx (.var 0) (.int 1)) (.idx (.var 1) (.int 1))) .nil)))) .nil)⟩
def fd_minus : Fd := ⟨2, 2, true, (.cons (.ret (.call 172 (.cons (.op2 .sub (.op2 .mul (.idx (.var 0) (.int 0)) (.idx (.var 1) (.int 1))) (.op2 .mul (.idx (.var 1) (.int 0)) (.idx (.var 0) (.int 1)))) (.cons (.op2 .mul (.idx (.var 0) (.int 1)) (.idx (.var 1) (.int 1))) .nil)))) .nil)⟩
def fd_times : Fd := ⟨2, 2, true, (.cons (.ret (.call 172 (.cons (.op2 .mul (.idx (.var 0) (.int 0)) (.idx (.var 1) (.int 0))) (.cons (.op2 .mul (.idx (.var 0) (.int 1)) (.idx (.var 1) (.int 1))) .nil)))) .nil)⟩
def fd_over : Fd := ⟨2, 2, true, (.cons (.ret (.call 172 (.cons (.op2 .mul (.idx (.var 0) (.int 0)) (.idx (.var 1) (.int 1))) (.cons (.op2 .mul (.idx (.var 0) (.int 1)) (.idx (.var 1) (.int 0))) .nil)))) .nil)⟩
def fd_opposite : Fd := ⟨1, 1, true, (.cons (.ret (.tup (.cons (.neg (.idx (.var 0) (.int 0))) (.cons (.idx (.var 0) (.int 1)) .nil)))) .nil)⟩
def fd_less : Fd := ⟨2, 2, true, (.cons (.ret (.cmp .lt (.op2 .mul (.idx (.var 0) (.int 0)) (.idx (.var 1) (.int 1))) (.op2 .mul (.idx (.var 1) (.int 0)) (.idx (.var 0) (.int 1))))) .nil)⟩
def fd_total : Fd := ⟨1, 3, true, (.cons (.asg (.nm 1) (.glob 1 (.tup [.int 0, .int 1]))) (.cons (.for_ (.nm 2) (.ex (.var 0)) (.cons (.asg (.nm 1) (.call 170 (.cons (.var 1) (.cons (.var 2) .nil)))) .nil)) (.cons (.ret (.var 1)) .nil)))⟩
def fd_is_ratio : Fd := ⟨1, 1, true, (.cons (.ret (.and_ (.cons (.cmp .gt (.idx (.var 0) (.int 1)) (.int 0)) (.cons (.cmp .eq (.b2 .gcd (.idx (.var 0) (.int 0)) (.idx (.var 0) (.int 1))) (.int 1)) .nil)))) .nil)⟩
def fd_require : Fd := ⟨1, 1, true, (.cons (.ifs (.not_ (.var 0)) (.cons (.raise 4 .nil) .nil) .nil) .nil)⟩
def fd_without_edge : Fd := ⟨2, 8, true, (.cons (.asg (.tp (.cons (.nm 2) (.cons (.nm 3) (.cons (.nm 4) .nil)))) (.var 0)) (.cons (.asg (.nm 5) (.mof (.disp .nil))) (.cons (.for_ (.nm 6) (.ex (.var 3)) (.cons (.expr (.meth .append (.var 5) (.cons (.tof (.comp (.nm 7) (.ex (.var 6)) (.cons (.cmp .ne (.call 113 (.cons (.var 7) .nil)) (.var 1)) .nil) (.op2 .sub (.var 7) (.op2 .mul (.int 2) (.b1 .int (.cmp .gt (.var 7) (.op2 .mul (.int 2) (.var 1)))))) [7])) .nil))) .nil)) (.cons (.frzv 5) (.cons (.ret (.tup (.cons (.var 2) (.cons (.b1 .tuple (.var 5)) (.cons (.op2 .add (.tsl (.var 4) .no (.so (.var 1))) (.tsl (.var 4) (.so (.op2 .add (.var 1) (.int 1))) .no)) .nil))))) .nil)))))⟩
def fd_without_node : Fd := ⟨2, 5, true, (.cons (.asg (.tp (.cons (.nm 2) (.cons (.nm 3) (.cons (.nm 4) .nil)))) (.var 0)) (.cons (.ret (.tup (.cons (.var 2) (.cons (.op2 .add (.tsl (.var 3) .no (.so (.op2 .sub (.var 1) (.int 1)))) (.tsl (.var 3) (.so (.var 1)) .no)) (.cons (.var 4) .nil))))) .nil))⟩
def fd_with_turn : Fd := ⟨3, 6, true, (.cons (.asg (.tp (.cons (.nm 3) (.cons (.nm 4) (.cons (.nm 5) .nil)))) (.var 0)) (.cons (.ret (.tup (.cons (.var 3) (.cons (.op2 .add (.op2 .add (.tsl (.var 4) .no (.so (.op2 .sub (.var 1) (.int 1)))) (.tup (.cons (.b1 .tuple (.var 2)) .nil))) (.tsl (.var 4) (.so (.var 1)) .no)) (.cons (.var 5) .nil))))) .nil))⟩
def fd_with_amount : Fd := ⟨3, 6, true, (.cons (.asg (.tp (.cons (.nm 3) (.cons (.nm 4) (.cons (.nm 5) .nil)))) (.var 0)) (.cons (.ret (.tup (.cons (.var 3) (.cons (.var 4) (.cons (.op2 .add (.op2 .add (.tsl (.var 5) .no (.so (.var 1))) (.tup (.cons (.var 2) .nil))) (.tsl (.var 5) (.so (.op2 .add (.var 1) (.int 1))) .no)) .nil))))) .nil))⟩
def fd_replaced : Fd := ⟨3, 4, true, (.cons (.asg (.nm 3) (.tix (.var 0) (.var 1))) (.cons (.ret (.op2 .add (.op2 .add (.tsl (.var 0) .no (.so (.var 3))) (.b1 .tuple (.var 2))) (.tsl (.var 0) (.so (.op2 .add (.var 3) (.int 1))) .no))) .nil))⟩
def fd_is_edge : Fd := ⟨2, 2, true, (.cons (.ret (.chain .le .lt (.int 0) (.var 1) (.b1 .len (.idx (.var 0) (.int 2))))) .nil)⟩
def fd_is_inner : Fd := ⟨2, 2, true, (.cons (.ret (.chain .lt .le (.idx (.var 0) (.int 0)) (.var 1) (.b1 .len (.idx (.var 0) (.int 1))))) .nil)⟩
def fd_move_loop : Fd := ⟨2, 3, true, (.cons (.expr (.call 177 (.cons (.call 130 (.cons (.var 0) (.cons (.var 1) .nil))) .nil))) (.cons (.asg (.nm 2) (.call 156 (.cons (.var 0) .nil))) (.cons (.expr (.call 177 (.cons (.cmp .eq (.idx (.var 2) (.op2 .mul (.int 2) (.var 1))) (.idx (.var 2) (.op2 .add (.op2 .mul (.int 2) (.var 1)) (.int 1)))) .nil))) (.cons (.ret (.call 206 (.cons (.var 0) (.cons (.var 1) .nil)))) .nil))))⟩
def fd_move_loose : Fd := ⟨2, 5, true, (.cons (.expr (.call 177 (.cons (.call 130 (.cons (.var 0) (.cons (.var 1) .nil))) .nil))) (.cons (.asg (.nm 2) (.call 156 (.cons (.var 0) .nil))) (.cons (.for_ (.nm 3) (.ex (.tup (.cons (.op2 .mul (.int 2) (.var 1)) (.cons (.op2 .add (.op2 .mul (.int 2) (.var 1)) (.int 1)) .nil)))) (.cons (.asg (.nm 4) (.idx (.var 2) (.var 3))) (.cons (.ifs (.and_ (.cons (.call 131 (.cons (.var 0) (.cons (.var 4) .nil))) (.cons (.cmp .eq (.idx (.idx (.var 0) (.int 1)) (.op2 .sub (.var 4) (.int 1))) (.tup (.cons (.var 3) .nil))) .nil))) (.cons (.ret (.call 207 (.cons (.call 206 (.cons (.var 0) (.cons (.var 1) .nil))) (.cons (.var 4) .nil)))) .nil) .nil) .nil))) (.cons (.raise 4 .nil) .nil))))⟩
def fd_move_series : Fd := ⟨2, 9, true, (.cons (.expr (.call 177 (.cons (.and_ (.cons (.call 131 (.cons (.var 0) (.cons (.var 1) .nil))) (.cons (.cmp .eq (.b1 .len (.idx (.idx (.var 0) (.int 1)) (.op2 .sub (.var 1) (.int 1)))) (.int 2)) .nil))) .nil))) (.cons (.asg (.tp (.cons (.nm 2) (.cons (.nm 3) .nil))) (.lof (.sorted (.ex (.idx (.idx (.var 0) (.int 1)) (.op2 .sub (.var 1) (.int 1))))))) (.cons (.asg (.tp (.cons (.nm 4) (.cons (.nm 5) .nil))) (.tup (.cons (.call 113 (.cons (.var 2) .nil)) (.cons (.call 113 (.cons (.var 3) .nil)) .nil)))) (.cons (.expr (.call 177 (.cons (.cmp .ne (.var 4) (.var 5)) .nil))) (.cons (.asg (.nm 6) (.call 164 (.cons (.call 191 (.cons (.idx (.idx (.var 0) (.int 2)) (.var 4)) (.cons (.idx (.idx (.var 0) (.int 2)) (.var 5)) .nil))) (.cons (.call 170 (.cons (.idx (.idx (.var 0) (.int 2)) (.var 4)) (.cons (.idx (.idx (.var 0) (.int 2)) (.var 5)) .nil))) .nil)))) (.cons (.asg (.nm 7) (.idx (.call 156 (.cons (.var 0) .nil)) (.call 161 (.cons (.var 3) .nil)))) (.cons (.asg (.nm 8) (.call 202 (.cons (.var 0) (.cons (.var 4) (.cons (.var 6) .nil))))) (.cons (.asg (.nm 8) (.call 205 (.cons (.var 8) (.cons (.var 7) (.cons (.call 176 (.cons (.idx (.idx (.var 8) (.int 1)) (.op2 .sub (.var 7) (.int 1))) (.cons (.call 161 (.cons (.var 3) .nil)) (.cons (.tup (.cons (.var 2) .nil)) .nil)))) .nil))))) (.cons (.asg (.nm 8) (.call 205 (.cons (.var 8) (.cons (.var 1) (.cons (.tup (.cons (.var 3) (.cons (.call 161 (.cons (.var 3) .nil)) .nil))) .nil))))) (.cons (.ret (.call 207 (.cons (.call 206 (.cons (.var 8) (.cons (.var 5) .nil))) (.cons (.var 1) .nil)))) .nil))))))))))⟩
def fd_move_parallel : Fd := ⟨3, 5, true, (.cons (.expr (.call 177 (.cons (.and_ (.cons (.call 130 (.cons (.var 0) (.cons (.var 1) .nil))) (.cons (.call 130 (.cons (.var 0) (.cons (.var 2) .nil))) (.cons (.cmp .ne (.var 1) (.var 2)) .nil)))) .nil))) (.cons (.asg (.nm 3) (.call 156 (.cons (.var 0) .nil))) (.cons (.asg (.nm 4) (.lof (.sorted (.ex (.lof (.disp (.cons (.idx (.var 3) (.op2 .mul (.int 2) (.var 1))) (.cons (.idx (.var 3) (.op2 .add (.op2 .mul (.int 2) (.var 1)) (.int 1))) .nil)))))))) (.cons (.expr (.call 177 (.cons (.and_ (.cons (.cmp .eq (.var 4) (.lof (.sorted (.ex (.lof (.disp (.cons (.idx (.var 3) (.op2 .mul (.int 2) (.var 2))) (.cons (.idx (.var 3) (.op2 .add (.op2 .mul (.int 2) (.var 2)) (.int 1))) .nil)))))))) (.cons (.cmp .ne (.idx (.var 4) (.int 0)) (.idx (.var 4) (.int 1))) .nil))) .nil))) (.cons (.ret (.call 206 (.cons (.call 202 (.cons (.var 0) (.cons (.var 1) (.cons (.call 170 (.cons (.idx (.idx (.var 0) (.int 2)) (.var 1)) (.cons (.idx (.idx (.var 0) (.int 2)) (.var 2)) .nil))) .nil)))) (.cons (.var 2) .nil)))) .nil)))))⟩
def fd_move_star : Fd := ⟨2, 20, true, (.cons (.expr (.call 177 (.cons (.and_ (.cons (.call 131 (.cons (.var 0) (.cons (.var 1) .nil))) (.cons (.cmp .eq (.b1 .len (.idx (.idx (.var 0) (.int 1)) (.op2 .sub (.var 1) (.int 1)))) (.int 3)) .nil))) .nil))) (.cons (.asg (.nm 2) (.idx (.idx (.var 0) (.int 1)) (.op2 .sub (.var 1) (.int 1)))) (.cons (.asg (.nm 3) (.call 156 (.cons (.var 0) .nil))) (.cons (.asg (.nm 4) (.lof (.comp (.nm 18) (.ex (.var 2)) .nil (.idx (.var 3) (.call 161 (.cons (.var 18) .nil))) [18]))) (.cons (.expr (.call 177 (.cons (.and_ (.cons (.cmp .eq (.lset (.var 4)) (.int 3)) (.cons (.cmp .nmem (.var 1) (.var 4)) .nil))) .nil))) (.cons (.asg (.tp (.cons (.nm 5) (.cons (.nm 6) (.cons (.nm 7) .nil)))) (.lof (.comp (.nm 18) (.ex (.var 2)) .nil (.call 113 (.cons (.var 18) .nil)) [18]))) (.cons (.asg (.nm 8) (.call 170 (.cons (.call 170 (.cons (.idx (.idx (.var 0) (.int 2)) (.var 5)) (.cons (.idx (.idx (.var 0) (.int 2)) (.var 6)) .nil))) (.cons (.idx (.idx (.var 0) (.int 2)) (.var 7)) .nil)))) (.cons (.asg (.nm 9) (.var 0)) (.cons (.for_ (.tp (.cons (.nm 10) (.cons (.nm 11) .nil))) (.zip (.var 2) (.tup (.cons (.tup (.cons (.op2 .mul (.int 2) (.var 7)) (.cons (.op2 .add (.op2 .mul (.int 2) (.var 6)) (.int 1)) .nil))) (.cons (.tup (.cons (.op2 .mul (.int 2) (.var 5)) (.cons (.op2 .add (.op2 .mul (.int 2) (.var 7)) (.int 1)) .nil))) (.cons (.tup (.cons (.op2 .mul (.int 2) (.var 6)) (.cons (.op2 .add (.op2 .mul (.int 2) (.var 5)) (.int 1)) .nil))) .nil))))) (.cons (.asg (.nm 12) (.idx (.var 3) (.call 161 (.cons (.var 10) .nil)))) (.cons (.asg (.nm 13) (.lof (.comp (.nm 18) (.ex (.var 11)) .nil (.op2 .sub (.neg (.int 1)) (.var 18)) [18]))) (.cons (.asg (.nm 9) (.call 205 (.cons (.var 9) (.cons (.var 12) (.cons (.call 176 (.cons (.idx (.idx (.var 9) (.int 1)) (.op2 .sub (.var 12) (.int 1))) (.cons (.call 161 (.cons (.var 10) .nil)) (.cons (.var 13) .nil)))) .nil))))) .nil)))) (.cons (.asg (.nm 14) (.lof (.comp (.nm 19) (.ex (.idx (.var 9) (.int 1))) .nil (.tof (.comp (.nm 18) (.ex (.var 19)) .nil (.ite (.cmp .lt (.var 18) (.int 0)) (.op2 .sub (.neg (.int 1)) (.var 18)) (.var 18)) [18])) [19]))) (.cons (.asg (.nm 9) (.tup (.cons (.idx (.var 0) (.int 0)) (.cons (.b1 .tuple (.var 14)) (.cons (.idx (.var 0) (.int 2)) .nil))))) (.cons (.for_ (.tp (.cons (.nm 15) (.cons (.nm 16) (.cons (.nm 17) .nil)))) (.ex (.tup (.cons (.tup (.cons (.var 5) (.cons (.var 6) (.cons (.var 7) .nil)))) (.cons (.tup (.cons (.var 6) (.cons (.var 7) (.cons (.var 5) .nil)))) (.cons (.tup (.cons (.var 7) (.cons (.var 5) (.cons (.var 6) .nil)))) .nil))))) (.cons (.asg (.nm 9) (.call 202 (.cons (.var 9) (.cons (.var 15) (.cons (.call 164 (.cons (.call 191 (.cons (.idx (.idx (.var 0) (.int 2)) (.var 16)) (.cons (.idx (.idx (.var 0) (.int 2)) (.var 17)) .nil))) (.cons (.var 8) .nil))) .nil))))) .nil)) (.cons (.ret (.call 207 (.cons (.call 205 (.cons (.var 9) (.cons (.var 1) (.cons (.tup .nil) .nil)))) (.cons (.var 1) .nil)))) .nil)))))))))))))⟩
def fd_move_triangle : Fd := ⟨2, 18, true, (.cons (.expr (.call 177 (.cons (.chain .le .lt (.int 0) (.var 1) (.op2 .mul (.int 2) (.b1 .len (.idx (.var 0) (.int 2))))) .nil))) (.cons (.asg (.nm 2) (.call 139 (.cons (.var 0) (.cons (.var 1) .nil)))) (.cons (.asg (.nm 3) (.call 156 (.cons (.var 0) .nil))) (.cons (.asg (.nm 4) (.lof (.comp (.nm 12) (.ex (.var 2)) .nil (.idx (.var 3) (.var 12)) [12]))) (.cons (.expr (.call 177 (.cons (.and_ (.cons (.cmp .eq (.b1 .len (.var 2)) (.int 3)) (.cons (.cmp .eq (.lset (.var 4)) (.int 3)) (.cons (.cmp .eq (.idx (.idx (.call 185 (.cons (.var 0) .nil)) (.int 0)) (.call 161 (.cons (.idx (.var 2) (.int 2)) .nil))) (.var 1)) .nil)))) .nil))) (.cons (.asg (.tp (.cons (.nm 5) (.cons (.nm 6) (.cons (.nm 7) .nil)))) (.lof (.comp (.nm 12) (.ex (.var 2)) .nil (.call 113 (.cons (.var 12) .nil)) [12]))) (.cons (.asg (.nm 8) (.call 170 (.cons (.call 170 (.cons (.call 191 (.cons (.idx (.idx (.var 0) (.int 2)) (.var 5)) (.cons (.idx (.idx (.var 0) (.int 2)) (.var 6)) .nil))) (.cons (.call 191 (.cons (.idx (.idx (.var 0) (.int 2)) (.var 6)) (.cons (.idx (.idx (.var 0) (.int 2)) (.var 7)) .nil))) .nil))) (.cons (.call 191 (.cons (.idx (.idx (.var 0) (.int 2)) (.var 7)) (.cons (.idx (.idx (.var 0) (.int 2)) (.var 5)) .nil))) .nil)))) (.cons (.asg (.nm 9) (.var 0)) (.cons (.for_ (.tp (.cons (.nm 10) (.cons (.nm 11) (.cons (.nm 12) (.cons (.nm 13) .nil))))) (.zipn (.cons (.var 4) (.cons (.tup (.cons (.idx (.var 2) (.int 2)) (.cons (.idx (.var 2) (.int 0)) (.cons (.idx (.var 2) (.int 1)) .nil)))) (.cons (.var 2) (.cons (.tup (.cons (.var 6) (.cons (.var 7) (.cons (.var 5) .nil)))) .nil))))) (.cons (.asg (.nm 14) (.lof (.comp (.nm 17) (.ex (.idx (.idx (.var 9) (.int 1)) (.op2 .sub (.var 10) (.int 1)))) (.cons (.cmp .ne (.var 17) (.call 161 (.cons (.var 11) .nil))) .nil) (.var 17) [17]))) (.cons (.asg (.nm 9) (.call 205 (.cons (.var 9) (.cons (.var 10) (.cons (.lof (.comp (.nm 17) (.ex (.var 14)) .nil (.ite (.cmp .eq (.var 17) (.var 12)) (.op2 .sub (.neg (.int 1)) (.op2 .mul (.int 2) (.var 13))) (.var 17)) [17])) .nil))))) .nil))) (.cons (.asg (.nm 15) (.mof (.comp (.nm 14) (.ex (.idx (.var 9) (.int 1))) .nil (.tof (.comp (.nm 17) (.ex (.var 14)) .nil (.ite (.cmp .lt (.var 17) (.int 0)) (.op2 .sub (.neg (.int 1)) (.var 17)) (.var 17)) [17])) [14]))) (.cons (.expr (.meth .append (.var 15) (.cons (.tup (.cons (.op2 .add (.op2 .mul (.int 2) (.var 6)) (.int 1)) (.cons (.op2 .add (.op2 .mul (.int 2) (.var 5)) (.int 1)) (.cons (.op2 .add (.op2 .mul (.int 2) (.var 7)) (.int 1)) .nil)))) .nil))) (.cons (.frzv 15) (.cons (.asg (.nm 9) (.tup (.cons (.idx (.var 0) (.int 0)) (.cons (.b1 .tuple (.var 15)) (.cons (.idx (.var 0) (.int 2)) .nil))))) (.cons (.for_ (.nm 16) (.ex (.tup (.cons (.var 5) (.cons (.var 6) (.cons (.var 7) .nil))))) (.cons (.asg (.nm 9) (.call 202 (.cons (.var 9) (.cons (.var 16) (.cons (.call 164 (.cons (.var 8) (.cons (.idx (.idx (.var 0) (.int 2)) (.var 16)) .nil))) .nil))))) .nil)) (.cons (.ret (.var 9)) .nil)))))))))))))))⟩
def fd_apply_move : Fd := ⟨2, 3, true, (.cons (.ifs (.cmp .eq (.idx (.var 1) (.int 0)) (.str [110, 117, 109, 98, 101, 114])) (.cons (.ret (.call 158 (.cons (.var 0) .nil))) .nil) .nil) (.cons (.asg (.nm 2) (.gdx 0 [([108, 111, 111, 112], .fn 148), ([108, 111, 111, 115, 101], .fn 149), ([115, 101, 114, 105, 101, 115], .fn 151), ([112, 97, 114, 97, 108, 108, 101, 108], .fn 150), ([115, 116, 97, 114], .fn 152), ([116, 114, 105, 97, 110, 103, 108, 101], .fn 153)] (.idx (.var 1) (.int 0)))) (.cons (.ifs (.cmp .eq (.idx (.var 1) (.int 0)) (.str [112, 97, 114, 97, 108, 108, 101, 108])) (.cons (.ret (.callv [150] 2 (.cons (.var 0) (.cons (.idx (.var 1) (.int 1)) (.cons (.idx (.var 1) (.int 2)) .nil))))) .nil) .nil) (.cons (.ret (.callv [148, 149, 151, 152, 153] 2 (.cons (.var 0) (.cons (.idx (.var 1) (.int 1)) .nil)))) .nil))))⟩
def fd_require_drawing : Fd := ⟨2, 2, true, (.cons (.ifs (.not_ (.var 0)) (.cons (.raise 3 (.cons (.var 1) .nil)) .nil) .nil) .nil)⟩
def fd_check_net : Fd := ⟨1, 9, true, (.cons (.asg (.tp (.cons (.nm 1) (.cons (.nm 2) (.cons (.nm 3) .nil)))) (.var 0)) (.cons (.expr (.call 401 (.cons (.chain .le .le (.int 1) (.var 1) (.glob 2 (.int 7))) (.cons (.str [116, 104, 101, 32, 114, 105, 109, 32, 104, 97, 115, 32, 97, 32, 119, 114, 111, 110, 103, 32, 110, 117, 109, 98, 101, 114, 32, 111, 102, 32, 110, 111, 100, 101, 115]) .nil)))) (.cons (.expr (.call 401 (.cons (.cmp .ge (.b1 .len (.var 2)) (.var 1)) (.cons (.str [97, 32, 110, 111, 100, 101, 32, 111, 102, 32, 116, 104, 101, 32, 114, 105, 109, 32, 105, 115, 32, 109, 105, 115, 115, 105, 110, 103]) .nil)))) (.cons (.expr (.call 401 (.cons (.cmp .le (.b1 .len (.var 3)) (.glob 3 (.int 60))) (.cons (.str [116, 104, 101, 114, 101, 32, 97, 114, 101, 32, 116, 111, 111, 32, 109, 97, 110, 121, 32, 101, 100, 103, 101, 115]) .nil)))) (.cons (.asg (.nm 4) (.mof (.disp .nil))) (.cons (.for_ (.nm 5) (.ex (.var 2)) (.cons (.expr (.meth .extend (.var 4) (.cons (.var 5) .nil))) .nil)) (.cons (.frzv 4) (.cons (.expr (.call 401 (.cons (.cmp .eq (.lof (.sorted (.ex (.var 4)))) (.lof (.ofI (.rng1 (.op2 .mul (.int 2) (.b1 .len (.var 3))))))) (.cons (.str [97, 32, 100, 97, 114, 116, 32, 105, 115, 32, 109, 105, 115, 115, 105, 110, 103, 32, 111, 114, 32, 115, 116, 97, 110, 100, 115, 32, 116, 119, 105, 99, 101]) .nil)))) (.cons (.for_ (.nm 6) (.ex (.var 3)) (.cons (.expr (.call 401 (.cons (.and_ (.cons (.call 132 (.cons (.var 6) .nil)) (.cons (.cmp .gt (.idx (.var 6) (.int 0)) (.int 0)) .nil))) (.cons (.str [97, 110, 32, 97, 109, 111, 117, 110, 116, 32, 105, 115, 32, 110, 111, 32, 112, 111, 115, 105, 116, 105, 118, 101, 32, 114, 97, 116, 105, 111]) .nil)))) .nil)) (.cons (.for_ (.nm 7) (.ex (.call 128 (.cons (.var 0) .nil))) (.cons (.expr (.call 401 (.cons (.cmp .le (.var 7) (.var 1)) (.cons (.str [97, 32, 110, 111, 100, 101, 32, 105, 115, 32, 110, 111, 116, 32, 106, 111, 105, 110, 101, 100, 32, 119, 105, 116, 104, 32, 116, 104, 101, 32, 114, 105, 109]) .nil)))) .nil)) (.cons (.asg (.nm 8) (.call 117 (.cons (.var 0) .nil))) (.cons (.expr (.call 401 (.cons (.cmp .eq (.op2 .add (.op2 .sub (.op2 .sub (.b1 .len (.var 2)) (.b1 .len (.var 3))) (.var 1)) (.var 8)) (.int 2)) (.cons (.str [101, 100, 103, 101, 115, 32, 99, 114, 111, 115, 115]) .nil)))) .nil))))))))))))⟩
def fd_pivot_row : Fd := ⟨3, 4, true, (.cons (.for_ (.nm 3) (.rng2 (.var 2) (.b1 .len (.var 0))) (.cons (.ifs (.cmp .ne (.idx (.idx (.var 0) (.var 3)) (.var 1)) (.glob 1 (.tup [.int 0, .int 1]))) (.cons (.ret (.var 3)) .nil) .nil) .nil)) (.cons (.ret (.neg (.int 1))) .nil))⟩
def fd_reduce_row : Fd := ⟨3, 6, true, (.cons (.ifs (.cmp .eq (.idx (.var 0) (.var 2)) (.glob 1 (.tup [.int 0, .int 1]))) (.cons (.ret (.var 0)) .nil) .nil) (.cons (.asg (.nm 3) (.call 164 (.cons (.idx (.var 0) (.var 2)) (.cons (.idx (.var 1) (.var 2)) .nil)))) (.cons (.ret (.lof (.comp (.tp (.cons (.nm 4) (.cons (.nm 5) .nil))) (.zip (.var 0) (.var 1)) .nil (.call 146 (.cons (.var 4) (.cons (.call 191 (.cons (.var 3) (.cons (.var 5) .nil))) .nil))) [4, 5]))) .nil)))⟩
def fd_determinant : Fd := ⟨1, 6, true, (.cons (.asg (.nm 0) (.mof (.comp (.nm 5) (.ex (.var 0)) .nil (.lof (.copy (.var 5))) [5]))) (.cons (.asg (.nm 1) (.glob 4 (.tup [.int 1, .int 1]))) (.cons (.for_ (.nm 2) (.rng1 (.b1 .len (.var 0))) (.cons (.asg (.nm 3) (.call 168 (.cons (.var 0) (.cons (.var 2) (.cons (.var 2) .nil))))) (.cons (.ifs (.cmp .lt (.var 3) (.int 0)) (.cons (.ret (.glob 1 (.tup [.int 0, .int 1]))) .nil) .nil) (.cons (.ifs (.cmp .ne (.var 3) (.var 2)) (.cons (.asg (.tp (.cons (.ix (.var 0) (.var 3)) (.cons (.ix (.var 0) (.var 2)) .nil))) (.tup (.cons (.idx (.var 0) (.var 2)) (.cons (.idx (.var 0) (.var 3)) .nil)))) (.cons (.asg (.nm 1) (.call 160 (.cons (.var 1) .nil))) .nil)) .nil) (.cons (.asg (.nm 1) (.call 191 (.cons (.var 1) (.cons (.idx (.idx (.var 0) (.var 2)) (.var 2)) .nil)))) (.cons (.for_ (.nm 4) (.rng2 (.op2 .add (.var 2) (.int 1)) (.b1 .len (.var 0))) (.cons (.asg (.ix (.var 0) (.var 4)) (.call 174 (.cons (.idx (.var 0) (.var 4)) (.cons (.idx (.var 0) (.var 2)) (.cons (.var 2) .nil))))) .nil)) .nil)))))) (.cons (.ret (.var 1)) .nil))))⟩
def fd_circular_pairs : Fd := ⟨1, 6, true, (.cons (.asg (.nm 1) (.mof (.disp .nil))) (.cons (.for_ (.nm 2) (.rng2 (.int 1) (.op2 .add (.op2 .fdiv (.var 0) (.int 2)) (.int 1))) (.cons (.for_ (.nm 3) (.comb (.rngv (.int 1) (.op2 .add (.var 0) (.int 1))) (.op2 .mul (.int 2) (.var 2))) (.cons (.for_ (.nm 4) (.rng1 (.var 2)) (.cons (.asg (.nm 5) (.op2 .add (.tsl (.var 3) (.so (.op2 .sub (.op2 .mul (.int 2) (.var 2)) (.var 4))) .no) (.tsl (.var 3) .no (.so (.op2 .sub (.op2 .mul (.int 2) (.var 2)) (.var 4)))))) (.cons (.expr (.meth .append (.var 1) (.cons (.tup (.cons (.tsl (.var 5) .no (.so (.var 2))) (.cons (.trev (.tsl (.var 5) (.so (.var 2)) .no)) .nil))) .nil))) .nil))) .nil)) .nil)) (.cons (.frzv 1) (.cons (.ret (.var 1)) .nil))))⟩
def fd_minor : Fd := ⟨3, 5, true, (.cons (.ret (.call 110 (.cons (.lof (.comp (.nm 3) (.ex (.var 1)) .nil (.lof (.comp (.nm 4) (.ex (.var 2)) .nil (.call 160 (.cons (.idx (.idx (.var 0) (.op2 .sub (.var 3) (.int 1))) (.op2 .sub (.var 4) (.int 1))) .nil)) [4])) [3])) .nil))) .nil)⟩
def fd_refusal : Fd := ⟨1, 6, true, (.cons (.asg (.nm 1) (.b1 .len (.var 0))) (.cons (.for_ (.nm 2) (.rng1 (.var 1)) (.cons (.for_ (.nm 3) (.rng1 (.var 2)) (.cons (.ifs (.cmp .ne (.idx (.idx (.var 0) (.var 2)) (.var 3)) (.idx (.idx (.var 0) (.var 3)) (.var 2))) (.cons (.ret (.tup (.cons (.str [109, 105, 114, 114, 111, 114]) (.cons (.op2 .add (.var 2) (.int 1)) (.cons (.op2 .add (.var 3) (.int 1)) .nil))))) .nil) .nil) .nil)) (.cons (.ifs (.cmp .ne (.call 192 (.cons (.idx (.var 0) (.var 2)) .nil)) (.glob 1 (.tup [.int 0, .int 1]))) (.cons (.ret (.tup (.cons (.str [115, 117, 109]) (.cons (.op2 .add (.var 2) (.int 1)) .nil)))) .nil) .nil) .nil))) (.cons (.for_ (.tp (.cons (.nm 4) (.cons (.nm 5) .nil))) (.ex (.call 103 (.cons (.var 1) .nil))) (.cons (.ifs (.call 142 (.cons (.call 145 (.cons (.var 0) (.cons (.var 4) (.cons (.var 5) .nil)))) (.cons (.glob 1 (.tup [.int 0, .int 1])) .nil))) (.cons (.ret (.tup (.cons (.str [109, 105, 110, 111, 114]) (.cons (.var 4) (.cons (.var 5) .nil))))) .nil) .nil) .nil)) (.cons (.ret .non) .nil))))⟩
def fd_greatest_edge : Fd := ⟨3, 11, true, (.cons (.asg (.nm 3) .non) (.cons (.for_ (.tp (.cons (.nm 4) (.cons (.nm 5) .nil))) (.ex (.call 103 (.cons (.b1 .len (.var 0)) .nil))) (.cons (.for_ (.tp (.cons (.nm 6) (.cons (.nm 7) .nil))) (.ex (.tup (.cons (.tup (.cons (.var 4) (.cons (.var 5) .nil))) (.cons (.tup (.cons (.var 5) (.cons (.var 4) .nil))) .nil)))) (.cons (.ifs (.and_ (.cons (.cmp .mem (.var 1) (.var 6)) (.cons (.cmp .mem (.var 2) (.var 7)) .nil))) (.cons (.asg (.nm 8) (.call 145 (.cons (.var 0) (.cons (.lof (.comp (.nm 10) (.ex (.var 6)) (.cons (.cmp .ne (.var 10) (.var 1)) .nil) (.var 10) [10])) (.cons (.lof (.comp (.nm 10) (.ex (.var 7)) (.cons (.cmp .ne (.var 10) (.var 2)) .nil) (.var 10) [10])) .nil))))) (.cons (.ifs (.call 142 (.cons (.glob 1 (.tup [.int 0, .int 1])) (.cons (.var 8) .nil))) (.cons (.asg (.nm 9) (.call 164 (.cons (.call 145 (.cons (.var 0) (.cons (.var 6) (.cons (.var 7) .nil)))) (.cons (.var 8) .nil)))) (.cons (.ifs (.or_ (.cons (.cmp .isN (.var 3) .non) (.cons (.call 142 (.cons (.var 9) (.cons (.var 3) .nil))) .nil))) (.cons (.asg (.nm 3) (.var 9)) .nil) .nil) .nil)) .nil) .nil)) .nil) .nil)) .nil)) (.cons (.ret (.var 3)) .nil)))⟩
def fd_bordered : Fd := ⟨4, 7, true, (.cons (.asg (.nm 4) (.mof (.disp .nil))) (.cons (.for_ (.nm 5) (.ex (.lof (.cat (.lof (.copy (.var 1))) (.lof (.disp (.cons (.var 3) .nil)))))) (.cons (.expr (.meth .append (.var 4) (.cons (.mof (.cat (.lof (.comp (.nm 6) (.ex (.var 2)) .nil (.call 160 (.cons (.idx (.idx (.var 0) (.op2 .sub (.var 5) (.int 1))) (.op2 .sub (.var 6) (.int 1))) .nil)) [6])) (.lof (.disp (.cons (.call 160 (.cons (.idx (.idx (.var 0) (.op2 .sub (.var 5) (.int 1))) (.op2 .sub (.var 3) (.int 1))) .nil)) .nil))))) .nil))) .nil)) (.cons (.asg (.ix (.idx (.var 4) (.neg (.int 1))) (.neg (.int 1))) (.glob 1 (.tup [.int 0, .int 1]))) (.cons (.frzd 4) (.cons (.ret (.call 160 (.cons (.call 110 (.cons (.var 4) .nil)) .nil))) .nil)))))⟩
def fd_greatest_spike : Fd := ⟨2, 7, true, (.cons (.asg (.nm 2) .non) (.cons (.for_ (.tp (.cons (.nm 3) (.cons (.nm 4) .nil))) (.ex (.call 103 (.cons (.b1 .len (.var 0)) .nil))) (.cons (.ifs (.and_ (.cons (.cmp .nmem (.var 1) (.var 3)) (.cons (.cmp .nmem (.var 1) (.var 4)) .nil))) (.cons (.asg (.nm 5) (.call 100 (.cons (.var 0) (.cons (.var 3) (.cons (.var 4) (.cons (.var 1) .nil)))))) (.cons (.ifs (.call 142 (.cons (.glob 1 (.tup [.int 0, .int 1])) (.cons (.var 5) .nil))) (.cons (.asg (.nm 6) (.call 164 (.cons (.call 145 (.cons (.var 0) (.cons (.var 3) (.cons (.var 4) .nil)))) (.cons (.var 5) .nil)))) (.cons (.ifs (.or_ (.cons (.cmp .isN (.var 2) .non) (.cons (.call 142 (.cons (.var 6) (.cons (.var 2) .nil))) .nil))) (.cons (.asg (.nm 2) (.var 6)) .nil) .nil) .nil)) .nil) .nil)) .nil) .nil)) (.cons (.ifs (.cmp .isN (.var 2) .non) (.cons (.ret .non) .nil) .nil) (.cons (.ret (.call 164 (.cons (.var 2) (.cons (.call 170 (.cons (.glob 4 (.tup [.int 1, .int 1])) (.cons (.call 191 (.cons (.var 2) (.cons (.idx (.idx (.var 0) (.op2 .sub (.var 1) (.int 1))) (.op2 .sub (.var 1) (.int 1))) .nil))) .nil))) .nil)))) .nil))))⟩
def fd_without_rim_edge : Fd := ⟨4, 8, true, (.cons (.asg (.nm 4) (.mof (.comp (.nm 7) (.ex (.var 0)) .nil (.mof (.copy (.var 7))) [7]))) (.cons (.for_ (.tp (.cons (.nm 5) (.cons (.nm 6) .nil))) (.ex (.tup (.cons (.tup (.cons (.op2 .sub (.var 1) (.int 1)) (.cons (.op2 .sub (.var 2) (.int 1)) .nil))) (.cons (.tup (.cons (.op2 .sub (.var 2) (.int 1)) (.cons (.op2 .sub (.var 1) (.int 1)) .nil))) .nil)))) (.cons (.asg (.ix (.idx (.var 4) (.var 5)) (.var 5)) (.call 146 (.cons (.idx (.idx (.var 4) (.var 5)) (.var 5)) (.cons (.var 3) .nil)))) (.cons (.asg (.ix (.idx (.var 4) (.var 5)) (.var 6)) (.call 170 (.cons (.idx (.idx (.var 4) (.var 5)) (.var 6)) (.cons (.var 3) .nil)))) .nil))) (.cons (.frzd 4) (.cons (.ret (.tof (.comp (.nm 7) (.ex (.var 4)) .nil (.b1 .tuple (.var 7)) [7]))) .nil))))⟩
def fd_without_spike : Fd := ⟨3, 9, true, (.cons (.asg (.nm 3) (.idx (.var 0) (.op2 .sub (.var 1) (.int 1)))) (.cons (.asg (.nm 4) (.call 164 (.cons (.var 2) (.cons (.call 146 (.cons (.glob 4 (.tup [.int 1, .int 1])) (.cons (.call 191 (.cons (.var 2) (.cons (.idx (.var 3) (.op2 .sub (.var 1) (.int 1))) .nil))) .nil))) .nil)))) (.cons (.asg (.nm 5) (.b1 .len (.var 0))) (.cons (.asg (.nm 6) (.mof (.disp .nil))) (.cons (.for_ (.nm 7) (.rng1 (.var 5)) (.cons (.expr (.meth .append (.var 6) (.cons (.tof (.comp (.nm 8) (.rng1 (.var 5)) .nil (.call 170 (.cons (.idx (.idx (.var 0) (.var 7)) (.var 8)) (.cons (.call 191 (.cons (.var 4) (.cons (.call 191 (.cons (.idx (.var 3) (.var 7)) (.cons (.idx (.var 3) (.var 8)) .nil))) .nil))) .nil))) [8])) .nil))) .nil)) (.cons (.frzv 6) (.cons (.ret (.b1 .tuple (.var 6))) .nil)))))))⟩
def fd_joined_nodes : Fd := ⟨1, 2, true, (.cons (.ret (.lof (.comp (.nm 1) (.rng1 (.b1 .len (.var 0))) (.cons (.cmp .ne (.idx (.idx (.var 0) (.var 1)) (.var 1)) (.glob 1 (.tup [.int 0, .int 1]))) .nil) (.op2 .add (.var 1) (.int 1)) [1]))) .nil)⟩
def fd_next_part : Fd := ⟨1, 6, true, (.cons (.asg (.nm 1) (.call 134 (.cons (.var 0) .nil))) (.cons (.for_ (.tp (.cons (.nm 2) (.cons (.nm 3) .nil))) (.enum (.var 1)) (.cons (.asg (.nm 4) (.idx (.var 1) (.op2 .mod (.op2 .add (.var 2) (.int 1)) (.b1 .len (.var 1))))) (.cons (.asg (.nm 5) (.call 126 (.cons (.var 0) (.cons (.var 3) (.cons (.var 4) .nil))))) (.cons (.ifs (.call 142 (.cons (.glob 1 (.tup [.int 0, .int 1])) (.cons (.var 5) .nil))) (.cons (.ret (.tup (.cons (.str [101, 100, 103, 101]) (.cons (.var 3) (.cons (.var 4) (.cons (.var 5) .nil)))))) .nil) .nil) .nil)))) (.cons (.for_ (.nm 3) (.ex (.var 1)) (.cons (.asg (.nm 5) (.call 127 (.cons (.var 0) (.cons (.var 3) .nil)))) (.cons (.ifs (.and_ (.cons (.cmp .notN (.var 5) .non) (.cons (.call 142 (.cons (.glob 1 (.tup [.int 0, .int 1])) (.cons (.var 5) .nil))) .nil))) (.cons (.ret (.tup (.cons (.str [115, 112, 105, 107, 101]) (.cons (.var 3) (.cons (.var 5) .nil))))) .nil) .nil) .nil))) (.cons (.raise 5 .nil) .nil))))⟩
def fd_parts_of : Fd := ⟨1, 3, true, (.cons (.asg (.nm 1) (.mof (.disp .nil))) (.cons (.whl (.cmp .gt (.b1 .len (.call 134 (.cons (.var 0) .nil))) (.int 0)) (.cons (.asg (.nm 2) (.call 154 (.cons (.var 0) .nil))) (.cons (.expr (.meth .append (.var 1) (.cons (.var 2) .nil))) (.cons (.ifs (.cmp .eq (.idx (.var 2) (.int 0)) (.str [101, 100, 103, 101])) (.cons (.asg (.nm 0) (.call 208 (.cons (.var 0) (.cons (.idx (.var 2) (.int 1)) (.cons (.idx (.var 2) (.int 2)) (.cons (.idx (.var 2) (.int 3)) .nil)))))) .nil) (.cons (.asg (.nm 0) (.call 209 (.cons (.var 0) (.cons (.idx (.var 2) (.int 1)) (.cons (.idx (.var 2) (.int 2)) .nil))))) .nil)) .nil)))) (.cons (.frzv 1) (.cons (.ret (.var 1)) .nil))))⟩
def fd_with_rim_edge : Fd := ⟨4, 9, true, (.cons (.asg (.tp (.cons (.nm 4) (.cons (.nm 5) (.cons (.nm 6) .nil)))) (.var 0)) (.cons (.asg (.nm 7) (.op2 .mul (.int 2) (.b1 .len (.var 6)))) (.cons (.asg (.nm 8) (.mof (.copy (.var 5)))) (.cons (.asg (.ix (.var 8) (.op2 .sub (.var 1) (.int 1))) (.op2 .add (.tup (.cons (.var 7) .nil)) (.idx (.var 8) (.op2 .sub (.var 1) (.int 1))))) (.cons (.asg (.ix (.var 8) (.op2 .sub (.var 2) (.int 1))) (.op2 .add (.idx (.var 8) (.op2 .sub (.var 2) (.int 1))) (.tup (.cons (.op2 .add (.var 7) (.int 1)) .nil)))) (.cons (.frzv 8) (.cons (.ret (.tup (.cons (.var 4) (.cons (.b1 .tuple (.var 8)) (.cons (.op2 .add (.var 6) (.tup (.cons (.var 3) .nil))) .nil))))) .nil)))))))⟩
def fd_with_spike : Fd := ⟨3, 8, true, (.cons (.asg (.tp (.cons (.nm 3) (.cons (.nm 4) (.cons (.nm 5) .nil)))) (.var 0)) (.cons (.asg (.nm 6) (.op2 .mul (.int 2) (.b1 .len (.var 5)))) (.cons (.asg (.nm 7) (.mof (.copy (.var 4)))) (.cons (.expr (.meth .append (.var 7) (.cons (.op2 .add (.idx (.var 7) (.op2 .sub (.var 1) (.int 1))) (.tup (.cons (.op2 .add (.var 6) (.int 1)) .nil))) .nil))) (.cons (.asg (.ix (.var 7) (.op2 .sub (.var 1) (.int 1))) (.tup (.cons (.var 6) .nil))) (.cons (.frzv 7) (.cons (.ret (.tup (.cons (.var 3) (.cons (.b1 .tuple (.var 7)) (.cons (.op2 .add (.var 5) (.tup (.cons (.var 2) .nil))) .nil))))) .nil)))))))⟩
def fd_rebuild : Fd := ⟨1, 3, true, (.cons (.ifs (.cmp .notN (.call 175 (.cons (.var 0) .nil)) .non) (.cons (.raise 5 .nil) .nil) .nil) (.cons (.asg (.nm 1) (.tup (.cons (.b1 .len (.var 0)) (.cons (.op2 .mul (.tup (.cons (.tup .nil) .nil)) (.b1 .len (.var 0))) (.cons (.tup .nil) .nil))))) (.cons (.for_ (.nm 2) (.ex (.lof (.rev (.call 166 (.cons (.var 0) .nil))))) (.cons (.ifs (.cmp .eq (.idx (.var 2) (.int 0)) (.str [101, 100, 103, 101])) (.cons (.asg (.nm 1) (.call 203 (.cons (.var 1) (.cons (.idx (.var 2) (.int 1)) (.cons (.idx (.var 2) (.int 2)) (.cons (.idx (.var 2) (.int 3)) .nil)))))) .nil) (.cons (.asg (.nm 1) (.call 204 (.cons (.var 1) (.cons (.idx (.var 2) (.int 1)) (.cons (.call 164 (.cons (.glob 4 (.tup [.int 1, .int 1])) (.cons (.idx (.var 2) (.int 2)) .nil))) .nil))))) .nil)) .nil)) (.cons (.ret (.var 1)) .nil))))⟩
def fd_number_of : Fd := ⟨2, 3, true, (.cons (.ifs (.or_ (.cons (.cmp .eq (.var 0) (.str [])) (.cons (.cmp .gt (.b1 .len (.var 0)) (.glob 5 (.int 9))) (.cons (.not_ (.allc (.comp (.nm 2) (.chars (.var 0)) .nil (.insg (.var 2) (.glob 6 (.str [48, 49, 50, 51, 52, 53, 54, 55, 56, 57]))) [2]))) .nil)))) (.cons (.raiseT (.var 1)) .nil) .nil) (.cons (.ret (.intS (.var 0))) .nil))⟩
def fd_amount_of : Fd := ⟨2, 5, true, (.cons (.ifs (.cmp .ne (.b1 .len (.var 0)) (.int 1)) (.cons (.raiseT (.var 1)) .nil) .nil) (.cons (.asg (.nm 2) (.lof (.spl (.idx (.var 0) (.int 0)) (.str [47])))) (.cons (.ifs (.cmp .gt (.b1 .len (.var 2)) (.int 2)) (.cons (.raiseT (.var 1)) .nil) .nil) (.cons (.asg (.nm 3) (.lof (.cat (.lof (.comp (.nm 4) (.ex (.var 2)) .nil (.call 157 (.cons (.var 4) (.cons (.var 1) .nil))) [4])) (.lof (.disp (.cons (.int 1) .nil)))))) (.cons (.ifs (.or_ (.cons (.cmp .eq (.idx (.var 3) (.int 0)) (.int 0)) (.cons (.cmp .eq (.idx (.var 3) (.int 1)) (.int 0)) .nil))) (.cons (.raiseT (.var 1)) .nil) .nil) (.cons (.ret (.call 172 (.cons (.idx (.var 3) (.int 0)) (.cons (.idx (.var 3) (.int 1)) .nil)))) .nil))))))⟩
def fd_parse_net : Fd := ⟨1, 10, true, (.cons (.asg (.nm 1) (.int 0)) (.cons (.asg (.nm 2) (.mof (.disp .nil))) (.cons (.asg (.nm 3) (.mof (.disp .nil))) (.cons (.for_ (.tp (.cons (.nm 4) (.cons (.nm 5) .nil))) (.enum (.lof (.spl (.var 0) (.str [10])))) (.cons (.asg (.nm 6) (.lof (.wds (.idx (.lof (.spl (.var 5) (.str [35]))) (.int 0))))) (.cons (.asg (.nm 7) (.op2 .add (.var 4) (.int 1))) (.cons (.ifs (.and_ (.cons (.cmp .gt (.b1 .len (.var 6)) (.int 0)) (.cons (.cmp .eq (.var 1) (.int 0)) .nil))) (.cons (.ifs (.or_ (.cons (.cmp .ne (.idx (.var 6) (.int 0)) (.str [114, 105, 109])) (.cons (.cmp .ne (.b1 .len (.var 6)) (.int 2)) .nil))) (.cons (.raiseT (.var 7)) .nil) .nil) (.cons (.asg (.nm 1) (.call 157 (.cons (.idx (.var 6) (.int 1)) (.cons (.var 7) .nil)))) (.cons (.ifs (.cmp .eq (.var 1) (.int 0)) (.cons (.raiseT (.var 7)) .nil) .nil) .nil))) (.cons (.ifs (.and_ (.cons (.cmp .gt (.b1 .len (.var 6)) (.int 0)) (.cons (.cmp .eq (.idx (.var 6) (.int 0)) (.str [110, 111, 100, 101])) (.cons (.cmp .eq (.b1 .len (.var 3)) (.int 0)) .nil)))) (.cons (.expr (.meth .append (.var 2) (.cons (.tof (.comp (.nm 9) (.ex (.lof (.slice (.var 6) (.so (.int 1)) .no))) .nil (.call 157 (.cons (.var 9) (.cons (.var 7) .nil))) [9])) .nil))) .nil) (.cons (.ifs (.and_ (.cons (.cmp .gt (.b1 .len (.var 6)) (.int 0)) (.cons (.cmp .eq (.idx (.var 6) (.int 0)) (.str [101, 100, 103, 101])) .nil))) (.cons (.expr (.meth .append (.var 3) (.cons (.call 94 (.cons (.lof (.slice (.var 6) (.so (.int 1)) .no)) (.cons (.var 7) .nil))) .nil))) .nil) (.cons (.ifs (.cmp .gt (.b1 .len (.var 6)) (.int 0)) (.cons (.raiseT (.var 7)) .nil) .nil) .nil)) .nil)) .nil)) .nil)))) (.cons (.ifs (.cmp .eq (.var 1) (.int 0)) (.cons (.raiseT (.b1 .len (.lof (.spl (.var 0) (.str [10]))))) .nil) .nil) (.cons (.frzv 3) (.cons (.frzv 2) (.cons (.asg (.nm 8) (.tup (.cons (.var 1) (.cons (.b1 .tuple (.var 2)) (.cons (.b1 .tuple (.var 3)) .nil))))) (.cons (.expr (.call 102 (.cons (.var 8) .nil))) (.cons (.ret (.var 8)) .nil))))))))))⟩
def fd_law_pick : Fd := ⟨2, 5, true, (.cons (.asg (.ix (.var 0) (.int 3)) (.op2 .add (.idx (.var 0) (.int 3)) (.int 1))) (.cons (.ifs (.cmp .gt (.idx (.var 0) (.int 2)) (.int 0)) (.cons (.asg (.nm 2) (.op2 .mod (.b1 .int (.idx (.var 0) (.int 2))) (.var 1))) (.cons (.asg (.ix (.var 0) (.int 2)) (.op2 .fdiv (.idx (.var 0) (.int 2)) (.var 1))) (.cons (.ret (.var 2)) .nil))) .nil) (.cons (.asg (.nm 3) (.int 0)) (.cons (.ifs (.cmp .lt (.idx (.var 0) (.int 1)) (.b1 .len (.idx (.var 0) (.int 0)))) (.cons (.asg (.nm 3) (.idx (.idx (.var 0) (.int 0)) (.idx (.var 0) (.int 1)))) .nil) .nil) (.cons (.asg (.ix (.var 0) (.int 1)) (.op2 .add (.idx (.var 0) (.int 1)) (.int 1))) (.cons (.ifs (.cmp .ge (.var 3) (.op2 .pow (.int 10) (.int 18))) (.cons (.asg (.ix (.var 0) (.int 2)) (.op2 .fdiv (.var 3) (.var 1))) (.cons (.ret (.op2 .mod (.b1 .int (.var 3)) (.var 1))) .nil)) .nil) (.cons (.asg (.nm 4) (.op2 .mod (.b1 .int (.op2 .add (.op2 .mul (.op2 .mod (.b1 .int (.op2 .add (.op2 .add (.op2 .mul (.var 3) (.int 48271)) (.op2 .mul (.idx (.var 0) (.int 3)) (.int 69621))) (.int 11))) (.int 2147483647)) (.int 16807)) (.idx (.var 0) (.int 3)))) (.int 2147483629))) (.cons (.ret (.op2 .mod (.b1 .int (.op2 .fdiv (.var 4) (.int 5))) (.var 1))) .nil))))))))⟩
def fd_law_call : Fd := ⟨2, 2, true, (.cons (.ifs (.cmp .eq (.var 0) (.int 0)) (.cons (.ret (.call 172 (.cons (.var 1) (.cons (.int 0) .nil)))) .nil) .nil) (.cons (.ifs (.cmp .eq (.var 0) (.int 1)) (.cons (.ret (.call 165 (.cons (.op2 .add (.str [114, 105, 109, 32]) (.srep (.str [120]) (.op2 .add (.int 1) (.var 1)))) .nil))) .nil) .nil) (.cons (.ifs (.cmp .eq (.var 0) (.int 2)) (.cons (.ret (.call 102 (.cons (.tup (.cons (.int 1) (.cons (.tup (.cons (.op2 .mul (.tup (.cons (.int 0) .nil)) (.op2 .add (.int 1) (.var 1))) .nil)) (.cons (.tup (.cons (.tup (.cons (.int 1) (.cons (.int 1) .nil))) .nil)) .nil)))) .nil))) .nil) .nil) (.cons (.ifs (.cmp .eq (.var 0) (.int 3)) (.cons (.ret (.call 96 (.cons (.tup (.cons (.int 1) (.cons (.tup (.cons (.tup (.cons (.int 0) (.cons (.int 1) .nil))) .nil)) (.cons (.tup (.cons (.tup (.cons (.int 1) (.cons (.int 1) .nil))) .nil)) .nil)))) (.cons (.tup (.cons (.str [108, 111, 111, 112]) (.cons (.op2 .add (.int 1) (.var 1)) .nil))) .nil)))) .nil) .nil) (.cons (.ret (.call 173 (.cons (.tup (.cons (.tup (.cons (.tup (.cons (.op2 .add (.int 1) (.var 1)) (.cons (.int 1) .nil))) .nil)) .nil)) .nil))) .nil)))))⟩
def fd_law_raised : Fd := ⟨2, 3, true, (.cons (.tryX (.call 15 (.cons (.var 0) (.cons (.var 1) .nil))) 0 2) (.cons (.ret .non) .nil))⟩
def fd_law : Fd := ⟨1, 6, true, (.cons (.asg (.nm 1) (.mof (.disp (.cons (.lof (.copy (.var 0))) (.cons (.int 0) (.cons (.int 0) (.cons (.int 0) .nil))))))) (.cons (.for_ (.nm 2) (.rng1 (.int 5)) (.cons (.asg (.nm 3) (.call 67 (.cons (.var 2) (.cons (.call 63 (.cons (.var 1) (.cons (.int 40) .nil))) .nil)))) (.cons (.asg (.nm 4) (.lof (.disp (.cons (.isi (.var 3) (.own 1)) (.cons (.isi (.var 3) (.own 2)) (.cons (.isi (.var 3) (.own 3)) .nil)))))) (.cons (.asg (.nm 4) (.lof (.cat (.var 4) (.lof (.disp (.cons (.isi (.var 3) (.own 4)) (.cons (.isi (.var 3) (.own 5)) .nil))))))) (.cons (.ifs (.or_ (.cons (.not_ (.isi (.var 3) .valueError)) (.cons (.cmp .ne (.var 4) (.lof (.comp (.nm 5) (.rng1 (.int 5)) .nil (.cmp .eq (.var 5) (.var 2)) [5]))) .nil))) (.cons (.ret (.bl false)) .nil) .nil) .nil))))) (.cons (.ret (.bl true)) .nil)))⟩
def pg : Pg := [(161, fd_other), (113, fd_edge_of), (156, fd_nodes_of), (116, fd_ends_of), (185, fd_steps_of), (139, fd_left_face), (128, fd_groups_of), (117, fd_face_count), (158, fd_numbered), (172, fd_ratio), (170, fd_plus), (146, fd_minus), (191, fd_times), (164, fd_over), (160, fd_opposite), (142, fd_less), (192, fd_total), (132, fd_is_ratio), (177, fd_require), (206, fd_without_edge), (207, fd_without_node), (205, fd_with_turn), (202, fd_with_amount), (176, fd_replaced), (130, fd_is_edge), (131, fd_is_inner), (148, fd_move_loop), (149, fd_move_loose), (151, fd_move_series), (150, fd_move_parallel), (152, fd_move_star), (153, fd_move_triangle), (96, fd_apply_move), (401, fd_require_drawing), (102, fd_check_net), (168, fd_pivot_row), (174, fd_reduce_row), (110, fd_determinant), (103, fd_circular_pairs), (145, fd_minor), (175, fd_refusal), (126, fd_greatest_edge), (100, fd_bordered), (127, fd_greatest_spike), (208, fd_without_rim_edge), (209, fd_without_spike), (134, fd_joined_nodes), (154, fd_next_part), (166, fd_parts_of), (203, fd_with_rim_edge), (204, fd_with_spike), (173, fd_rebuild), (157, fd_number_of), (94, fd_amount_of), (165, fd_parse_net), (63, fd_law_pick), (15, fd_law_call), (67, fd_law_raised), (136, fd_law)]
theorem lk_other : pg.lookup 161 = some fd_other := rfl
theorem lk_edge_of : pg.lookup 113 = some fd_edge_of := rfl
theorem lk_nodes_of : pg.lookup 156 = some fd_nodes_of := rfl
theorem lk_ends_of : pg.lookup 116 = some fd_ends_of := rfl
theorem lk_steps_of : pg.lookup 185 = some fd_steps_of := rfl
theorem lk_left_face : pg.lookup 139 = some fd_left_face := rfl
theorem lk_groups_of : pg.lookup 128 = some fd_groups_of := rfl
theorem lk_face_count : pg.lookup 117 = some fd_face_count := rfl
theorem lk_numbered : pg.lookup 158 = some fd_numbered := rfl
theorem lk_ratio : pg.lookup 172 = some fd_ratio := rfl
theorem lk_plus : pg.lookup 170 = some fd_plus := rfl
theorem lk_minus : pg.lookup 146 = some fd_minus := rfl
theorem lk_times : pg.lookup 191 = some fd_times := rfl
theorem lk_over : pg.lookup 164 = some fd_over := rfl
theorem lk_opposite : pg.lookup 160 = some fd_opposite := rfl
theorem lk_less : pg.lookup 142 = some fd_less := rfl
theorem lk_total : pg.lookup 192 = some fd_total := rfl
theorem lk_is_ratio : pg.lookup 132 = some fd_is_ratio := rfl
theorem lk_require : pg.lookup 177 = some fd_require := rfl
theorem lk_without_edge : pg.lookup 206 = some fd_without_edge := rfl
theorem lk_without_node : pg.lookup 207 = some fd_without_node := rfl
theorem lk_with_turn : pg.lookup 205 = some fd_with_turn := rfl
theorem lk_with_amount : pg.lookup 202 = some fd_with_amount := rfl
theorem lk_replaced : pg.lookup 176 = some fd_replaced := rfl
theorem lk_is_edge : pg.lookup 130 = some fd_is_edge := rfl
theorem lk_is_inner : pg.lookup 131 = some fd_is_inner := rfl
theorem lk_move_loop : pg.lookup 148 = some fd_move_loop := rfl
theorem lk_move_loose : pg.lookup 149 = some fd_move_loose := rfl
theorem lk_move_series : pg.lookup 151 = some fd_move_series := rfl
theorem lk_move_parallel : pg.lookup 150 = some fd_move_parallel := rfl
theorem lk_move_star : pg.lookup 152 = some fd_move_star := rfl
theorem lk_move_triangle : pg.lookup 153 = some fd_move_triangle := rfl
theorem lk_apply_move : pg.lookup 96 = some fd_apply_move := rfl
theorem lk_require_drawing : pg.lookup 401 = some fd_require_drawing := rfl
theorem lk_check_net : pg.lookup 102 = some fd_check_net := rfl
theorem lk_pivot_row : pg.lookup 168 = some fd_pivot_row := rfl
theorem lk_reduce_row : pg.lookup 174 = some fd_reduce_row := rfl
theorem lk_determinant : pg.lookup 110 = some fd_determinant := rfl
theorem lk_circular_pairs : pg.lookup 103 = some fd_circular_pairs := rfl
theorem lk_minor : pg.lookup 145 = some fd_minor := rfl
theorem lk_refusal : pg.lookup 175 = some fd_refusal := rfl
theorem lk_greatest_edge : pg.lookup 126 = some fd_greatest_edge := rfl
theorem lk_bordered : pg.lookup 100 = some fd_bordered := rfl
theorem lk_greatest_spike : pg.lookup 127 = some fd_greatest_spike := rfl
theorem lk_without_rim_edge : pg.lookup 208 = some fd_without_rim_edge := rfl
theorem lk_without_spike : pg.lookup 209 = some fd_without_spike := rfl
theorem lk_joined_nodes : pg.lookup 134 = some fd_joined_nodes := rfl
theorem lk_next_part : pg.lookup 154 = some fd_next_part := rfl
theorem lk_parts_of : pg.lookup 166 = some fd_parts_of := rfl
theorem lk_with_rim_edge : pg.lookup 203 = some fd_with_rim_edge := rfl
theorem lk_with_spike : pg.lookup 204 = some fd_with_spike := rfl
theorem lk_rebuild : pg.lookup 173 = some fd_rebuild := rfl
theorem lk_number_of : pg.lookup 157 = some fd_number_of := rfl
theorem lk_amount_of : pg.lookup 94 = some fd_amount_of := rfl
theorem lk_parse_net : pg.lookup 165 = some fd_parse_net := rfl
theorem lk_law_pick : pg.lookup 63 = some fd_law_pick := rfl
theorem lk_law_call : pg.lookup 15 = some fd_law_call := rfl
theorem lk_law_raised : pg.lookup 67 = some fd_law_raised := rfl
theorem lk_law : pg.lookup 136 = some fd_law := rfl
end Mi.Lw
end

section
set_option linter.all false
set_option maxRecDepth 100000
/-! Ev: rules to evaluate the small language -/
namespace Mi
@[simp ↓] theorem R.bind_pre {α β : Type} {r : R α} {f : α → Hs → R β} : r.bind f = match r with | .ok a h => f a h | .exc c fs h => .exc c fs h | .bad => .bad := rfl
theorem bl_step {C : Calls} {b : Nat} {s : St} {r : Bl} {σ σ' : En} {h h' : Hs} {X : R Fl} (e : evS C b s σ h = .ok (.nx σ') h') (k : evBl C b r σ' h' = X) : evBl C b (.cons s r) σ h = X := by simp only [evBl, e, R.bind_ok]; exact k
def fin (h : Hs) : R Fl → R PV
  | .ok (.rt v) h' => if v.low h.length then .ok v (h'.take h.length) else .bad
  | .ok (.nx _) h' => .ok .non (h'.take h.length)
  | .exc c fs h' => if PV.lows h.length fs then .exc c fs (h'.take h.length) else .bad
  | _ => .bad
theorem call_tr {P : Pg} {d f : Nat} {fd : Fd} {vs : List PV} {h : Hs} {b : Nat} (hl : P.lookup f = some fd) (ht : fd.tr = true) (ha : vs.length = fd.ar) :
    callD P (d + 1) f vs h b = fin h (evBl (callD P d) h.length fd.body (strt fd.sz vs) h) := by
  unfold callD
  rw [hl]
  simp only [ha, ht, if_true]
  cases evBl (callD P d) h.length fd.body (strt fd.sz vs) h with
  | bad => rfl
  | exc c fs h' => rfl
  | ok fl h' => cases fl <;> rfl
@[simp] theorem fin_rt {h h' : Hs} {v : PV} : fin h (.ok (.rt v) h') = if v.low h.length then .ok v (h'.take h.length) else .bad := rfl
@[simp] theorem fin_exc {h h' : Hs} {c : Nat} {fs : List PV} : fin h (.exc c fs h') = if PV.lows h.length fs then .exc c fs (h'.take h.length) else .bad := rfl
@[simp] theorem low_int {n : Nat} {i : Int} : (PV.int i).low n = true := rfl
@[simp] theorem low_bl {n : Nat} {i : Bool} : (PV.bl i).low n = true := rfl
@[simp] theorem low_str {n : Nat} {i : List Nat} : (PV.str i).low n = true := rfl
@[simp] theorem low_non {n : Nat} : PV.non.low n = true := rfl
@[simp] theorem low_tup {n : Nat} {xs : List PV} : (PV.tup xs).low n = PV.lows n xs := by simp only [PV.low]
@[simp] theorem low_lst {n : Nat} {xs : List PV} : (PV.lst xs).low n = PV.lows n xs := by simp only [PV.low]
@[simp] theorem low_ref {n k : Nat} : (PV.ref k).low n = decide (k < n) := by simp only [PV.low]
@[simp] theorem lows_nil {n : Nat} : PV.lows n [] = true := rfl
@[simp] theorem lows_cons {n : Nat} {x : PV} {xs : List PV} : PV.lows n (x :: xs) = (x.low n && PV.lows n xs) := rfl
@[simp] theorem lows_ints {n : Nat} {l : List Int} : PV.lows n (l.map PV.int) = true := by induction l <;> simp_all
@[simp] theorem rof_ite {α : Type} {p : Prop} [Decidable p] {o : Option α} {h : Hs} : R.of (if p then o else none) h = if p then R.of o h else .bad := by split <;> rfl

@[simp] theorem evE_0 {C : Calls} {b : Nat} {h i σ} : evE C b (.var i) σ h = (R.of (σ[i]?).join h) := by simp only [evE] <;> rfl
@[simp] theorem evE_1 {C : Calls} {b : Nat} {h i w1} : evE C b (.int i) w1 h = (.ok (.int i) h) := by simp only [evE] <;> rfl
@[simp] theorem evE_2 {C : Calls} {b : Nat} {h i w1} : evE C b (.bl i) w1 h = (.ok (.bl i) h) := by simp only [evE] <;> rfl
@[simp] theorem evE_3 {C : Calls} {b : Nat} {h w1} : evE C b .non w1 h = (.ok .non h) := by simp only [evE] <;> rfl
@[simp] theorem evE_4 {C : Calls} {b : Nat} {h s w1} : evE C b (.str s) w1 h = (.ok (.str s) h) := by simp only [evE] <;> rfl
@[simp] theorem evE_5 {C : Calls} {b : Nat} {h v w1 w2} : evE C b (.glob w1 v) w2 h = (.ok v h) := by simp only [evE] <;> rfl
@[simp] theorem evE_6 {C : Calls} {b : Nat} {a c h o σ} : evE C b (.op2 o a c) σ h = ((evE C b a σ h).bind fun x h => (evE C b c σ h).bind fun y h => R.of (evOp2 o x y) h) := by simp only [evE] <;> rfl
@[simp] theorem evE_7 {C : Calls} {b : Nat} {a c h o σ} : evE C b (.cmp o a c) σ h = ((evE C b a σ h).bind fun x h => (evE C b c σ h).bind fun y h => R.of ((evCmp h o x y).map .bl) h) := by simp only [evE] <;> rfl
@[simp] theorem evE_8 {C : Calls} {b : Nat} {h o p x y z σ} : evE C b (.chain o p x y z) σ h = ((evE C b x σ h).bind fun x h => (evE C b y σ h).bind fun y h => (R.of (evCmp h o x y) h).bind fun r h =>
      if r then (evE C b z σ h).bind fun z h => R.of ((evCmp h p y z).map .bl) h else .ok (.bl false) h) := by simp only [evE] <;> rfl
@[simp] theorem evE_9 {C : Calls} {b : Nat} {a h σ} : evE C b (.neg a) σ h = ((evE C b a σ h).bind fun x h => match x with
    | .int i => .ok (.int (-i)) h
    | _ => .bad) := by simp only [evE] <;> rfl
@[simp] theorem evE_10 {C : Calls} {b : Nat} {a h σ} : evE C b (.not_ a) σ h = ((evE C b a σ h).bind fun x h => match x with
    | .bl i => .ok (.bl (!i)) h
    | _ => .bad) := by simp only [evE] <;> rfl
@[simp] theorem evE_11 {C : Calls} {b : Nat} {es h σ} : evE C b (.and_ es) σ h = (evAnd C b es σ h) := by simp only [evE] <;> rfl
@[simp] theorem evE_12 {C : Calls} {b : Nat} {es h σ} : evE C b (.or_ es) σ h = (evOr C b es σ h) := by simp only [evE] <;> rfl
@[simp] theorem evE_13 {C : Calls} {b : Nat} {a c d h σ} : evE C b (.ite c a d) σ h = ((evE C b c σ h).bind fun x h => match x with
    | .bl true => evE C b a σ h
    | .bl false => evE C b d σ h
    | _ => .bad) := by simp only [evE] <;> rfl
@[simp] theorem evE_14 {C : Calls} {b : Nat} {es h σ} : evE C b (.tup es) σ h = ((evEs C b es σ h).bind fun vs h => .ok (.tup vs) h) := by simp only [evE] <;> rfl
@[simp] theorem evE_15 {C : Calls} {b : Nat} {f h σ} : evE C b (.lof f) σ h = ((evF C b f σ h).bind fun vs h => .ok (.lst vs) h) := by simp only [evE] <;> rfl
@[simp] theorem evE_16 {C : Calls} {b : Nat} {f h σ} : evE C b (.mof f) σ h = ((evF C b f σ h).bind fun vs h => .ok (.ref h.length) (h ++ [.lst vs])) := by simp only [evE] <;> rfl
@[simp] theorem evE_17 {C : Calls} {b : Nat} {f h σ} : evE C b (.tof f) σ h = ((evF C b f σ h).bind fun vs h => .ok (.tup vs) h) := by simp only [evE] <;> rfl
@[simp] theorem evE_18 {C : Calls} {b : Nat} {a h i σ} : evE C b (.idx a i) σ h = ((evE C b a σ h).bind fun x h => (evE C b i σ h).bind fun y h => R.of (evIdx h x y) h) := by simp only [evE] <;> rfl
@[simp] theorem evE_19 {C : Calls} {b : Nat} {a h hi lo σ} : evE C b (.tsl a lo hi) σ h = ((evE C b a σ h).bind fun x h => (evO C b lo σ h).bind fun l h => (evO C b hi σ h).bind fun u h => match x with
    | .tup xs => .ok (.tup (cut xs l u)) h
    | _ => .bad) := by simp only [evE] <;> rfl
@[simp] theorem evE_20 {C : Calls} {b : Nat} {a h σ} : evE C b (.trev a) σ h = ((evE C b a σ h).bind fun x h => match x with
    | .tup xs => .ok (.tup xs.reverse) h
    | _ => .bad) := by simp only [evE] <;> rfl
@[simp] theorem evE_21 {C : Calls} {b : Nat} {es f h σ} : evE C b (.call f es) σ h = ((evEs C b es σ h).bind fun vs h => C f vs h b) := by simp only [evE] <;> rfl
@[simp] theorem evE_22 {C : Calls} {b : Nat} {es h i ns σ} : evE C b (.callv ns i es) σ h = (match (σ[i]?).join with
    | some (.fn f) => if ns.contains f then (evEs C b es σ h).bind fun vs h => C f vs h b else .bad
    | _ => .bad) := by simp only [evE] <;> rfl
@[simp] theorem evE_23 {C : Calls} {b : Nat} {a h o σ} : evE C b (.b1 o a) σ h = ((evE C b a σ h).bind fun x h => R.of (evB1 h o x) h) := by simp only [evE] <;> rfl
@[simp] theorem evE_24 {C : Calls} {b : Nat} {a c h o σ} : evE C b (.b2 o a c) σ h = ((evE C b a σ h).bind fun x h => (evE C b c σ h).bind fun y h => R.of (evB2 o x y) h) := by simp only [evE] <;> rfl
@[simp] theorem evE_25 {C : Calls} {b : Nat} {a h t σ} : evE C b (.isi a t) σ h = ((evE C b a σ h).bind fun x h => R.of ((evIsi x t).map .bl) h) := by simp only [evE] <;> rfl
@[simp] theorem evE_26 {C : Calls} {b : Nat} {es h m o σ} : evE C b (.meth m o es) σ h = ((evE C b o σ h).bind fun x h => if isL h x then (evEs C b es σ h).bind fun vs h => R.bind (R.of (evMeth b h m x vs) h) fun r _ => .ok r.1 r.2 else .bad) := by simp only [evE] <;> rfl
@[simp] theorem evE_27 {C : Calls} {b : Nat} {f h σ} : evE C b (.allc f) σ h = ((evF C b f σ h).bind fun vs h => R.of ((bools vs).map fun bs => .bl (bs.all id)) h) := by simp only [evE] <;> rfl
@[simp] theorem evE_28 {C : Calls} {b : Nat} {f h σ} : evE C b (.anyc f) σ h = ((evF C b f σ h).bind fun vs h => R.of ((bools vs).map fun bs => .bl (bs.any id)) h) := by simp only [evE] <;> rfl
@[simp] theorem evE_29 {C : Calls} {b : Nat} {a h σ} : evE C b (.frz a) σ h = ((evE C b a σ h).bind fun x h => match x with
    | .ref n => match h[n]? with
      | some (.lst xs) => .ok (.lst xs) (h.set n .dead)
      | _ => .bad
    | _ => .bad) := by simp only [evE] <;> rfl
@[simp] theorem evE_30 {C : Calls} {b : Nat} {w1 w2} : evE C b .unk w1 w2 = (.bad) := by simp only [evE] <;> rfl
@[simp] theorem evE_31 {C : Calls} {b : Nat} {h k kvs w1 σ} : evE C b (.gdx w1 kvs k) σ h = ((evE C b k σ h).bind fun x h => match x with
    | .str s => R.of (kvs.lookup s) h
    | _ => .bad) := by simp only [evE] <;> rfl
@[simp] theorem evE_32 {C : Calls} {b : Nat} {a h o σ} : evE C b (.tix o a) σ h = ((evE C b o σ h).bind fun x h => if isTup x then (evE C b a σ h).bind fun y h => R.of (tixV x y) h else .bad) := by simp only [evE] <;> rfl
@[simp] theorem evE_33 {C : Calls} {b : Nat} {a h σ} : evE C b (.lset a) σ h = ((evE C b a σ h).bind fun x h => R.of (lsetV h x) h) := by simp only [evE] <;> rfl
@[simp] theorem evE_34 {C : Calls} {b : Nat} {a c h σ} : evE C b (.rngv a c) σ h = ((evE C b a σ h).bind fun x h => (evE C b c σ h).bind fun y h => R.of (rngV x y) h) := by simp only [evE] <;> rfl
@[simp] theorem evE_35 {C : Calls} {b : Nat} {h w1} : evE C b .dnew w1 h = (.ok (.ref h.length) (h ++ [.dic []])) := by simp only [evE] <;> rfl
@[simp] theorem evE_36 {C : Calls} {b : Nat} {d h k neg σ} : evE C b (.din neg k d) σ h = ((evE C b k σ h).bind fun x h => (evE C b d σ h).bind fun y h => R.of ((dinV h x y).map fun r => .bl (if neg then !r else r)) h) := by simp only [evE] <;> rfl
@[simp] theorem evE_37 {C : Calls} {b : Nat} {d h k σ} : evE C b (.dget d k) σ h = ((evE C b d σ h).bind fun y h => (evE C b k σ h).bind fun x h => R.of (dgetV h x y) h) := by simp only [evE] <;> rfl
@[simp] theorem evE_38 {C : Calls} {b : Nat} {a h σ} : evE C b (.dlen a) σ h = ((evE C b a σ h).bind fun x h => R.of (dlenV h x) h) := by simp only [evE] <;> rfl
@[simp] theorem evE_39 {C : Calls} {b : Nat} {d h k z σ} : evE C b (.dgd d k z) σ h = ((evE C b d σ h).bind fun y h => if isDv h y then (evE C b k σ h).bind fun x h => (evE C b z σ h).bind fun w h => R.of (dgdV h x y w) h else .bad) := by simp only [evE] <;> rfl
@[simp] theorem evE_40 {C : Calls} {b : Nat} {h w1} : evE C b .dnewt w1 h = (.ok (.ref h.length) (h ++ [.dit []])) := by simp only [evE] <;> rfl
@[simp] theorem evE_41 {C : Calls} {b : Nat} {a h o σ} : evE C b (.xix o a) σ h = ((evE C b o σ h).bind fun x h => if isTup x || isL h x then (evE C b a σ h).bind fun y h => R.of (xixV h x y) h else .bad) := by simp only [evE] <;> rfl
@[simp] theorem evE_42 {C : Calls} {b : Nat} {a h σ} : evE C b (.lsetn a) σ h = ((evE C b a σ h).bind fun x h => R.of (lsetnV h x) h) := by simp only [evE] <;> rfl
@[simp] theorem evE_43 {C : Calls} {b : Nat} {a h σ} : evE C b (.strI a) σ h = ((evE C b a σ h).bind fun x h => R.of (strIV x) h) := by simp only [evE] <;> rfl
@[simp] theorem evE_44 {C : Calls} {b : Nat} {a h σ} : evE C b (.intS a) σ h = ((evE C b a σ h).bind fun x h => R.of (intSV x) h) := by simp only [evE] <;> rfl
@[simp] theorem evE_45 {C : Calls} {b : Nat} {a h o σ} : evE C b (.sjn o a) σ h = ((evE C b o σ h).bind fun x h => if isStrV x then (evE C b a σ h).bind fun y h => R.of (sjnV h x y) h else .bad) := by simp only [evE] <;> rfl
@[simp] theorem evE_46 {C : Calls} {b : Nat} {a c h σ} : evE C b (.insg a c) σ h = ((evE C b a σ h).bind fun x h => (evE C b c σ h).bind fun y h => R.of ((insgV x y).map .bl) h) := by simp only [evE] <;> rfl
@[simp] theorem evE_47 {C : Calls} {b : Nat} {a c h σ} : evE C b (.srep a c) σ h = ((evE C b a σ h).bind fun x h => (evE C b c σ h).bind fun y h => R.of (srepV x y) h) := by simp only [evE] <;> rfl
@[simp] theorem evE_48 {C : Calls} {b : Nat} {h w1} : evE C b .dnewu w1 h = (.ok (.ref h.length) (h ++ [.diu []])) := by simp only [evE] <;> rfl
@[simp] theorem evE_49 {C : Calls} {b : Nat} {a h σ} : evE C b (.mint a) σ h = ((evE C b a σ h).bind fun x h => R.of (mintV h x) h) := by simp only [evE] <;> rfl
@[simp] theorem evE_50 {C : Calls} {b : Nat} {a h σ} : evE C b (.eline a) σ h = ((evE C b a σ h).bind fun x h => R.of (elineV x) h) := by simp only [evE] <;> rfl
@[simp] theorem evO_0 {C : Calls} {b : Nat} {h w1} : evO C b .no w1 h = (.ok none h) := by simp only [evO] <;> rfl
@[simp] theorem evO_1 {C : Calls} {b : Nat} {e h σ} : evO C b (.so e) σ h = ((evE C b e σ h).bind fun x h => match x with
    | .int i => .ok (some i) h
    | _ => .bad) := by simp only [evO] <;> rfl
@[simp] theorem evEs_0 {C : Calls} {b : Nat} {h w1} : evEs C b .nil w1 h = (.ok [] h) := by simp only [evEs] <;> rfl
@[simp] theorem evEs_1 {C : Calls} {b : Nat} {e es h σ} : evEs C b (.cons e es) σ h = ((evE C b e σ h).bind fun x h => (evEs C b es σ h).bind fun xs h => .ok (x :: xs) h) := by simp only [evEs] <;> rfl
@[simp] theorem evAnd_1 {C : Calls} {b : Nat} {e es h σ} : evAnd C b (.cons e es) σ h = ((evE C b e σ h).bind fun x h => match x with
    | .bl true => match es with
      | .nil => .ok (.bl true) h
      | es => evAnd C b es σ h
    | .bl false => .ok (.bl false) h
    | _ => .bad) := by simp only [evAnd] <;> rfl
@[simp] theorem evOr_1 {C : Calls} {b : Nat} {e es h σ} : evOr C b (.cons e es) σ h = ((evE C b e σ h).bind fun x h => match x with
    | .bl false => match es with
      | .nil => .ok (.bl false) h
      | es => evOr C b es σ h
    | .bl true => .ok (.bl true) h
    | _ => .bad) := by simp only [evOr] <;> rfl
@[simp] theorem evC_0 {C : Calls} {b : Nat} {h w1} : evC C b .nil w1 h = (.ok true h) := by simp only [evC] <;> rfl
@[simp] theorem evC_1 {C : Calls} {b : Nat} {e h σ} : evC C b (.cons e .nil) σ h = ((evE C b e σ h).bind fun x h => match x with
    | .bl i => .ok i h
    | _ => .bad) := by simp only [evC] <;> rfl
@[simp] theorem evF_0 {C : Calls} {b : Nat} {es h σ} : evF C b (.disp es) σ h = (evEs C b es σ h) := by simp only [evF] <;> rfl
@[simp] theorem evF_3 {C : Calls} {b : Nat} {h it σ} : evF C b (.ofI it) σ h = (evI C b it σ h) := by simp only [evF] <;> rfl
@[simp] theorem evF_4 {C : Calls} {b : Nat} {a h σ} : evF C b (.copy a) σ h = ((evE C b a σ h).bind fun x h => match x with
    | .scr xs => .ok xs h
    | x => R.of (items h x) h) := by simp only [evF] <;> rfl
@[simp] theorem evF_5 {C : Calls} {b : Nat} {a h hi lo σ} : evF C b (.slice a lo hi) σ h = ((evE C b a σ h).bind fun x h => (evO C b lo σ h).bind fun l h => (evO C b hi σ h).bind fun u h => match x with
    | .tup _ => .bad
    | x => R.of ((items h x).map fun xs => cut xs l u) h) := by simp only [evF] <;> rfl
@[simp] theorem evF_6 {C : Calls} {b : Nat} {a h σ} : evF C b (.rev a) σ h = ((evE C b a σ h).bind fun x h => match x with
    | .tup _ => .bad
    | x => R.of ((items h x).map fun xs => xs.reverse) h) := by simp only [evF] <;> rfl
@[simp] theorem evF_7 {C : Calls} {b : Nat} {a c h σ} : evF C b (.cat a c) σ h = ((evE C b a σ h).bind fun x h => (evE C b c σ h).bind fun y h => match x, y with
    | .tup _, _ => .bad
    | _, .tup _ => .bad
    | x, y => R.of ((items h x).bind fun xs => (items h y).bind fun ys => if xs.length + ys.length ≤ LINE then some (xs ++ ys) else none) h) := by simp only [evF] <;> rfl
@[simp] theorem evF_8 {C : Calls} {b : Nat} {a c h σ} : evF C b (.rep a c) σ h = ((evE C b a σ h).bind fun x h => (evE C b c σ h).bind fun y h => match x, y with
    | .lst xs, .int k => if xs.length * k.toNat ≤ LINE ∧ k < 2 ^ 62 ∧ -(2 ^ 62) ≤ k then .ok (List.replicate k.toNat xs).flatten h else .bad
    | _, _ => .bad) := by simp only [evF] <;> rfl
@[simp] theorem evF_9 {C : Calls} {b : Nat} {a h σ} : evF C b (.sorted (.ex a)) σ h = ((evE C b a σ h).bind fun x h => R.of ((items h x).bind sortV) h) := by simp only [evF] <;> rfl
@[simp] theorem evF_11 {C : Calls} {b : Nat} {a h σ} : evF C b (.sset a) σ h = ((evE C b a σ h).bind fun x h => R.of (ssetV h x) h) := by simp only [evF] <;> rfl
@[simp] theorem evF_12 {C : Calls} {b : Nat} {a h σ} : evF C b (.dsort a) σ h = ((evE C b a σ h).bind fun x h => R.of (dsortV h x) h) := by simp only [evF] <;> rfl
@[simp] theorem evF_13 {C : Calls} {b : Nat} {a h σ} : evF C b (.dvs a) σ h = ((evE C b a σ h).bind fun x h => R.of (dvsV h x) h) := by simp only [evF] <;> rfl
@[simp] theorem evF_14 {C : Calls} {b : Nat} {a h σ} : evF C b (.srtp a) σ h = ((evE C b a σ h).bind fun x h => R.of (srtpV h x) h) := by simp only [evF] <;> rfl
@[simp] theorem evF_15 {C : Calls} {b : Nat} {a h o σ} : evF C b (.spl o a) σ h = ((evE C b o σ h).bind fun x h => if isStrV x then (evE C b a σ h).bind fun y h => R.of (splV x y) h else .bad) := by simp only [evF] <;> rfl
@[simp] theorem evF_16 {C : Calls} {b : Nat} {h o σ} : evF C b (.wds o) σ h = ((evE C b o σ h).bind fun x h => if isStrV x then R.of (wdsV x) h else .bad) := by simp only [evF] <;> rfl
@[simp] theorem evF_17 {C : Calls} {b : Nat} {a h σ} : evF C b (.srtt a) σ h = ((evE C b a σ h).bind fun x h => R.of (srttV h x) h) := by simp only [evF] <;> rfl
@[simp] theorem evI_0 {C : Calls} {b : Nat} {e h σ} : evI C b (.ex e) σ h = ((evE C b e σ h).bind fun x h => match x with
    | .tup xs => .ok xs h
    | .lst xs => .ok xs h
    | .rng lo hi => if (-(2 ^ 61) ≤ lo ∧ lo < 2 ^ 61 ∧ -(2 ^ 61) ≤ hi ∧ hi < 2 ^ 61) ∧ hi - lo ≤ LINE then .ok (rangeL lo hi) h else .bad
    | .dct l => if l.length ≤ LINE then .ok (l.map fun p => .int p.1) h else .bad
    | _ => .bad) := by simp only [evI] <;> rfl
@[simp] theorem evI_1 {C : Calls} {b : Nat} {a h σ} : evI C b (.rng1 a) σ h = ((evE C b a σ h).bind fun x h => match x with
    | .int i => if i ≤ LINE ∧ -(2 ^ 62) ≤ i then .ok (rangeL 0 i) h else .bad
    | _ => .bad) := by simp only [evI] <;> rfl
@[simp] theorem evI_2 {C : Calls} {b : Nat} {a c h σ} : evI C b (.rng2 a c) σ h = ((evE C b a σ h).bind fun x h => (evE C b c σ h).bind fun y h => match x, y with
    | .int i, .int j => if (-(2 ^ 61) ≤ i ∧ i < 2 ^ 61 ∧ -(2 ^ 61) ≤ j ∧ j < 2 ^ 61) ∧ j - i ≤ LINE then .ok (rangeL i j) h else .bad
    | _, _ => .bad) := by simp only [evI] <;> rfl
@[simp] theorem evI_4 {C : Calls} {b : Nat} {a h σ} : evI C b (.enum a) σ h = ((evE C b a σ h).bind fun x h => R.of (enumV x) h) := by simp only [evI] <;> rfl
@[simp] theorem evI_5 {C : Calls} {b : Nat} {a c h σ} : evI C b (.zip a c) σ h = ((evE C b a σ h).bind fun x h => (evE C b c σ h).bind fun y h => R.of (zipV x y) h) := by simp only [evI] <;> rfl
@[simp] theorem evI_8 {C : Calls} {b : Nat} {es h σ} : evI C b (.zipn es) σ h = ((evEs C b es σ h).bind fun vs h => R.of (zipnV vs) h) := by simp only [evI] <;> rfl
@[simp] theorem evI_9 {C : Calls} {b : Nat} {a c h σ} : evI C b (.comb a c) σ h = ((evE C b a σ h).bind fun x h => (evE C b c σ h).bind fun y h => R.of (cmbV x y) h) := by simp only [evI] <;> rfl
@[simp] theorem evI_10 {C : Calls} {b : Nat} {a h σ} : evI C b (.chars a) σ h = ((evE C b a σ h).bind fun x h => R.of (charsV x) h) := by simp only [evI] <;> rfl
@[simp] theorem evT_0 {C : Calls} {b : Nat} {h i v σ} : evT C b (.nm i) v σ h = (.ok (σ.set i (some v)) h) := by simp only [evT] <;> rfl
@[simp] theorem evT_1 {C : Calls} {b : Nat} {h ts v σ} : evT C b (.tp ts) v σ h = (match v with
    | .tup vs => if vs.length = ts.len then evTs C b ts vs σ h else .bad
    | .lst vs => if vs.length = ts.len then evTs C b ts vs σ h else .bad
    | _ => .bad) := by simp only [evT] <;> rfl
@[simp] theorem evT_2 {C : Calls} {b : Nat} {h i o v σ} : evT C b (.ix o i) v σ h = ((evE C b o σ h).bind fun x h => (evE C b i σ h).bind fun y h => match putX b x y v h with
    | some h' => .ok σ h'
    | none => .bad) := by simp only [evT] <;> rfl
@[simp] theorem evT_3 {C : Calls} {b : Nat} {d h k v σ} : evT C b (.dix d k) v σ h = ((evE C b d σ h).bind fun x h => (evE C b k σ h).bind fun y h => match dputV b h x y v with
    | some h' => .ok σ h'
    | none => .bad) := by simp only [evT] <;> rfl
@[simp] theorem evTs_0 {C : Calls} {b : Nat} {h vs σ} : evTs C b .nil vs σ h = (match vs with
    | [] => .ok σ h
    | _ => .bad) := by simp only [evTs] <;> rfl
@[simp] theorem evTs_1 {C : Calls} {b : Nat} {h t ts vs σ} : evTs C b (.cons t ts) vs σ h = (match vs with
    | v :: vs => (evT C b t v σ h).bind fun σ h => evTs C b ts vs σ h
    | [] => .bad) := by simp only [evTs] <;> rfl
/-! comprehensions and loops: their bodies by name -/
def compB (C : Calls) (b : Nat) (t : T) (c : Es) (e : E) (own : List Nat) (σ : En) (x : PV) (h : Hs) : R (Option PV) := (evT C b t x (wipe σ own) h).bind fun σ' h => (evC C b c σ' h).bind fun q h =>
      if q then (evE C b e σ' h).bind fun v h => .ok (some v) h else .ok none h
theorem evF_comp {C : Calls} {b : Nat} {t : T} {it : I} {c : Es} {e : E} {own : List Nat} {σ : En} {h : Hs} : evF C b (.comp t it c e own) σ h = (evI C b it σ h).bind fun xs h => (compL (compB C b t c e own σ) xs h).calm := by
  simp only [evF]
  rfl
def cowB (C : Calls) (b : Nat) (t : T) (e : E) (own : List Nat) (σ : En) (x : PV) (h : Hs) : R PV := (evT C b t x (wipe σ own) h).bind fun σ' h => evE C b e σ' h
theorem evF_compw {C : Calls} {b : Nat} {t : T} {i n : Nat} {e : E} {own : List Nat} {σ : En} {h : Hs} {xs : List PV} {ns : List Int} (q : liveI σ h i = some (n, xs, ns)) : evF C b (.compw i t e own) σ h = (coW (wch n ns) (cowB C b t e own σ) xs [] h).calm := by
  simp only [evF, q]
  rfl
def dcwB (C : Calls) (b : Nat) (t : T) (k v : E) (own : List Nat) (σ : En) (x : PV) (h : Hs) : R (PV × PV) := (evT C b t x (wipe σ own) h).bind fun σ' h => (evE C b k σ' h).bind fun kv h => (evE C b v σ' h).bind fun vv h => .ok (kv, vv) h
theorem evS_dasg {C : Calls} {b : Nat} {t : T} {j i n : Nat} {k v : E} {own : List Nat} {σ : En} {h : Hs} {xs : List PV} {ns : List Int} (q : liveI σ h i = some (n, xs, ns)) : evS C b (.dasg j i t k v own) σ h = (dcW (wch n ns) (dcwB C b t k v own σ) xs [] h).calm.bind fun kvs h => .ok (.nx (σ.set j (some (.ref h.length)))) (h ++ [.dic kvs]) := by
  simp only [evS, q]
  rfl
noncomputable def forB (C : Calls) (b : Nat) (t : T) (x : Bl) (v : PV) (σ : En) (h : Hs) : R Fl := (evT C b t v σ h).bind fun σ h => evBl C b x σ h
theorem evS_for {C : Calls} {b : Nat} {t : T} {it : I} {x : Bl} {σ : En} {h : Hs} : evS C b (.for_ t it x) σ h = (evI C b it σ h).bind fun xs h => forL (forB C b t x) xs σ h := by
  simp only [evS]
  rfl
noncomputable def whB (C : Calls) (b : Nat) (c : E) (x : Bl) (σ : En) (h : Hs) : R (Sum En Fl) := (evE C b c σ h).bind fun v h => match v with
    | .bl true => (evBl C b x σ h).bind fun fl h => match fl with
      | .nx σ' => .ok (.inl σ') h
      | .ct σ' => .ok (.inl σ') h
      | .bk σ' => .ok (.inr (.nx σ')) h
      | .rt v => .ok (.inr (.rt v)) h
    | .bl false => .ok (.inr (.nx σ)) h
    | _ => .bad
theorem evS_whl {C : Calls} {b : Nat} {c : E} {x : Bl} {σ : En} {h : Hs} : evS C b (.whl c x) σ h = whW (whB C b c x) σ h := by
  simp only [evS]
  rfl
/-! targets of names -/
@[simp ↓ high] theorem evT_tl2 {C : Calls} {b i j : Nat} {x y : PV} {σ : En} {h : Hs} : evT C b (.tp (.cons (.nm i) (.cons (.nm j) .nil))) (.lst [x, y]) σ h = .ok ((σ.set i (some x)).set j (some y)) h := by
  rw [evT_1]
  show (if _ then _ else _) = _
  rw [if_pos (by rfl : ([x, y] : List PV).length = _), evTs_1]
  show R.bind _ _ = _
  rw [evT_0, R.bind_ok, evTs_1]
  show R.bind _ _ = _
  rw [evT_0, R.bind_ok, evTs_0]
@[simp ↓ high] theorem evT_tl3 {C : Calls} {b i j k : Nat} {x y z : PV} {σ : En} {h : Hs} : evT C b (.tp (.cons (.nm i) (.cons (.nm j) (.cons (.nm k) .nil)))) (.lst [x, y, z]) σ h = .ok (((σ.set i (some x)).set j (some y)).set k (some z)) h := by
  rw [evT_1]
  show (if _ then _ else _) = _
  rw [if_pos (by rfl : ([x, y, z] : List PV).length = _), evTs_1]
  show R.bind _ _ = _
  rw [evT_0, R.bind_ok, evTs_1]
  show R.bind _ _ = _
  rw [evT_0, R.bind_ok, evTs_1]
  show R.bind _ _ = _
  rw [evT_0, R.bind_ok, evTs_0]
@[simp ↓ high] theorem evT_tl4 {C : Calls} {b i j k l : Nat} {x y z w : PV} {σ : En} {h : Hs} : evT C b (.tp (.cons (.nm i) (.cons (.nm j) (.cons (.nm k) (.cons (.nm l) .nil))))) (.lst [x, y, z, w]) σ h = .ok ((((σ.set i (some x)).set j (some y)).set k (some z)).set l (some w)) h := by
  rw [evT_1]
  show (if _ then _ else _) = _
  rw [if_pos (by rfl : ([x, y, z, w] : List PV).length = _), evTs_1]
  show R.bind _ _ = _
  rw [evT_0, R.bind_ok, evTs_1]
  show R.bind _ _ = _
  rw [evT_0, R.bind_ok, evTs_1]
  show R.bind _ _ = _
  rw [evT_0, R.bind_ok, evTs_1]
  show R.bind _ _ = _
  rw [evT_0, R.bind_ok, evTs_0]
@[simp ↓ high] theorem evT_tt2 {C : Calls} {b i j : Nat} {x y : PV} {σ : En} {h : Hs} : evT C b (.tp (.cons (.nm i) (.cons (.nm j) .nil))) (.tup [x, y]) σ h = .ok ((σ.set i (some x)).set j (some y)) h := by
  rw [evT_1]
  show (if _ then _ else _) = _
  rw [if_pos (by rfl : ([x, y] : List PV).length = _), evTs_1]
  show R.bind _ _ = _
  rw [evT_0, R.bind_ok, evTs_1]
  show R.bind _ _ = _
  rw [evT_0, R.bind_ok, evTs_0]
@[simp ↓ high] theorem evT_tt3 {C : Calls} {b i j k : Nat} {x y z : PV} {σ : En} {h : Hs} : evT C b (.tp (.cons (.nm i) (.cons (.nm j) (.cons (.nm k) .nil)))) (.tup [x, y, z]) σ h = .ok (((σ.set i (some x)).set j (some y)).set k (some z)) h := by
  rw [evT_1]
  show (if _ then _ else _) = _
  rw [if_pos (by rfl : ([x, y, z] : List PV).length = _), evTs_1]
  show R.bind _ _ = _
  rw [evT_0, R.bind_ok, evTs_1]
  show R.bind _ _ = _
  rw [evT_0, R.bind_ok, evTs_1]
  show R.bind _ _ = _
  rw [evT_0, R.bind_ok, evTs_0]
@[simp ↓ high] theorem evT_tt4 {C : Calls} {b i j k l : Nat} {x y z w : PV} {σ : En} {h : Hs} : evT C b (.tp (.cons (.nm i) (.cons (.nm j) (.cons (.nm k) (.cons (.nm l) .nil))))) (.tup [x, y, z, w]) σ h = .ok ((((σ.set i (some x)).set j (some y)).set k (some z)).set l (some w)) h := by
  rw [evT_1]
  show (if _ then _ else _) = _
  rw [if_pos (by rfl : ([x, y, z, w] : List PV).length = _), evTs_1]
  show R.bind _ _ = _
  rw [evT_0, R.bind_ok, evTs_1]
  show R.bind _ _ = _
  rw [evT_0, R.bind_ok, evTs_1]
  show R.bind _ _ = _
  rw [evT_0, R.bind_ok, evTs_1]
  show R.bind _ _ = _
  rw [evT_0, R.bind_ok, evTs_0]
@[simp] theorem evS_0 {C : Calls} {b : Nat} {e h σ} : evS C b (.expr e) σ h = ((evE C b e σ h).bind fun _ h => .ok (.nx σ) h) := by simp only [evS] <;> rfl
@[simp] theorem evS_1 {C : Calls} {b : Nat} {e h t σ} : evS C b (.asg t e) σ h = ((evE C b e σ h).bind fun v h => (evT C b t v σ h).bind fun σ h => .ok (.nx σ) h) := by simp only [evS] <;> rfl
@[simp] theorem evS_2 {C : Calls} {b : Nat} {e h i o σ} : evS C b (.aug i o e) σ h = ((R.of (σ[i]?).join h).bind fun x h => (evE C b e σ h).bind fun y h => (R.of (evIp o x y) h).bind fun z h => .ok (.nx (σ.set i (some z))) h) := by simp only [evS] <;> rfl
@[simp] theorem evS_4 {C : Calls} {b : Nat} {e h σ} : evS C b (.ret e) σ h = ((evE C b e σ h).bind fun v h => .ok (.rt v) h) := by simp only [evS] <;> rfl
@[simp] theorem evS_5 {C : Calls} {b : Nat} {h w1} : evS C b .retN w1 h = (.ok (.rt .non) h) := by simp only [evS] <;> rfl
@[simp] theorem evS_6 {C : Calls} {b : Nat} {c h x y σ} : evS C b (.ifs c x y) σ h = ((evE C b c σ h).bind fun v h => match v with
    | .bl true => evBl C b x σ h
    | .bl false => evBl C b y σ h
    | _ => .bad) := by simp only [evS] <;> rfl
@[simp] theorem evS_9 {C : Calls} {b : Nat} {h σ} : evS C b .brk σ h = (.ok (.bk σ) h) := by simp only [evS] <;> rfl
@[simp] theorem evS_10 {C : Calls} {b : Nat} {h σ} : evS C b .cont σ h = (.ok (.ct σ) h) := by simp only [evS] <;> rfl
@[simp] theorem evS_11 {C : Calls} {b : Nat} {h σ} : evS C b .pass σ h = (.ok (.nx σ) h) := by simp only [evS] <;> rfl
@[simp] theorem evS_12 {C : Calls} {b : Nat} {c es h σ} : evS C b (.raise c es) σ h = ((evEs C b es σ h).bind fun _ h => .exc c [] h) := by simp only [evS] <;> rfl
@[simp] theorem evS_13 {C : Calls} {b : Nat} {c e h i k s σ} : evS C b (.try_ k e c i s) σ h = (match evE C b e σ h with
    | .exc d fs h' => if isSub d c then
        ((evBl C b s (match i with | none => σ | some i => σ.set i (some (.exc d fs))) h').bind fun fl h => match fl with
          | .rt v => if v.low h.length then .ok (.rt v) h else .bad
          | _ => .bad).calm else .exc d fs h'
    | .ok v h' => match k with
      | 0 => .ok (.nx σ) h'
      | 1 => .ok (.rt v) h'
      | k + 2 => .ok (.nx (σ.set k (some v))) h'
    | .bad => .bad) := by simp only [evS] <;> rfl
@[simp] theorem evS_14 {C : Calls} {b : Nat} {w1 w2} : evS C b .unk w1 w2 = (.bad) := by simp only [evS] <;> rfl
@[simp] theorem evS_15 {C : Calls} {b : Nat} {h i σ} : evS C b (.frzv i) σ h = (match (σ[i]?).join with
    | some (.ref n) => match h[n]? with
      | some (.lst xs) => .ok (.nx (σ.set i (some (.lst xs)))) (h.set n .dead)
      | _ => .bad
    | some (.lst _) => .ok (.nx σ) h
    | _ => .bad) := by simp only [evS] <;> rfl
@[simp] theorem evS_16 {C : Calls} {b : Nat} {h i σ} : evS C b (.frzd i) σ h = (match (σ[i]?).join with
    | some v => match frzD h v with
      | some (w, h') => .ok (.nx (σ.set i (some w))) h'
      | none => .bad
    | none => .bad) := by simp only [evS] <;> rfl
@[simp] theorem evS_17 {C : Calls} {b : Nat} {h i σ} : evS C b (.frzk i) σ h = (match (σ[i]?).join with
    | some (.ref n) => match h[n]? with
      | some (.dic kvs) => match dctOf kvs with
        | some l => .ok (.nx (σ.set i (some (.dct l)))) (h.set n .dead)
        | none => .bad
      | _ => .bad
    | some (.dct _) => .ok (.nx σ) h
    | _ => .bad) := by simp only [evS] <;> rfl
@[simp] theorem evS_18 {C : Calls} {b : Nat} {e h σ} : evS C b (.raiseT e) σ h = ((evE C b e σ h).bind fun x h => match x with
    | .int i => .exc 2 [.int i] h
    | _ => .bad) := by simp only [evS] <;> rfl
@[simp] theorem evS_19 {C : Calls} {b : Nat} {c e h i s σ} : evS C b (.tryT e c i s) σ h = (match evE C b e σ h with
    | .exc d fs h' => if isSub d c then
        ((evBl C b s (σ.set i (some (.exc d fs))) h').bind fun fl h => match fl with
          | .rt v => if v.low h.length then .ok (.rt v) h else .bad
          | _ => .bad).calm else .bad
    | .ok _ h' => .ok (.nx σ) h'
    | .bad => .bad) := by simp only [evS] <;> rfl
@[simp] theorem evS_20 {C : Calls} {b : Nat} {c e h w1 σ} : evS C b (.tryX e c w1) σ h = (match evE C b e σ h with
    | .exc d fs h' => if isSub d c then .ok (.rt (.exo d fs)) h' else .bad
    | .ok _ h' => .ok (.nx σ) h'
    | .bad => .bad) := by simp only [evS] <;> rfl
@[simp] theorem evBl_0 {C : Calls} {b : Nat} {h σ} : evBl C b .nil σ h = (.ok (.nx σ) h) := by simp only [evBl] <;> rfl
@[simp] theorem evBl_1 {C : Calls} {b : Nat} {h r s σ} : evBl C b (.cons s r) σ h = ((evS C b s σ h).bind fun fl h => match fl with
    | .nx σ' => evBl C b r σ' h
    | fl => .ok fl h) := by simp only [evBl] <;> rfl
/-! the operations, shape by shape -/
@[simp] theorem eqB_int {a b : Int} : PV.eqB (.int a) (.int b) = decide (a = b) := by unfold PV.eqB; rfl
@[simp] theorem eqB_bl {a b : Bool} : PV.eqB (.bl a) (.bl b) = (a == b) := by unfold PV.eqB; rfl
@[simp] theorem eqB_str {a b : List Nat} : PV.eqB (.str a) (.str b) = decide (a = b) := by unfold PV.eqB; rfl
@[simp] theorem eqB_tup {a b : List PV} : PV.eqB (.tup a) (.tup b) = PV.eqBs a b := by conv => lhs; unfold PV.eqB
@[simp] theorem eqB_lst {a b : List PV} : PV.eqB (.lst a) (.lst b) = PV.eqBs a b := by conv => lhs; unfold PV.eqB
@[simp] theorem eqBs_nil : PV.eqBs [] [] = true := by unfold PV.eqBs; rfl
@[simp] theorem eqBs_cons {a b : PV} {as bs : List PV} : PV.eqBs (a :: as) (b :: bs) = (PV.eqB a b && PV.eqBs as bs) := by conv => lhs; unfold PV.eqBs
@[simp] theorem sh_int {k : Nat} {a : Int} : PV.sh k (.int a) = true := by cases k <;> rfl
@[simp] theorem sh_bl {k : Nat} {a : Bool} : PV.sh k (.bl a) = true := by cases k <;> rfl
@[simp] theorem sh_non {k : Nat} : PV.sh k .non = true := by cases k <;> rfl
@[simp] theorem evC_eq {h : Hs} {a b : Int} : evCmp h .eq (.int a) (.int b) = some (decide (a = b)) := by simp [evCmp]
@[simp] theorem evC_ne {h : Hs} {a b : Int} : evCmp h .ne (.int a) (.int b) = some (!decide (a = b)) := by simp [evCmp]
@[simp] theorem evC_lt {h : Hs} {a b : Int} : evCmp h .lt (.int a) (.int b) = some (decide (a < b)) := rfl
@[simp] theorem evC_le {h : Hs} {a b : Int} : evCmp h .le (.int a) (.int b) = some (decide (a ≤ b)) := rfl
@[simp] theorem evC_gt {h : Hs} {a b : Int} : evCmp h .gt (.int a) (.int b) = some (decide (b < a)) := rfl
@[simp] theorem evC_ge {h : Hs} {a b : Int} : evCmp h .ge (.int a) (.int b) = some (decide (b ≤ a)) := rfl
@[simp] theorem evC_isN {h : Hs} {x : PV} : evCmp h .isN x .non = some x.isNon := rfl
@[simp] theorem evC_notN {h : Hs} {x : PV} : evCmp h .notN x .non = some (!x.isNon) := rfl
@[simp] theorem evO_add {a b : Int} : evOp2 .add (.int a) (.int b) = some (.int (a + b)) := rfl
@[simp] theorem evO_sub {a b : Int} : evOp2 .sub (.int a) (.int b) = some (.int (a - b)) := rfl
@[simp] theorem evO_mul {a b : Int} : evOp2 .mul (.int a) (.int b) = if a.natAbs.log2 + b.natAbs.log2 < BITS then some (.int (a * b)) else none := rfl
@[simp] theorem evO_fdiv {a b : Int} : evOp2 .fdiv (.int a) (.int b) = if b ≠ 0 ∧ b.natAbs.log2 < 9000 then some (.int (a.fdiv b)) else none := rfl
@[simp] theorem evO_mod {a b : Int} : evOp2 .mod (.int a) (.int b) = if b ≠ 0 then some (.int (a.fmod b)) else none := rfl
@[simp] theorem evO_pow {a b : Int} : evOp2 .pow (.int a) (.int b) = if 0 ≤ b ∧ b ≤ 1000 ∧ a.natAbs < 2 ^ 64 then some (.int (a ^ b.toNat)) else none := rfl
@[simp] theorem evB_abs {h : Hs} {a : Int} : evB1 h .abs (.int a) = some (.int (a.natAbs : Int)) := by
  show some (PV.int (if a < 0 then -a else a)) = _
  congr 2
  split <;> omega
@[simp] theorem evB_int {h : Hs} {a : Int} : evB1 h .int (.int a) = some (.int a) := rfl
@[simp] theorem evB_intb {h : Hs} {a : Bool} : evB1 h .int (.bl a) = some (.int (if a then 1 else 0)) := rfl
@[simp] theorem evB_lent {h : Hs} {a : List PV} : evB1 h .len (.tup a) = some (.int a.length) := rfl
@[simp] theorem evB_lenl {h : Hs} {a : List PV} : evB1 h .len (.lst a) = some (.int a.length) := rfl
@[simp] theorem evB_tupt {h : Hs} {a : List PV} : evB1 h .tuple (.tup a) = some (.tup a) := rfl
@[simp] theorem evB_tupl {h : Hs} {a : List PV} : evB1 h .tuple (.lst a) = some (.tup a) := rfl
@[simp] theorem evB_gcd {a b : Int} : evB2 .gcd (.int a) (.int b) = some (.int (Int.gcd a b)) := rfl
@[simp] theorem evB_min {a b : Int} : evB2 .min (.int a) (.int b) = some (.int (if b < a then b else a)) := rfl
@[simp] theorem evB_max {a b : Int} : evB2 .max (.int a) (.int b) = some (.int (if b > a then b else a)) := rfl
@[simp] theorem evX_t {h : Hs} {xs : List PV} {i : Int} : evIdx h (.tup xs) (.int i) = (ixN xs.length i).bind fun j => xs[j]? := rfl
@[simp] theorem evX_l {h : Hs} {xs : List PV} {i : Int} : evIdx h (.lst xs) (.int i) = (ixN xs.length i).bind fun j => xs[j]? := rfl
theorem evX_r {h : Hs} {n : Nat} {xs : List PV} {i : Int} (e : h[n]? = some (.lst xs)) : evIdx h (.ref n) (.int i) = (ixN xs.length i).bind fun j => xs[j]? := by simp only [evIdx, e]
theorem putX_r {h : Hs} {b n : Nat} {xs : List PV} {i : Int} {v : PV} (e : h[n]? = some (.lst xs)) (s : stOk b n v = true) : putX b (.ref n) (.int i) v h = (ixN xs.length i).map fun j => h.set n (.lst (xs.set j v)) := by simp only [putX, e, s, if_true]
@[simp] theorem ixN_0 {n : Nat} : ixN (n + 1) 0 = some 0 := by simp [ixN] <;> omega
@[simp] theorem ixN_1 {n : Nat} : ixN (n + 2) 1 = some 1 := by simp [ixN] <;> omega
@[simp] theorem ixN_2 {n : Nat} : ixN (n + 3) 2 = some 2 := by simp [ixN] <;> omega
@[simp] theorem ixN_3 {n : Nat} : ixN (n + 4) 3 = some 3 := by simp [ixN] <;> omega
@[simp] theorem ixN_4 {n : Nat} : ixN (n + 5) 4 = some 4 := by simp [ixN] <;> omega
@[simp] theorem ixN_5 {n : Nat} : ixN (n + 6) 5 = some 5 := by simp [ixN] <;> omega
@[simp] theorem ixN_m {n : Nat} : ixN (n + 1) (-1) = some n := by simp [ixN] <;> omega
@[simp] theorem stOk_int {b n : Nat} {i : Int} : stOk b n (.int i) = true := by simp [stOk]
@[simp] theorem stOk_bl {b n : Nat} {i : Bool} : stOk b n (.bl i) = true := by simp [stOk]
end Mi
end

section
set_option linter.all false
set_option maxRecDepth 100000
/-! Gen: loops with an invariant; the shared helpers' shape -/
namespace Mi
theorem compL_map {f : PV → Hs → R (Option PV)} {g : PV → PV} {h : Hs} : ∀ {l : List PV}, (∀ x ∈ l, f x h = .ok (some (g x)) h) → compL f l h = .ok (l.map g) h
  | [], _ => rfl
  | x :: r, q => by
    unfold compL
    rw [q x (by simp), R.bind_ok, compL_map (l := r) (fun y hy => q y (by simp [hy]))]
    rfl
/-- a comprehension whose turns keep an invariant that counts -/
theorem compL_inv {f : PV → Hs → R (Option PV)} {P : Nat → Hs → Prop} {Q : PV → Prop} {N : Nat} (q : ∀ x k h, k < N → P k h → ∃ v h', f x h = .ok (some v) h' ∧ Q v ∧ P (k + 1) h') :
    ∀ (l : List PV) (k : Nat) (h : Hs), P k h → k + l.length ≤ N → ∃ vs h', compL f l h = .ok vs h' ∧ vs.length = l.length ∧ (∀ v ∈ vs, Q v) ∧ P (k + l.length) h'
  | [], k, h, p, _ => ⟨[], h, rfl, rfl, by simp, p⟩
  | x :: r, k, h, p, n => by
    simp only [List.length_cons] at n
    obtain ⟨v, h1, e1, q1, p1⟩ := q x k h (by omega) p
    obtain ⟨vs, h2, e2, l2, q2, p2⟩ := compL_inv q r (k + 1) h1 p1 (by omega)
    refine ⟨v :: vs, h2, ?_, by simp [l2], ?_, ?_⟩
    · unfold compL
      rw [e1, R.bind_ok, e2]
      rfl
    · intro z hz
      rcases List.mem_cons.mp hz with rfl | hz
      · exact q1
      · exact q2 z hz
    · rw [List.length_cons, show k + (r.length + 1) = k + 1 + r.length by omega]
      exact p2
/-- a for loop whose turns keep an invariant of the names and the heap -/
theorem forL_inv {f : PV → En → Hs → R Fl} {P : List PV → En → Hs → Prop} (q : ∀ x r σ h, P (x :: r) σ h → ∃ σ' h', f x σ h = .ok (.nx σ') h' ∧ P r σ' h') :
    ∀ (l : List PV) (σ : En) (h : Hs), P l σ h → ∃ σ' h', forL f l σ h = .ok (.nx σ') h' ∧ P [] σ' h'
  | [], σ, h, p => ⟨σ, h, rfl, p⟩
  | x :: r, σ, h, p => by
    obtain ⟨σ1, h1, e1, p1⟩ := q x r σ h p
    obtain ⟨σ2, h2, e2, p2⟩ := forL_inv q r σ1 h1 p1
    refine ⟨σ2, h2, ?_, p2⟩
    unfold forL
    rw [e1, R.bind_ok]
    exact e2
@[simp] theorem bools_const {α : Type} {b : Bool} : ∀ {l : List α}, bools (l.map fun _ => .bl b) = some (l.map fun _ => b)
  | [] => rfl
  | _ :: r => by rw [List.map_cons, List.map_cons]; unfold bools; rw [bools_const]; rfl
theorem bools_true : ∀ {n : Nat}, bools (List.replicate n (.bl true)) = some (List.replicate n true)
  | 0 => rfl
  | n + 1 => by rw [List.replicate_succ, List.replicate_succ]; unfold bools; rw [bools_true]; rfl
theorem rangeL_len {a b : Int} : (rangeL a b).length = (b - a).toNat := by simp [rangeL]
theorem rangeL_mem {a b : Int} {x : PV} (h : x ∈ rangeL a b) : ∃ i : Int, x = .int i ∧ a ≤ i ∧ i < b := by
  unfold rangeL at h
  obtain ⟨k, hk, e⟩ := List.mem_map.mp h
  have := List.mem_range.mp hk
  exact ⟨a + k, e.symm, by omega, by omega⟩
theorem ixN_ok {n : Nat} {i : Int} (h0 : 0 ≤ i) (h1 : i < n) : ixN n i = some i.toNat := by simp [ixN, h0, h1]
/-! ### the state of the draws: cells, the next, the rest, the count -/
def stO (cs : List PV) (r c k : Int) : Obj := .lst [.lst cs, .int r, .int c, .int k]
/-- the state stands at n; at most K draws were made -/
def Dr (cs : List PV) (n K : Nat) (h : Hs) : Prop := ∃ r c k : Int, h[n]? = some (stO cs r c k) ∧ 0 ≤ r ∧ 0 ≤ k ∧ k ≤ K
theorem Dr.up {cs : List PV} {n K L : Nat} {h : Hs} (s : Dr cs n K h) (l : K ≤ L) : Dr cs n L h := by
  obtain ⟨r, c, k, a, b, d, e⟩ := s
  exact ⟨r, c, k, a, b, d, by omega⟩
/-- data that the laws compare -/
inductive Da : Nat → PV → Prop
  | non {k : Nat} : Da k .non
  | bl {k : Nat} (b : Bool) : Da k (.bl b)
  | int {k : Nat} (i : Int) : Da k (.int i)
  | str {k : Nat} {s : List Nat} (q : s.all (fun c => decide (c < 1114112)) = true) : Da k (.str s)
  | tup {k : Nat} {xs : List PV} (l : xs.length ≤ LINE) (q : ∀ x ∈ xs, Da k x) : Da (k + 1) (.tup xs)
  | lst {k : Nat} {xs : List PV} (l : xs.length ≤ LINE) (q : ∀ x ∈ xs, Da k x) : Da (k + 2) (.lst xs)
/-! a suite, statement by statement -/
def Ends (C : Calls) (b : Nat) (x : Bl) (σ : En) (h : Hs) (v : PV) : Prop := ∃ h', evBl C b x σ h = .ok (.rt v) h'
theorem ends_step {C : Calls} {b : Nat} {s : St} {r : Bl} {σ σ' : En} {h h' : Hs} {v : PV} (e : evS C b s σ h = .ok (.nx σ') h') (k : Ends C b r σ' h' v) : Ends C b (.cons s r) σ h v := by
  obtain ⟨h2, k⟩ := k
  exact ⟨h2, bl_step e k⟩
theorem ends_ret {C : Calls} {b : Nat} {e : E} {r : Bl} {σ : En} {h h' : Hs} {v : PV} (q : evE C b e σ h = .ok v h') : Ends C b (.cons (.ret e) r) σ h v := ⟨h', by simp [q]⟩
theorem ends_main {P : Pg} {d f b : Nat} {fd : Fd} {vs : List PV} {h : Hs} {v : PV} (hl : P.lookup f = some fd) (ht : fd.tr = true) (ha : vs.length = fd.ar) (lv : v.low h.length = true)
    (k : Ends (callD P d) h.length fd.body (strt fd.sz vs) h v) : ∃ h', callD P (d + 1) f vs h b = .ok v h' := by
  obtain ⟨h2, k⟩ := k
  rw [call_tr hl ht ha, k]
  exact ⟨h2.take h.length, by simp [lv]⟩
/-! the bodies of loops whose target is a name or some names -/
@[simp ↓] theorem forB_nm {C : Calls} {b i : Nat} {B : Bl} {v : PV} {σ : En} {h : Hs} : forB C b (.nm i) B v σ h = evBl C b B (σ.set i (some v)) h := by
  unfold forB
  rw [evT_0, R.bind_ok]
theorem compB_nm {C : Calls} {b i : Nat} {c : Es} {e : E} {own : List Nat} {v : PV} {σ : En} {h : Hs} : compB C b (.nm i) c e own σ v h = (evC C b c ((wipe σ own).set i (some v)) h).bind fun q h => if q then (evE C b e ((wipe σ own).set i (some v)) h).bind fun v h => .ok (some v) h else .ok none h := by
  unfold compB
  rw [evT_0, R.bind_ok]
@[simp ↓ high] theorem compB_nm0 {C : Calls} {b i : Nat} {e : E} {own : List Nat} {v : PV} {σ : En} {h : Hs} : compB C b (.nm i) .nil e own σ v h = (evE C b e ((wipe σ own).set i (some v)) h).bind fun v h => .ok (some v) h := by
  rw [compB_nm]
  simp only [evC, R.bind_ok, if_true]
@[simp ↓] theorem forB_tl2 {C : Calls} {b i j : Nat} {x y : PV} {B : Bl} {σ : En} {h : Hs} : forB C b (.tp (.cons (.nm i) (.cons (.nm j) .nil))) B (.lst [x, y]) σ h = evBl C b B ((σ.set i (some x)).set j (some y)) h := by
  unfold forB
  rw [evT_tl2, R.bind_ok]
@[simp ↓ high] theorem compB_tl20 {C : Calls} {b i j : Nat} {x y : PV} {e : E} {own : List Nat} {σ : En} {h : Hs} : compB C b (.tp (.cons (.nm i) (.cons (.nm j) .nil))) .nil e own σ (.lst [x, y]) h = (evE C b e (((wipe σ own).set i (some x)).set j (some y)) h).bind fun v h => .ok (some v) h := by
  unfold compB
  rw [evT_tl2, R.bind_ok]
  simp only [evC, R.bind_ok, if_true]
@[simp ↓] theorem forB_tl3 {C : Calls} {b i j k : Nat} {x y z : PV} {B : Bl} {σ : En} {h : Hs} : forB C b (.tp (.cons (.nm i) (.cons (.nm j) (.cons (.nm k) .nil)))) B (.lst [x, y, z]) σ h = evBl C b B (((σ.set i (some x)).set j (some y)).set k (some z)) h := by
  unfold forB
  rw [evT_tl3, R.bind_ok]
@[simp ↓ high] theorem compB_tl30 {C : Calls} {b i j k : Nat} {x y z : PV} {e : E} {own : List Nat} {σ : En} {h : Hs} : compB C b (.tp (.cons (.nm i) (.cons (.nm j) (.cons (.nm k) .nil)))) .nil e own σ (.lst [x, y, z]) h = (evE C b e ((((wipe σ own).set i (some x)).set j (some y)).set k (some z)) h).bind fun v h => .ok (some v) h := by
  unfold compB
  rw [evT_tl3, R.bind_ok]
  simp only [evC, R.bind_ok, if_true]
@[simp ↓] theorem forB_tl4 {C : Calls} {b i j k l : Nat} {x y z w : PV} {B : Bl} {σ : En} {h : Hs} : forB C b (.tp (.cons (.nm i) (.cons (.nm j) (.cons (.nm k) (.cons (.nm l) .nil))))) B (.lst [x, y, z, w]) σ h = evBl C b B ((((σ.set i (some x)).set j (some y)).set k (some z)).set l (some w)) h := by
  unfold forB
  rw [evT_tl4, R.bind_ok]
@[simp ↓ high] theorem compB_tl40 {C : Calls} {b i j k l : Nat} {x y z w : PV} {e : E} {own : List Nat} {σ : En} {h : Hs} : compB C b (.tp (.cons (.nm i) (.cons (.nm j) (.cons (.nm k) (.cons (.nm l) .nil))))) .nil e own σ (.lst [x, y, z, w]) h = (evE C b e (((((wipe σ own).set i (some x)).set j (some y)).set k (some z)).set l (some w)) h).bind fun v h => .ok (some v) h := by
  unfold compB
  rw [evT_tl4, R.bind_ok]
  simp only [evC, R.bind_ok, if_true]
@[simp ↓] theorem forB_tt2 {C : Calls} {b i j : Nat} {x y : PV} {B : Bl} {σ : En} {h : Hs} : forB C b (.tp (.cons (.nm i) (.cons (.nm j) .nil))) B (.tup [x, y]) σ h = evBl C b B ((σ.set i (some x)).set j (some y)) h := by
  unfold forB
  rw [evT_tt2, R.bind_ok]
@[simp ↓ high] theorem compB_tt20 {C : Calls} {b i j : Nat} {x y : PV} {e : E} {own : List Nat} {σ : En} {h : Hs} : compB C b (.tp (.cons (.nm i) (.cons (.nm j) .nil))) .nil e own σ (.tup [x, y]) h = (evE C b e (((wipe σ own).set i (some x)).set j (some y)) h).bind fun v h => .ok (some v) h := by
  unfold compB
  rw [evT_tt2, R.bind_ok]
  simp only [evC, R.bind_ok, if_true]
@[simp ↓] theorem forB_tt3 {C : Calls} {b i j k : Nat} {x y z : PV} {B : Bl} {σ : En} {h : Hs} : forB C b (.tp (.cons (.nm i) (.cons (.nm j) (.cons (.nm k) .nil)))) B (.tup [x, y, z]) σ h = evBl C b B (((σ.set i (some x)).set j (some y)).set k (some z)) h := by
  unfold forB
  rw [evT_tt3, R.bind_ok]
@[simp ↓ high] theorem compB_tt30 {C : Calls} {b i j k : Nat} {x y z : PV} {e : E} {own : List Nat} {σ : En} {h : Hs} : compB C b (.tp (.cons (.nm i) (.cons (.nm j) (.cons (.nm k) .nil)))) .nil e own σ (.tup [x, y, z]) h = (evE C b e ((((wipe σ own).set i (some x)).set j (some y)).set k (some z)) h).bind fun v h => .ok (some v) h := by
  unfold compB
  rw [evT_tt3, R.bind_ok]
  simp only [evC, R.bind_ok, if_true]
@[simp ↓] theorem forB_tt4 {C : Calls} {b i j k l : Nat} {x y z w : PV} {B : Bl} {σ : En} {h : Hs} : forB C b (.tp (.cons (.nm i) (.cons (.nm j) (.cons (.nm k) (.cons (.nm l) .nil))))) B (.tup [x, y, z, w]) σ h = evBl C b B ((((σ.set i (some x)).set j (some y)).set k (some z)).set l (some w)) h := by
  unfold forB
  rw [evT_tt4, R.bind_ok]
@[simp ↓ high] theorem compB_tt40 {C : Calls} {b i j k l : Nat} {x y z w : PV} {e : E} {own : List Nat} {σ : En} {h : Hs} : compB C b (.tp (.cons (.nm i) (.cons (.nm j) (.cons (.nm k) (.cons (.nm l) .nil))))) .nil e own σ (.tup [x, y, z, w]) h = (evE C b e (((((wipe σ own).set i (some x)).set j (some y)).set k (some z)).set l (some w)) h).bind fun v h => .ok (some v) h := by
  unfold compB
  rw [evT_tt4, R.bind_ok]
  simp only [evC, R.bind_ok, if_true]
end Mi
end

section
set_option linter.all false
set_option maxRecDepth 100000
set_option maxHeartbeats 1000000
namespace Mi.Lw
open Mi
theorem set_len {h : Hs} {n : Nat} {o : Obj} : (h.set n o).length = h.length := by simp
theorem take_self {h h' : Hs} (e : h'.length = h.length) : h'.take h.length = h' := by rw [← e]; exact List.take_length
theorem fdiv_nn {a b : Int} (ha : 0 ≤ a) (hb : 0 < b) : 0 ≤ a.fdiv b := by rw [Int.fdiv_eq_ediv_of_nonneg _ (by omega)]; exact Int.ediv_nonneg ha (by omega)
theorem fmod_rng {a b : Int} (hb : 0 < b) : 0 ≤ a.fmod b ∧ a.fmod b < b := by
  rw [Int.fmod_eq_emod_of_nonneg _ (by omega)]
  exact ⟨Int.emod_nonneg _ (by omega), Int.emod_lt_of_pos _ hb⟩
def mixI (z k : Int) : Int := (((((z * 48271 + (k + 1) * 69621 + 11).fmod 2147483647) * 16807 + (k + 1)).fmod 2147483629).fdiv 5)
theorem log_small {a : Int} {k : Nat} (h : a.natAbs < 2 ^ k) (hk : 0 < k) : a.natAbs.log2 < k := by
  by_cases z : a.natAbs = 0
  · rw [z]; simpa using hk
  · exact (Nat.log2_lt z).mpr h
/-- one draw -/
theorem sp_pick {d : Nat} {cs : List Int} {n K : Nat} {lim : Int} {h : Hs} {bb : Nat} (s : Dr (cs.map .int) n K h) (hc : ∀ z ∈ cs, z.natAbs.log2 ≤ 1048576)
    (h0 : 0 < lim) (h1 : lim < 2 ^ 60) (hK : K < 2 ^ 40) :
    ∃ v h', callD pg (d + 1) f_law_pick [.ref n, .int lim] h bb = .ok (.int v) h' ∧ 0 ≤ v ∧ v < lim ∧ Dr (cs.map .int) n (K + 1) h' ∧ ∃ o, h' = h.set n o := by
  obtain ⟨r, c, k, hn, hr, hk, hkK⟩ := s
  have hnl : n < h.length := by
    rw [List.getElem?_eq_some_iff] at hn
    exact hn.1
  have hl : lim.natAbs.log2 < 9000 := Nat.lt_of_lt_of_le (log_small (k := 60) (by omega) (by omega)) (by omega)
  have hne : lim ≠ 0 := by omega
  rw [call_tr lk_law_pick rfl rfl]
  have g1 : ∀ o : Obj, (h.set n o)[n]? = some o := fun o => by simp [hnl]
  unfold stO at hn
  by_cases c0 : 0 < c
  · refine ⟨c.fmod lim, h.set n (.lst [.lst (cs.map .int), .int r, .int (c.fdiv lim), .int (k + 1)]), ?_, (fmod_rng h0).1, (fmod_rng h0).2, ⟨r, c.fdiv lim, k + 1, ?_, hr, by omega, by omega⟩, ⟨_, rfl⟩⟩
    · simp [fd_law_pick, strt, evX_r hn, putX_r hn, evX_r (g1 _), putX_r (g1 _), c0, hl, hne]
      apply take_self
      simp
    · rw [g1]; rfl
  · have hm1 : ∀ z : Int, z.natAbs.log2 ≤ 1048576 → z.natAbs.log2 + Nat.log2 48271 < BITS := fun z hz => by
      have e : Nat.log2 48271 = 15 := by decide +kernel
      rw [e]; unfold BITS; omega
    have hm2 : (k + 1).natAbs.log2 + Nat.log2 69621 < BITS := by
      have e : Nat.log2 69621 = 16 := by decide +kernel
      have := log_small (a := k + 1) (k := 60) (by omega) (by omega)
      rw [e]; unfold BITS; omega
    have hm3 : ∀ z : Int, (z.fmod 2147483647).natAbs.log2 + Nat.log2 16807 < BITS := fun z => by
      have e : Nat.log2 16807 = 14 := by decide +kernel
      have := fmod_rng (a := z) (b := 2147483647) (by omega)
      have := log_small (a := z.fmod 2147483647) (k := 60) (by omega) (by omega)
      rw [e]; unfold BITS; omega
    have h5 : Nat.log2 5 < 9000 := by decide +kernel
    by_cases hrl : r < (cs.length : Int)
    · have hj : r.toNat < cs.length := by omega
      have hz := hc _ (List.getElem_mem hj)
      have hx : ixN cs.length r = some r.toNat := ixN_ok hr (by omega)
      generalize hzz : cs[r.toNat] = z at hz
      by_cases z18 : 1000000000000000000 ≤ z
      · refine ⟨z.fmod lim, h.set n (.lst [.lst (cs.map .int), .int (r + 1), .int (z.fdiv lim), .int (k + 1)]), ?_, (fmod_rng h0).1, (fmod_rng h0).2, ⟨r + 1, z.fdiv lim, k + 1, ?_, by omega, by omega, by omega⟩, ⟨_, rfl⟩⟩
        · simp [fd_law_pick, strt, evX_r hn, putX_r hn, evX_r (g1 _), putX_r (g1 _), c0, hl, hne, hrl, hx, hj, hzz, z18]
          apply take_self
          simp
        · rw [g1]; rfl
      · refine ⟨(mixI z k).fmod lim, h.set n (.lst [.lst (cs.map .int), .int (r + 1), .int c, .int (k + 1)]), ?_, (fmod_rng h0).1, (fmod_rng h0).2, ⟨r + 1, c, k + 1, ?_, by omega, by omega, by omega⟩, ⟨_, rfl⟩⟩
        · simp [fd_law_pick, strt, evX_r hn, putX_r hn, evX_r (g1 _), putX_r (g1 _), c0, hl, hne, hrl, hx, hj, hzz, z18, hm1 z hz, hm2, hm3, h5, mixI]
          apply take_self
          simp
        · rw [g1]; rfl
    · have hz : (0 : Int).natAbs.log2 ≤ 1048576 := by decide +kernel
      have hm0 : Nat.log2 48271 < BITS := by decide +kernel
      refine ⟨(mixI 0 k).fmod lim, h.set n (.lst [.lst (cs.map .int), .int (r + 1), .int c, .int (k + 1)]), ?_, (fmod_rng h0).1, (fmod_rng h0).2, ⟨r + 1, c, k + 1, ?_, by omega, by omega, by omega⟩, ⟨_, rfl⟩⟩
      · simp [fd_law_pick, strt, evX_r hn, putX_r hn, evX_r (g1 _), putX_r (g1 _), c0, hl, hne, hrl, hm0, hm2, hm3, h5, mixI]
        apply take_self
        simp
      · rw [g1]; rfl
end Mi.Lw
end

section
set_option linter.all false
set_option maxRecDepth 100000
set_option maxHeartbeats 1000000
namespace Mi.Lw
open Mi
/-- the object of the draws, at most K of them made -/
def So (cs : List Int) (K : Nat) (o : Obj) : Prop := ∃ r c k : Int, o = stO (cs.map .int) r c k ∧ 0 ≤ r ∧ 0 ≤ k ∧ k ≤ K
theorem So.up {cs : List Int} {K L : Nat} {o : Obj} (s : So cs K o) (l : K ≤ L) : So cs L o := by
  obtain ⟨r, c, k, a, b, d, e⟩ := s
  exact ⟨r, c, k, a, b, d, by omega⟩
def Cs (cs : List Int) : Prop := ∀ z ∈ cs, z.natAbs.log2 ≤ 1048576
/-- one draw, the state standing first -/
theorem sp_pk {d : Nat} {cs : List Int} {K : Nat} {lim : Int} {o : Obj} {t : Hs} (bb : Nat) (s : So cs K o) (hc : Cs cs) (h0 : 0 < lim) (h1 : lim < 2 ^ 60) (hK : K < 2 ^ 40) :
    ∃ v o', callD pg (d + 1) f_law_pick [.ref 0, .int lim] (o :: t) bb = .ok (.int v) (o' :: t) ∧ 0 ≤ v ∧ v < lim ∧ So cs (K + 1) o' := by
  obtain ⟨r, c, k, rfl, hr, hk, hkK⟩ := s
  obtain ⟨v, h', e, v0, v1, ⟨r', c', k', a1, a2, a3, a4⟩, o', rfl⟩ := sp_pick (d := d) (bb := bb) (lim := lim) (n := 0) (h := stO (cs.map .int) r c k :: t) ⟨r, c, k, rfl, hr, hk, hkK⟩ hc h0 h1 hK
  refine ⟨v, o', e, v0, v1, ⟨r', c', k', ?_, a2, a3, a4⟩⟩
  simpa using a1
end Mi.Lw
end

section
set_option linter.all false
set_option maxRecDepth 100000
set_option maxHeartbeats 4000000
/-! V1: the five calls raise what they are to raise -/
namespace Mi.Lw
open Mi
theorem r0_0 (o : Obj) : callD pg 99 67 [.int 0, .int 0] [o] 0 = .ok (.exo 1 []) [o] := by kernel_rfl
theorem r0_1 (o : Obj) : callD pg 99 67 [.int 0, .int 1] [o] 0 = .ok (.exo 1 []) [o] := by kernel_rfl
theorem r0_2 (o : Obj) : callD pg 99 67 [.int 0, .int 2] [o] 0 = .ok (.exo 1 []) [o] := by kernel_rfl
theorem r0_3 (o : Obj) : callD pg 99 67 [.int 0, .int 3] [o] 0 = .ok (.exo 1 []) [o] := by kernel_rfl
theorem r0_4 (o : Obj) : callD pg 99 67 [.int 0, .int 4] [o] 0 = .ok (.exo 1 []) [o] := by kernel_rfl
theorem r0_5 (o : Obj) : callD pg 99 67 [.int 0, .int 5] [o] 0 = .ok (.exo 1 []) [o] := by kernel_rfl
theorem r0_6 (o : Obj) : callD pg 99 67 [.int 0, .int 6] [o] 0 = .ok (.exo 1 []) [o] := by kernel_rfl
theorem r0_7 (o : Obj) : callD pg 99 67 [.int 0, .int 7] [o] 0 = .ok (.exo 1 []) [o] := by kernel_rfl
theorem r0_8 (o : Obj) : callD pg 99 67 [.int 0, .int 8] [o] 0 = .ok (.exo 1 []) [o] := by kernel_rfl
theorem r0_9 (o : Obj) : callD pg 99 67 [.int 0, .int 9] [o] 0 = .ok (.exo 1 []) [o] := by kernel_rfl
theorem r0_10 (o : Obj) : callD pg 99 67 [.int 0, .int 10] [o] 0 = .ok (.exo 1 []) [o] := by kernel_rfl
theorem r0_11 (o : Obj) : callD pg 99 67 [.int 0, .int 11] [o] 0 = .ok (.exo 1 []) [o] := by kernel_rfl
theorem r0_12 (o : Obj) : callD pg 99 67 [.int 0, .int 12] [o] 0 = .ok (.exo 1 []) [o] := by kernel_rfl
theorem r0_13 (o : Obj) : callD pg 99 67 [.int 0, .int 13] [o] 0 = .ok (.exo 1 []) [o] := by kernel_rfl
theorem r0_14 (o : Obj) : callD pg 99 67 [.int 0, .int 14] [o] 0 = .ok (.exo 1 []) [o] := by kernel_rfl
theorem r0_15 (o : Obj) : callD pg 99 67 [.int 0, .int 15] [o] 0 = .ok (.exo 1 []) [o] := by kernel_rfl
theorem r0_16 (o : Obj) : callD pg 99 67 [.int 0, .int 16] [o] 0 = .ok (.exo 1 []) [o] := by kernel_rfl
theorem r0_17 (o : Obj) : callD pg 99 67 [.int 0, .int 17] [o] 0 = .ok (.exo 1 []) [o] := by kernel_rfl
theorem r0_18 (o : Obj) : callD pg 99 67 [.int 0, .int 18] [o] 0 = .ok (.exo 1 []) [o] := by kernel_rfl
theorem r0_19 (o : Obj) : callD pg 99 67 [.int 0, .int 19] [o] 0 = .ok (.exo 1 []) [o] := by kernel_rfl
theorem r0_20 (o : Obj) : callD pg 99 67 [.int 0, .int 20] [o] 0 = .ok (.exo 1 []) [o] := by kernel_rfl
theorem r0_21 (o : Obj) : callD pg 99 67 [.int 0, .int 21] [o] 0 = .ok (.exo 1 []) [o] := by kernel_rfl
theorem r0_22 (o : Obj) : callD pg 99 67 [.int 0, .int 22] [o] 0 = .ok (.exo 1 []) [o] := by kernel_rfl
theorem r0_23 (o : Obj) : callD pg 99 67 [.int 0, .int 23] [o] 0 = .ok (.exo 1 []) [o] := by kernel_rfl
theorem r0_24 (o : Obj) : callD pg 99 67 [.int 0, .int 24] [o] 0 = .ok (.exo 1 []) [o] := by kernel_rfl
theorem r0_25 (o : Obj) : callD pg 99 67 [.int 0, .int 25] [o] 0 = .ok (.exo 1 []) [o] := by kernel_rfl
theorem r0_26 (o : Obj) : callD pg 99 67 [.int 0, .int 26] [o] 0 = .ok (.exo 1 []) [o] := by kernel_rfl
theorem r0_27 (o : Obj) : callD pg 99 67 [.int 0, .int 27] [o] 0 = .ok (.exo 1 []) [o] := by kernel_rfl
theorem r0_28 (o : Obj) : callD pg 99 67 [.int 0, .int 28] [o] 0 = .ok (.exo 1 []) [o] := by kernel_rfl
theorem r0_29 (o : Obj) : callD pg 99 67 [.int 0, .int 29] [o] 0 = .ok (.exo 1 []) [o] := by kernel_rfl
theorem r0_30 (o : Obj) : callD pg 99 67 [.int 0, .int 30] [o] 0 = .ok (.exo 1 []) [o] := by kernel_rfl
theorem r0_31 (o : Obj) : callD pg 99 67 [.int 0, .int 31] [o] 0 = .ok (.exo 1 []) [o] := by kernel_rfl
theorem r0_32 (o : Obj) : callD pg 99 67 [.int 0, .int 32] [o] 0 = .ok (.exo 1 []) [o] := by kernel_rfl
theorem r0_33 (o : Obj) : callD pg 99 67 [.int 0, .int 33] [o] 0 = .ok (.exo 1 []) [o] := by kernel_rfl
theorem r0_34 (o : Obj) : callD pg 99 67 [.int 0, .int 34] [o] 0 = .ok (.exo 1 []) [o] := by kernel_rfl
theorem r0_35 (o : Obj) : callD pg 99 67 [.int 0, .int 35] [o] 0 = .ok (.exo 1 []) [o] := by kernel_rfl
theorem r0_36 (o : Obj) : callD pg 99 67 [.int 0, .int 36] [o] 0 = .ok (.exo 1 []) [o] := by kernel_rfl
theorem r0_37 (o : Obj) : callD pg 99 67 [.int 0, .int 37] [o] 0 = .ok (.exo 1 []) [o] := by kernel_rfl
theorem r0_38 (o : Obj) : callD pg 99 67 [.int 0, .int 38] [o] 0 = .ok (.exo 1 []) [o] := by kernel_rfl
theorem r0_39 (o : Obj) : callD pg 99 67 [.int 0, .int 39] [o] 0 = .ok (.exo 1 []) [o] := by kernel_rfl
theorem r1_0 (o : Obj) : callD pg 99 67 [.int 1, .int 0] [o] 0 = .ok (.exo 2 [.int 1]) [o] := by kernel_rfl
theorem r1_1 (o : Obj) : callD pg 99 67 [.int 1, .int 1] [o] 0 = .ok (.exo 2 [.int 1]) [o] := by kernel_rfl
theorem r1_2 (o : Obj) : callD pg 99 67 [.int 1, .int 2] [o] 0 = .ok (.exo 2 [.int 1]) [o] := by kernel_rfl
theorem r1_3 (o : Obj) : callD pg 99 67 [.int 1, .int 3] [o] 0 = .ok (.exo 2 [.int 1]) [o] := by kernel_rfl
theorem r1_4 (o : Obj) : callD pg 99 67 [.int 1, .int 4] [o] 0 = .ok (.exo 2 [.int 1]) [o] := by kernel_rfl
theorem r1_5 (o : Obj) : callD pg 99 67 [.int 1, .int 5] [o] 0 = .ok (.exo 2 [.int 1]) [o] := by kernel_rfl
theorem r1_6 (o : Obj) : callD pg 99 67 [.int 1, .int 6] [o] 0 = .ok (.exo 2 [.int 1]) [o] := by kernel_rfl
theorem r1_7 (o : Obj) : callD pg 99 67 [.int 1, .int 7] [o] 0 = .ok (.exo 2 [.int 1]) [o] := by kernel_rfl
theorem r1_8 (o : Obj) : callD pg 99 67 [.int 1, .int 8] [o] 0 = .ok (.exo 2 [.int 1]) [o] := by kernel_rfl
theorem r1_9 (o : Obj) : callD pg 99 67 [.int 1, .int 9] [o] 0 = .ok (.exo 2 [.int 1]) [o] := by kernel_rfl
theorem r1_10 (o : Obj) : callD pg 99 67 [.int 1, .int 10] [o] 0 = .ok (.exo 2 [.int 1]) [o] := by kernel_rfl
theorem r1_11 (o : Obj) : callD pg 99 67 [.int 1, .int 11] [o] 0 = .ok (.exo 2 [.int 1]) [o] := by kernel_rfl
theorem r1_12 (o : Obj) : callD pg 99 67 [.int 1, .int 12] [o] 0 = .ok (.exo 2 [.int 1]) [o] := by kernel_rfl
theorem r1_13 (o : Obj) : callD pg 99 67 [.int 1, .int 13] [o] 0 = .ok (.exo 2 [.int 1]) [o] := by kernel_rfl
theorem r1_14 (o : Obj) : callD pg 99 67 [.int 1, .int 14] [o] 0 = .ok (.exo 2 [.int 1]) [o] := by kernel_rfl
theorem r1_15 (o : Obj) : callD pg 99 67 [.int 1, .int 15] [o] 0 = .ok (.exo 2 [.int 1]) [o] := by kernel_rfl
theorem r1_16 (o : Obj) : callD pg 99 67 [.int 1, .int 16] [o] 0 = .ok (.exo 2 [.int 1]) [o] := by kernel_rfl
theorem r1_17 (o : Obj) : callD pg 99 67 [.int 1, .int 17] [o] 0 = .ok (.exo 2 [.int 1]) [o] := by kernel_rfl
theorem r1_18 (o : Obj) : callD pg 99 67 [.int 1, .int 18] [o] 0 = .ok (.exo 2 [.int 1]) [o] := by kernel_rfl
theorem r1_19 (o : Obj) : callD pg 99 67 [.int 1, .int 19] [o] 0 = .ok (.exo 2 [.int 1]) [o] := by kernel_rfl
theorem r1_20 (o : Obj) : callD pg 99 67 [.int 1, .int 20] [o] 0 = .ok (.exo 2 [.int 1]) [o] := by kernel_rfl
theorem r1_21 (o : Obj) : callD pg 99 67 [.int 1, .int 21] [o] 0 = .ok (.exo 2 [.int 1]) [o] := by kernel_rfl
theorem r1_22 (o : Obj) : callD pg 99 67 [.int 1, .int 22] [o] 0 = .ok (.exo 2 [.int 1]) [o] := by kernel_rfl
theorem r1_23 (o : Obj) : callD pg 99 67 [.int 1, .int 23] [o] 0 = .ok (.exo 2 [.int 1]) [o] := by kernel_rfl
theorem r1_24 (o : Obj) : callD pg 99 67 [.int 1, .int 24] [o] 0 = .ok (.exo 2 [.int 1]) [o] := by kernel_rfl
theorem r1_25 (o : Obj) : callD pg 99 67 [.int 1, .int 25] [o] 0 = .ok (.exo 2 [.int 1]) [o] := by kernel_rfl
theorem r1_26 (o : Obj) : callD pg 99 67 [.int 1, .int 26] [o] 0 = .ok (.exo 2 [.int 1]) [o] := by kernel_rfl
theorem r1_27 (o : Obj) : callD pg 99 67 [.int 1, .int 27] [o] 0 = .ok (.exo 2 [.int 1]) [o] := by kernel_rfl
theorem r1_28 (o : Obj) : callD pg 99 67 [.int 1, .int 28] [o] 0 = .ok (.exo 2 [.int 1]) [o] := by kernel_rfl
theorem r1_29 (o : Obj) : callD pg 99 67 [.int 1, .int 29] [o] 0 = .ok (.exo 2 [.int 1]) [o] := by kernel_rfl
theorem r1_30 (o : Obj) : callD pg 99 67 [.int 1, .int 30] [o] 0 = .ok (.exo 2 [.int 1]) [o] := by kernel_rfl
theorem r1_31 (o : Obj) : callD pg 99 67 [.int 1, .int 31] [o] 0 = .ok (.exo 2 [.int 1]) [o] := by kernel_rfl
theorem r1_32 (o : Obj) : callD pg 99 67 [.int 1, .int 32] [o] 0 = .ok (.exo 2 [.int 1]) [o] := by kernel_rfl
theorem r1_33 (o : Obj) : callD pg 99 67 [.int 1, .int 33] [o] 0 = .ok (.exo 2 [.int 1]) [o] := by kernel_rfl
theorem r1_34 (o : Obj) : callD pg 99 67 [.int 1, .int 34] [o] 0 = .ok (.exo 2 [.int 1]) [o] := by kernel_rfl
theorem r1_35 (o : Obj) : callD pg 99 67 [.int 1, .int 35] [o] 0 = .ok (.exo 2 [.int 1]) [o] := by kernel_rfl
theorem r1_36 (o : Obj) : callD pg 99 67 [.int 1, .int 36] [o] 0 = .ok (.exo 2 [.int 1]) [o] := by kernel_rfl
theorem r1_37 (o : Obj) : callD pg 99 67 [.int 1, .int 37] [o] 0 = .ok (.exo 2 [.int 1]) [o] := by kernel_rfl
theorem r1_38 (o : Obj) : callD pg 99 67 [.int 1, .int 38] [o] 0 = .ok (.exo 2 [.int 1]) [o] := by kernel_rfl
theorem r1_39 (o : Obj) : callD pg 99 67 [.int 1, .int 39] [o] 0 = .ok (.exo 2 [.int 1]) [o] := by kernel_rfl
theorem r2_0 (o : Obj) : callD pg 99 67 [.int 2, .int 0] [o] 0 = .ok (.exo 3 []) [o] := by kernel_rfl
theorem r2_1 (o : Obj) : callD pg 99 67 [.int 2, .int 1] [o] 0 = .ok (.exo 3 []) [o] := by kernel_rfl
theorem r2_2 (o : Obj) : callD pg 99 67 [.int 2, .int 2] [o] 0 = .ok (.exo 3 []) [o] := by kernel_rfl
theorem r2_3 (o : Obj) : callD pg 99 67 [.int 2, .int 3] [o] 0 = .ok (.exo 3 []) [o] := by kernel_rfl
theorem r2_4 (o : Obj) : callD pg 99 67 [.int 2, .int 4] [o] 0 = .ok (.exo 3 []) [o] := by kernel_rfl
theorem r2_5 (o : Obj) : callD pg 99 67 [.int 2, .int 5] [o] 0 = .ok (.exo 3 []) [o] := by kernel_rfl
theorem r2_6 (o : Obj) : callD pg 99 67 [.int 2, .int 6] [o] 0 = .ok (.exo 3 []) [o] := by kernel_rfl
theorem r2_7 (o : Obj) : callD pg 99 67 [.int 2, .int 7] [o] 0 = .ok (.exo 3 []) [o] := by kernel_rfl
theorem r2_8 (o : Obj) : callD pg 99 67 [.int 2, .int 8] [o] 0 = .ok (.exo 3 []) [o] := by kernel_rfl
theorem r2_9 (o : Obj) : callD pg 99 67 [.int 2, .int 9] [o] 0 = .ok (.exo 3 []) [o] := by kernel_rfl
theorem r2_10 (o : Obj) : callD pg 99 67 [.int 2, .int 10] [o] 0 = .ok (.exo 3 []) [o] := by kernel_rfl
theorem r2_11 (o : Obj) : callD pg 99 67 [.int 2, .int 11] [o] 0 = .ok (.exo 3 []) [o] := by kernel_rfl
theorem r2_12 (o : Obj) : callD pg 99 67 [.int 2, .int 12] [o] 0 = .ok (.exo 3 []) [o] := by kernel_rfl
theorem r2_13 (o : Obj) : callD pg 99 67 [.int 2, .int 13] [o] 0 = .ok (.exo 3 []) [o] := by kernel_rfl
theorem r2_14 (o : Obj) : callD pg 99 67 [.int 2, .int 14] [o] 0 = .ok (.exo 3 []) [o] := by kernel_rfl
theorem r2_15 (o : Obj) : callD pg 99 67 [.int 2, .int 15] [o] 0 = .ok (.exo 3 []) [o] := by kernel_rfl
theorem r2_16 (o : Obj) : callD pg 99 67 [.int 2, .int 16] [o] 0 = .ok (.exo 3 []) [o] := by kernel_rfl
theorem r2_17 (o : Obj) : callD pg 99 67 [.int 2, .int 17] [o] 0 = .ok (.exo 3 []) [o] := by kernel_rfl
theorem r2_18 (o : Obj) : callD pg 99 67 [.int 2, .int 18] [o] 0 = .ok (.exo 3 []) [o] := by kernel_rfl
theorem r2_19 (o : Obj) : callD pg 99 67 [.int 2, .int 19] [o] 0 = .ok (.exo 3 []) [o] := by kernel_rfl
theorem r2_20 (o : Obj) : callD pg 99 67 [.int 2, .int 20] [o] 0 = .ok (.exo 3 []) [o] := by kernel_rfl
theorem r2_21 (o : Obj) : callD pg 99 67 [.int 2, .int 21] [o] 0 = .ok (.exo 3 []) [o] := by kernel_rfl
theorem r2_22 (o : Obj) : callD pg 99 67 [.int 2, .int 22] [o] 0 = .ok (.exo 3 []) [o] := by kernel_rfl
theorem r2_23 (o : Obj) : callD pg 99 67 [.int 2, .int 23] [o] 0 = .ok (.exo 3 []) [o] := by kernel_rfl
theorem r2_24 (o : Obj) : callD pg 99 67 [.int 2, .int 24] [o] 0 = .ok (.exo 3 []) [o] := by kernel_rfl
theorem r2_25 (o : Obj) : callD pg 99 67 [.int 2, .int 25] [o] 0 = .ok (.exo 3 []) [o] := by kernel_rfl
theorem r2_26 (o : Obj) : callD pg 99 67 [.int 2, .int 26] [o] 0 = .ok (.exo 3 []) [o] := by kernel_rfl
theorem r2_27 (o : Obj) : callD pg 99 67 [.int 2, .int 27] [o] 0 = .ok (.exo 3 []) [o] := by kernel_rfl
theorem r2_28 (o : Obj) : callD pg 99 67 [.int 2, .int 28] [o] 0 = .ok (.exo 3 []) [o] := by kernel_rfl
theorem r2_29 (o : Obj) : callD pg 99 67 [.int 2, .int 29] [o] 0 = .ok (.exo 3 []) [o] := by kernel_rfl
theorem r2_30 (o : Obj) : callD pg 99 67 [.int 2, .int 30] [o] 0 = .ok (.exo 3 []) [o] := by kernel_rfl
theorem r2_31 (o : Obj) : callD pg 99 67 [.int 2, .int 31] [o] 0 = .ok (.exo 3 []) [o] := by kernel_rfl
theorem r2_32 (o : Obj) : callD pg 99 67 [.int 2, .int 32] [o] 0 = .ok (.exo 3 []) [o] := by kernel_rfl
theorem r2_33 (o : Obj) : callD pg 99 67 [.int 2, .int 33] [o] 0 = .ok (.exo 3 []) [o] := by kernel_rfl
theorem r2_34 (o : Obj) : callD pg 99 67 [.int 2, .int 34] [o] 0 = .ok (.exo 3 []) [o] := by kernel_rfl
theorem r2_35 (o : Obj) : callD pg 99 67 [.int 2, .int 35] [o] 0 = .ok (.exo 3 []) [o] := by kernel_rfl
theorem r2_36 (o : Obj) : callD pg 99 67 [.int 2, .int 36] [o] 0 = .ok (.exo 3 []) [o] := by kernel_rfl
theorem r2_37 (o : Obj) : callD pg 99 67 [.int 2, .int 37] [o] 0 = .ok (.exo 3 []) [o] := by kernel_rfl
theorem r2_38 (o : Obj) : callD pg 99 67 [.int 2, .int 38] [o] 0 = .ok (.exo 3 []) [o] := by kernel_rfl
theorem r2_39 (o : Obj) : callD pg 99 67 [.int 2, .int 39] [o] 0 = .ok (.exo 3 []) [o] := by kernel_rfl
theorem r3_0 (o : Obj) : callD pg 99 67 [.int 3, .int 0] [o] 0 = .ok (.exo 4 []) [o] := by kernel_rfl
theorem r3_1 (o : Obj) : callD pg 99 67 [.int 3, .int 1] [o] 0 = .ok (.exo 4 []) [o] := by kernel_rfl
theorem r3_2 (o : Obj) : callD pg 99 67 [.int 3, .int 2] [o] 0 = .ok (.exo 4 []) [o] := by kernel_rfl
theorem r3_3 (o : Obj) : callD pg 99 67 [.int 3, .int 3] [o] 0 = .ok (.exo 4 []) [o] := by kernel_rfl
theorem r3_4 (o : Obj) : callD pg 99 67 [.int 3, .int 4] [o] 0 = .ok (.exo 4 []) [o] := by kernel_rfl
theorem r3_5 (o : Obj) : callD pg 99 67 [.int 3, .int 5] [o] 0 = .ok (.exo 4 []) [o] := by kernel_rfl
theorem r3_6 (o : Obj) : callD pg 99 67 [.int 3, .int 6] [o] 0 = .ok (.exo 4 []) [o] := by kernel_rfl
theorem r3_7 (o : Obj) : callD pg 99 67 [.int 3, .int 7] [o] 0 = .ok (.exo 4 []) [o] := by kernel_rfl
theorem r3_8 (o : Obj) : callD pg 99 67 [.int 3, .int 8] [o] 0 = .ok (.exo 4 []) [o] := by kernel_rfl
theorem r3_9 (o : Obj) : callD pg 99 67 [.int 3, .int 9] [o] 0 = .ok (.exo 4 []) [o] := by kernel_rfl
theorem r3_10 (o : Obj) : callD pg 99 67 [.int 3, .int 10] [o] 0 = .ok (.exo 4 []) [o] := by kernel_rfl
theorem r3_11 (o : Obj) : callD pg 99 67 [.int 3, .int 11] [o] 0 = .ok (.exo 4 []) [o] := by kernel_rfl
theorem r3_12 (o : Obj) : callD pg 99 67 [.int 3, .int 12] [o] 0 = .ok (.exo 4 []) [o] := by kernel_rfl
theorem r3_13 (o : Obj) : callD pg 99 67 [.int 3, .int 13] [o] 0 = .ok (.exo 4 []) [o] := by kernel_rfl
theorem r3_14 (o : Obj) : callD pg 99 67 [.int 3, .int 14] [o] 0 = .ok (.exo 4 []) [o] := by kernel_rfl
theorem r3_15 (o : Obj) : callD pg 99 67 [.int 3, .int 15] [o] 0 = .ok (.exo 4 []) [o] := by kernel_rfl
theorem r3_16 (o : Obj) : callD pg 99 67 [.int 3, .int 16] [o] 0 = .ok (.exo 4 []) [o] := by kernel_rfl
theorem r3_17 (o : Obj) : callD pg 99 67 [.int 3, .int 17] [o] 0 = .ok (.exo 4 []) [o] := by kernel_rfl
theorem r3_18 (o : Obj) : callD pg 99 67 [.int 3, .int 18] [o] 0 = .ok (.exo 4 []) [o] := by kernel_rfl
theorem r3_19 (o : Obj) : callD pg 99 67 [.int 3, .int 19] [o] 0 = .ok (.exo 4 []) [o] := by kernel_rfl
theorem r3_20 (o : Obj) : callD pg 99 67 [.int 3, .int 20] [o] 0 = .ok (.exo 4 []) [o] := by kernel_rfl
theorem r3_21 (o : Obj) : callD pg 99 67 [.int 3, .int 21] [o] 0 = .ok (.exo 4 []) [o] := by kernel_rfl
theorem r3_22 (o : Obj) : callD pg 99 67 [.int 3, .int 22] [o] 0 = .ok (.exo 4 []) [o] := by kernel_rfl
theorem r3_23 (o : Obj) : callD pg 99 67 [.int 3, .int 23] [o] 0 = .ok (.exo 4 []) [o] := by kernel_rfl
theorem r3_24 (o : Obj) : callD pg 99 67 [.int 3, .int 24] [o] 0 = .ok (.exo 4 []) [o] := by kernel_rfl
theorem r3_25 (o : Obj) : callD pg 99 67 [.int 3, .int 25] [o] 0 = .ok (.exo 4 []) [o] := by kernel_rfl
theorem r3_26 (o : Obj) : callD pg 99 67 [.int 3, .int 26] [o] 0 = .ok (.exo 4 []) [o] := by kernel_rfl
theorem r3_27 (o : Obj) : callD pg 99 67 [.int 3, .int 27] [o] 0 = .ok (.exo 4 []) [o] := by kernel_rfl
theorem r3_28 (o : Obj) : callD pg 99 67 [.int 3, .int 28] [o] 0 = .ok (.exo 4 []) [o] := by kernel_rfl
theorem r3_29 (o : Obj) : callD pg 99 67 [.int 3, .int 29] [o] 0 = .ok (.exo 4 []) [o] := by kernel_rfl
theorem r3_30 (o : Obj) : callD pg 99 67 [.int 3, .int 30] [o] 0 = .ok (.exo 4 []) [o] := by kernel_rfl
theorem r3_31 (o : Obj) : callD pg 99 67 [.int 3, .int 31] [o] 0 = .ok (.exo 4 []) [o] := by kernel_rfl
theorem r3_32 (o : Obj) : callD pg 99 67 [.int 3, .int 32] [o] 0 = .ok (.exo 4 []) [o] := by kernel_rfl
theorem r3_33 (o : Obj) : callD pg 99 67 [.int 3, .int 33] [o] 0 = .ok (.exo 4 []) [o] := by kernel_rfl
theorem r3_34 (o : Obj) : callD pg 99 67 [.int 3, .int 34] [o] 0 = .ok (.exo 4 []) [o] := by kernel_rfl
theorem r3_35 (o : Obj) : callD pg 99 67 [.int 3, .int 35] [o] 0 = .ok (.exo 4 []) [o] := by kernel_rfl
theorem r3_36 (o : Obj) : callD pg 99 67 [.int 3, .int 36] [o] 0 = .ok (.exo 4 []) [o] := by kernel_rfl
theorem r3_37 (o : Obj) : callD pg 99 67 [.int 3, .int 37] [o] 0 = .ok (.exo 4 []) [o] := by kernel_rfl
theorem r3_38 (o : Obj) : callD pg 99 67 [.int 3, .int 38] [o] 0 = .ok (.exo 4 []) [o] := by kernel_rfl
theorem r3_39 (o : Obj) : callD pg 99 67 [.int 3, .int 39] [o] 0 = .ok (.exo 4 []) [o] := by kernel_rfl
theorem r4_0 (o : Obj) : callD pg 99 67 [.int 4, .int 0] [o] 0 = .ok (.exo 5 []) [o] := by kernel_rfl
theorem r4_1 (o : Obj) : callD pg 99 67 [.int 4, .int 1] [o] 0 = .ok (.exo 5 []) [o] := by kernel_rfl
theorem r4_2 (o : Obj) : callD pg 99 67 [.int 4, .int 2] [o] 0 = .ok (.exo 5 []) [o] := by kernel_rfl
theorem r4_3 (o : Obj) : callD pg 99 67 [.int 4, .int 3] [o] 0 = .ok (.exo 5 []) [o] := by kernel_rfl
theorem r4_4 (o : Obj) : callD pg 99 67 [.int 4, .int 4] [o] 0 = .ok (.exo 5 []) [o] := by kernel_rfl
theorem r4_5 (o : Obj) : callD pg 99 67 [.int 4, .int 5] [o] 0 = .ok (.exo 5 []) [o] := by kernel_rfl
theorem r4_6 (o : Obj) : callD pg 99 67 [.int 4, .int 6] [o] 0 = .ok (.exo 5 []) [o] := by kernel_rfl
theorem r4_7 (o : Obj) : callD pg 99 67 [.int 4, .int 7] [o] 0 = .ok (.exo 5 []) [o] := by kernel_rfl
theorem r4_8 (o : Obj) : callD pg 99 67 [.int 4, .int 8] [o] 0 = .ok (.exo 5 []) [o] := by kernel_rfl
theorem r4_9 (o : Obj) : callD pg 99 67 [.int 4, .int 9] [o] 0 = .ok (.exo 5 []) [o] := by kernel_rfl
theorem r4_10 (o : Obj) : callD pg 99 67 [.int 4, .int 10] [o] 0 = .ok (.exo 5 []) [o] := by kernel_rfl
theorem r4_11 (o : Obj) : callD pg 99 67 [.int 4, .int 11] [o] 0 = .ok (.exo 5 []) [o] := by kernel_rfl
theorem r4_12 (o : Obj) : callD pg 99 67 [.int 4, .int 12] [o] 0 = .ok (.exo 5 []) [o] := by kernel_rfl
theorem r4_13 (o : Obj) : callD pg 99 67 [.int 4, .int 13] [o] 0 = .ok (.exo 5 []) [o] := by kernel_rfl
theorem r4_14 (o : Obj) : callD pg 99 67 [.int 4, .int 14] [o] 0 = .ok (.exo 5 []) [o] := by kernel_rfl
theorem r4_15 (o : Obj) : callD pg 99 67 [.int 4, .int 15] [o] 0 = .ok (.exo 5 []) [o] := by kernel_rfl
theorem r4_16 (o : Obj) : callD pg 99 67 [.int 4, .int 16] [o] 0 = .ok (.exo 5 []) [o] := by kernel_rfl
theorem r4_17 (o : Obj) : callD pg 99 67 [.int 4, .int 17] [o] 0 = .ok (.exo 5 []) [o] := by kernel_rfl
theorem r4_18 (o : Obj) : callD pg 99 67 [.int 4, .int 18] [o] 0 = .ok (.exo 5 []) [o] := by kernel_rfl
theorem r4_19 (o : Obj) : callD pg 99 67 [.int 4, .int 19] [o] 0 = .ok (.exo 5 []) [o] := by kernel_rfl
theorem r4_20 (o : Obj) : callD pg 99 67 [.int 4, .int 20] [o] 0 = .ok (.exo 5 []) [o] := by kernel_rfl
theorem r4_21 (o : Obj) : callD pg 99 67 [.int 4, .int 21] [o] 0 = .ok (.exo 5 []) [o] := by kernel_rfl
theorem r4_22 (o : Obj) : callD pg 99 67 [.int 4, .int 22] [o] 0 = .ok (.exo 5 []) [o] := by kernel_rfl
theorem r4_23 (o : Obj) : callD pg 99 67 [.int 4, .int 23] [o] 0 = .ok (.exo 5 []) [o] := by kernel_rfl
theorem r4_24 (o : Obj) : callD pg 99 67 [.int 4, .int 24] [o] 0 = .ok (.exo 5 []) [o] := by kernel_rfl
theorem r4_25 (o : Obj) : callD pg 99 67 [.int 4, .int 25] [o] 0 = .ok (.exo 5 []) [o] := by kernel_rfl
theorem r4_26 (o : Obj) : callD pg 99 67 [.int 4, .int 26] [o] 0 = .ok (.exo 5 []) [o] := by kernel_rfl
theorem r4_27 (o : Obj) : callD pg 99 67 [.int 4, .int 27] [o] 0 = .ok (.exo 5 []) [o] := by kernel_rfl
theorem r4_28 (o : Obj) : callD pg 99 67 [.int 4, .int 28] [o] 0 = .ok (.exo 5 []) [o] := by kernel_rfl
theorem r4_29 (o : Obj) : callD pg 99 67 [.int 4, .int 29] [o] 0 = .ok (.exo 5 []) [o] := by kernel_rfl
theorem r4_30 (o : Obj) : callD pg 99 67 [.int 4, .int 30] [o] 0 = .ok (.exo 5 []) [o] := by kernel_rfl
theorem r4_31 (o : Obj) : callD pg 99 67 [.int 4, .int 31] [o] 0 = .ok (.exo 5 []) [o] := by kernel_rfl
theorem r4_32 (o : Obj) : callD pg 99 67 [.int 4, .int 32] [o] 0 = .ok (.exo 5 []) [o] := by kernel_rfl
theorem r4_33 (o : Obj) : callD pg 99 67 [.int 4, .int 33] [o] 0 = .ok (.exo 5 []) [o] := by kernel_rfl
theorem r4_34 (o : Obj) : callD pg 99 67 [.int 4, .int 34] [o] 0 = .ok (.exo 5 []) [o] := by kernel_rfl
theorem r4_35 (o : Obj) : callD pg 99 67 [.int 4, .int 35] [o] 0 = .ok (.exo 5 []) [o] := by kernel_rfl
theorem r4_36 (o : Obj) : callD pg 99 67 [.int 4, .int 36] [o] 0 = .ok (.exo 5 []) [o] := by kernel_rfl
theorem r4_37 (o : Obj) : callD pg 99 67 [.int 4, .int 37] [o] 0 = .ok (.exo 5 []) [o] := by kernel_rfl
theorem r4_38 (o : Obj) : callD pg 99 67 [.int 4, .int 38] [o] 0 = .ok (.exo 5 []) [o] := by kernel_rfl
theorem r4_39 (o : Obj) : callD pg 99 67 [.int 4, .int 39] [o] 0 = .ok (.exo 5 []) [o] := by kernel_rfl
theorem r0 (o : Obj) {n : Nat} (h : n < 40) : callD pg 99 67 [.int 0, .int (n : Int)] [o] 0 = .ok (.exo 1 []) [o] := by
  match n, h with
  | 0, _ => exact r0_0 o
  | 1, _ => exact r0_1 o
  | 2, _ => exact r0_2 o
  | 3, _ => exact r0_3 o
  | 4, _ => exact r0_4 o
  | 5, _ => exact r0_5 o
  | 6, _ => exact r0_6 o
  | 7, _ => exact r0_7 o
  | 8, _ => exact r0_8 o
  | 9, _ => exact r0_9 o
  | 10, _ => exact r0_10 o
  | 11, _ => exact r0_11 o
  | 12, _ => exact r0_12 o
  | 13, _ => exact r0_13 o
  | 14, _ => exact r0_14 o
  | 15, _ => exact r0_15 o
  | 16, _ => exact r0_16 o
  | 17, _ => exact r0_17 o
  | 18, _ => exact r0_18 o
  | 19, _ => exact r0_19 o
  | 20, _ => exact r0_20 o
  | 21, _ => exact r0_21 o
  | 22, _ => exact r0_22 o
  | 23, _ => exact r0_23 o
  | 24, _ => exact r0_24 o
  | 25, _ => exact r0_25 o
  | 26, _ => exact r0_26 o
  | 27, _ => exact r0_27 o
  | 28, _ => exact r0_28 o
  | 29, _ => exact r0_29 o
  | 30, _ => exact r0_30 o
  | 31, _ => exact r0_31 o
  | 32, _ => exact r0_32 o
  | 33, _ => exact r0_33 o
  | 34, _ => exact r0_34 o
  | 35, _ => exact r0_35 o
  | 36, _ => exact r0_36 o
  | 37, _ => exact r0_37 o
  | 38, _ => exact r0_38 o
  | 39, _ => exact r0_39 o
  | n + 40, h => exact absurd h (by omega)
theorem r1 (o : Obj) {n : Nat} (h : n < 40) : callD pg 99 67 [.int 1, .int (n : Int)] [o] 0 = .ok (.exo 2 [.int 1]) [o] := by
  match n, h with
  | 0, _ => exact r1_0 o
  | 1, _ => exact r1_1 o
  | 2, _ => exact r1_2 o
  | 3, _ => exact r1_3 o
  | 4, _ => exact r1_4 o
  | 5, _ => exact r1_5 o
  | 6, _ => exact r1_6 o
  | 7, _ => exact r1_7 o
  | 8, _ => exact r1_8 o
  | 9, _ => exact r1_9 o
  | 10, _ => exact r1_10 o
  | 11, _ => exact r1_11 o
  | 12, _ => exact r1_12 o
  | 13, _ => exact r1_13 o
  | 14, _ => exact r1_14 o
  | 15, _ => exact r1_15 o
  | 16, _ => exact r1_16 o
  | 17, _ => exact r1_17 o
  | 18, _ => exact r1_18 o
  | 19, _ => exact r1_19 o
  | 20, _ => exact r1_20 o
  | 21, _ => exact r1_21 o
  | 22, _ => exact r1_22 o
  | 23, _ => exact r1_23 o
  | 24, _ => exact r1_24 o
  | 25, _ => exact r1_25 o
  | 26, _ => exact r1_26 o
  | 27, _ => exact r1_27 o
  | 28, _ => exact r1_28 o
  | 29, _ => exact r1_29 o
  | 30, _ => exact r1_30 o
  | 31, _ => exact r1_31 o
  | 32, _ => exact r1_32 o
  | 33, _ => exact r1_33 o
  | 34, _ => exact r1_34 o
  | 35, _ => exact r1_35 o
  | 36, _ => exact r1_36 o
  | 37, _ => exact r1_37 o
  | 38, _ => exact r1_38 o
  | 39, _ => exact r1_39 o
  | n + 40, h => exact absurd h (by omega)
theorem r2 (o : Obj) {n : Nat} (h : n < 40) : callD pg 99 67 [.int 2, .int (n : Int)] [o] 0 = .ok (.exo 3 []) [o] := by
  match n, h with
  | 0, _ => exact r2_0 o
  | 1, _ => exact r2_1 o
  | 2, _ => exact r2_2 o
  | 3, _ => exact r2_3 o
  | 4, _ => exact r2_4 o
  | 5, _ => exact r2_5 o
  | 6, _ => exact r2_6 o
  | 7, _ => exact r2_7 o
  | 8, _ => exact r2_8 o
  | 9, _ => exact r2_9 o
  | 10, _ => exact r2_10 o
  | 11, _ => exact r2_11 o
  | 12, _ => exact r2_12 o
  | 13, _ => exact r2_13 o
  | 14, _ => exact r2_14 o
  | 15, _ => exact r2_15 o
  | 16, _ => exact r2_16 o
  | 17, _ => exact r2_17 o
  | 18, _ => exact r2_18 o
  | 19, _ => exact r2_19 o
  | 20, _ => exact r2_20 o
  | 21, _ => exact r2_21 o
  | 22, _ => exact r2_22 o
  | 23, _ => exact r2_23 o
  | 24, _ => exact r2_24 o
  | 25, _ => exact r2_25 o
  | 26, _ => exact r2_26 o
  | 27, _ => exact r2_27 o
  | 28, _ => exact r2_28 o
  | 29, _ => exact r2_29 o
  | 30, _ => exact r2_30 o
  | 31, _ => exact r2_31 o
  | 32, _ => exact r2_32 o
  | 33, _ => exact r2_33 o
  | 34, _ => exact r2_34 o
  | 35, _ => exact r2_35 o
  | 36, _ => exact r2_36 o
  | 37, _ => exact r2_37 o
  | 38, _ => exact r2_38 o
  | 39, _ => exact r2_39 o
  | n + 40, h => exact absurd h (by omega)
theorem r3 (o : Obj) {n : Nat} (h : n < 40) : callD pg 99 67 [.int 3, .int (n : Int)] [o] 0 = .ok (.exo 4 []) [o] := by
  match n, h with
  | 0, _ => exact r3_0 o
  | 1, _ => exact r3_1 o
  | 2, _ => exact r3_2 o
  | 3, _ => exact r3_3 o
  | 4, _ => exact r3_4 o
  | 5, _ => exact r3_5 o
  | 6, _ => exact r3_6 o
  | 7, _ => exact r3_7 o
  | 8, _ => exact r3_8 o
  | 9, _ => exact r3_9 o
  | 10, _ => exact r3_10 o
  | 11, _ => exact r3_11 o
  | 12, _ => exact r3_12 o
  | 13, _ => exact r3_13 o
  | 14, _ => exact r3_14 o
  | 15, _ => exact r3_15 o
  | 16, _ => exact r3_16 o
  | 17, _ => exact r3_17 o
  | 18, _ => exact r3_18 o
  | 19, _ => exact r3_19 o
  | 20, _ => exact r3_20 o
  | 21, _ => exact r3_21 o
  | 22, _ => exact r3_22 o
  | 23, _ => exact r3_23 o
  | 24, _ => exact r3_24 o
  | 25, _ => exact r3_25 o
  | 26, _ => exact r3_26 o
  | 27, _ => exact r3_27 o
  | 28, _ => exact r3_28 o
  | 29, _ => exact r3_29 o
  | 30, _ => exact r3_30 o
  | 31, _ => exact r3_31 o
  | 32, _ => exact r3_32 o
  | 33, _ => exact r3_33 o
  | 34, _ => exact r3_34 o
  | 35, _ => exact r3_35 o
  | 36, _ => exact r3_36 o
  | 37, _ => exact r3_37 o
  | 38, _ => exact r3_38 o
  | 39, _ => exact r3_39 o
  | n + 40, h => exact absurd h (by omega)
theorem r4 (o : Obj) {n : Nat} (h : n < 40) : callD pg 99 67 [.int 4, .int (n : Int)] [o] 0 = .ok (.exo 5 []) [o] := by
  match n, h with
  | 0, _ => exact r4_0 o
  | 1, _ => exact r4_1 o
  | 2, _ => exact r4_2 o
  | 3, _ => exact r4_3 o
  | 4, _ => exact r4_4 o
  | 5, _ => exact r4_5 o
  | 6, _ => exact r4_6 o
  | 7, _ => exact r4_7 o
  | 8, _ => exact r4_8 o
  | 9, _ => exact r4_9 o
  | 10, _ => exact r4_10 o
  | 11, _ => exact r4_11 o
  | 12, _ => exact r4_12 o
  | 13, _ => exact r4_13 o
  | 14, _ => exact r4_14 o
  | 15, _ => exact r4_15 o
  | 16, _ => exact r4_16 o
  | 17, _ => exact r4_17 o
  | 18, _ => exact r4_18 o
  | 19, _ => exact r4_19 o
  | 20, _ => exact r4_20 o
  | 21, _ => exact r4_21 o
  | 22, _ => exact r4_22 o
  | 23, _ => exact r4_23 o
  | 24, _ => exact r4_24 o
  | 25, _ => exact r4_25 o
  | 26, _ => exact r4_26 o
  | 27, _ => exact r4_27 o
  | 28, _ => exact r4_28 o
  | 29, _ => exact r4_29 o
  | 30, _ => exact r4_30 o
  | 31, _ => exact r4_31 o
  | 32, _ => exact r4_32 o
  | 33, _ => exact r4_33 o
  | 34, _ => exact r4_34 o
  | 35, _ => exact r4_35 o
  | 36, _ => exact r4_36 o
  | 37, _ => exact r4_37 o
  | 38, _ => exact r4_38 o
  | 39, _ => exact r4_39 o
  | n + 40, h => exact absurd h (by omega)
end Mi.Lw
end

section
set_option linter.all false
set_option maxRecDepth 100000
set_option maxHeartbeats 4000000
/-! Main: the law -/
namespace Mi.Lw
open Mi
theorem for_is2 {C : Calls} {b : Nat} {t : Mi.T} {i : I} {B : Bl} {σ : En} {h h1 : Hs} {l : List PV} {X : R Fl} (e : evI C b i σ h = .ok l h1) (f : forL (forB C b t B) l σ h1 = X) : evS C b (.for_ t i B) σ h = X := by
  rw [evS_for, e, R.bind_ok]
  exact f
def lwB : Bl := (.cons (.asg (.nm 3) (.call 67 (.cons (.var 2) (.cons (.call 63 (.cons (.var 1) (.cons (.int 40) .nil))) .nil)))) (.cons (.asg (.nm 4) (.lof (.disp (.cons (.isi (.var 3) (.own 1)) (.cons (.isi (.var 3) (.own 2)) (.cons (.isi (.var 3) (.own 3)) .nil)))))) (.cons (.asg (.nm 4) (.lof (.cat (.var 4) (.lof (.disp (.cons (.isi (.var 3) (.own 4)) (.cons (.isi (.var 3) (.own 5)) .nil))))))) (.cons (.ifs (.or_ (.cons (.not_ (.isi (.var 3) .valueError)) (.cons (.cmp .ne (.var 4) (.lof (.comp (.nm 5) (.rng1 (.int 5)) .nil (.cmp .eq (.var 5) (.var 2)) [5]))) .nil))) (.cons (.ret (.bl false)) .nil) .nil) .nil))))
theorem nat40 {v : Int} (a : 0 ≤ v) (b : v < 40) : ∃ n : Nat, n < 40 ∧ v = (n : Int) := ⟨v.toNat, by omega, by omega⟩
theorem turn0 {ns : List Int} {K : Nat} {o : Obj} {x0 : Option PV} {y3 y4 y5 y2 : Option PV} (s : So ns K o) (hc : Cs ns) (hK : K < 100) :
    ∃ o' y3' y4' y5', So ns (K + 1) o' ∧ forB (callD pg 99) 0 (.nm 2) lwB (.int 0) [x0, some (.ref 0), y2, y3, y4, y5] [o] = .ok (.nx [x0, some (.ref 0), some (.int 0), y3', y4', y5']) [o'] := by
  obtain ⟨v, o2, pk, v0, v1, s2⟩ := sp_pk (d := 98) (t := []) (lim := 40) 0 s hc (by omega) (by omega) (by omega)
  have pk : callD pg 99 63 [.ref 0, .int 40] [o] 0 = .ok (.int v) [o2] := pk
  obtain ⟨n, hn, rfl⟩ := nat40 v0 v1
  have r := r0 o2 hn
  have q1 : evS (callD pg 99) 0 (.asg (.nm 3) (.call 67 (.cons (.var 2) (.cons (.call 63 (.cons (.var 1) (.cons (.int 40) .nil))) .nil)))) [x0, some (.ref 0), some (.int 0), y3, y4, y5] [o] = .ok (.nx [x0, some (.ref 0), some (.int 0), some (.exo 1 []), y4, y5]) [o2] := by
    revert pk r
    generalize callD pg 99 = C
    intro pk r
    simp [pk, r]
  refine ⟨o2, some (.exo 1 []), some (.lst [.bl true, .bl false, .bl false, .bl false, .bl false]), y5, s2, ?_⟩
  rw [forB_nm]
  refine bl_step q1 ?_
  clear q1 pk r
  generalize callD pg 99 = C
  kernel_rfl
theorem turn1 {ns : List Int} {K : Nat} {o : Obj} {x0 : Option PV} {y3 y4 y5 y2 : Option PV} (s : So ns K o) (hc : Cs ns) (hK : K < 100) :
    ∃ o' y3' y4' y5', So ns (K + 1) o' ∧ forB (callD pg 99) 0 (.nm 2) lwB (.int 1) [x0, some (.ref 0), y2, y3, y4, y5] [o] = .ok (.nx [x0, some (.ref 0), some (.int 1), y3', y4', y5']) [o'] := by
  obtain ⟨v, o2, pk, v0, v1, s2⟩ := sp_pk (d := 98) (t := []) (lim := 40) 0 s hc (by omega) (by omega) (by omega)
  have pk : callD pg 99 63 [.ref 0, .int 40] [o] 0 = .ok (.int v) [o2] := pk
  obtain ⟨n, hn, rfl⟩ := nat40 v0 v1
  have r := r1 o2 hn
  have q1 : evS (callD pg 99) 0 (.asg (.nm 3) (.call 67 (.cons (.var 2) (.cons (.call 63 (.cons (.var 1) (.cons (.int 40) .nil))) .nil)))) [x0, some (.ref 0), some (.int 1), y3, y4, y5] [o] = .ok (.nx [x0, some (.ref 0), some (.int 1), some (.exo 2 [.int 1]), y4, y5]) [o2] := by
    revert pk r
    generalize callD pg 99 = C
    intro pk r
    simp [pk, r]
  refine ⟨o2, some (.exo 2 [.int 1]), some (.lst [.bl false, .bl true, .bl false, .bl false, .bl false]), y5, s2, ?_⟩
  rw [forB_nm]
  refine bl_step q1 ?_
  clear q1 pk r
  generalize callD pg 99 = C
  kernel_rfl
theorem turn2 {ns : List Int} {K : Nat} {o : Obj} {x0 : Option PV} {y3 y4 y5 y2 : Option PV} (s : So ns K o) (hc : Cs ns) (hK : K < 100) :
    ∃ o' y3' y4' y5', So ns (K + 1) o' ∧ forB (callD pg 99) 0 (.nm 2) lwB (.int 2) [x0, some (.ref 0), y2, y3, y4, y5] [o] = .ok (.nx [x0, some (.ref 0), some (.int 2), y3', y4', y5']) [o'] := by
  obtain ⟨v, o2, pk, v0, v1, s2⟩ := sp_pk (d := 98) (t := []) (lim := 40) 0 s hc (by omega) (by omega) (by omega)
  have pk : callD pg 99 63 [.ref 0, .int 40] [o] 0 = .ok (.int v) [o2] := pk
  obtain ⟨n, hn, rfl⟩ := nat40 v0 v1
  have r := r2 o2 hn
  have q1 : evS (callD pg 99) 0 (.asg (.nm 3) (.call 67 (.cons (.var 2) (.cons (.call 63 (.cons (.var 1) (.cons (.int 40) .nil))) .nil)))) [x0, some (.ref 0), some (.int 2), y3, y4, y5] [o] = .ok (.nx [x0, some (.ref 0), some (.int 2), some (.exo 3 []), y4, y5]) [o2] := by
    revert pk r
    generalize callD pg 99 = C
    intro pk r
    simp [pk, r]
  refine ⟨o2, some (.exo 3 []), some (.lst [.bl false, .bl false, .bl true, .bl false, .bl false]), y5, s2, ?_⟩
  rw [forB_nm]
  refine bl_step q1 ?_
  clear q1 pk r
  generalize callD pg 99 = C
  kernel_rfl
theorem turn3 {ns : List Int} {K : Nat} {o : Obj} {x0 : Option PV} {y3 y4 y5 y2 : Option PV} (s : So ns K o) (hc : Cs ns) (hK : K < 100) :
    ∃ o' y3' y4' y5', So ns (K + 1) o' ∧ forB (callD pg 99) 0 (.nm 2) lwB (.int 3) [x0, some (.ref 0), y2, y3, y4, y5] [o] = .ok (.nx [x0, some (.ref 0), some (.int 3), y3', y4', y5']) [o'] := by
  obtain ⟨v, o2, pk, v0, v1, s2⟩ := sp_pk (d := 98) (t := []) (lim := 40) 0 s hc (by omega) (by omega) (by omega)
  have pk : callD pg 99 63 [.ref 0, .int 40] [o] 0 = .ok (.int v) [o2] := pk
  obtain ⟨n, hn, rfl⟩ := nat40 v0 v1
  have r := r3 o2 hn
  have q1 : evS (callD pg 99) 0 (.asg (.nm 3) (.call 67 (.cons (.var 2) (.cons (.call 63 (.cons (.var 1) (.cons (.int 40) .nil))) .nil)))) [x0, some (.ref 0), some (.int 3), y3, y4, y5] [o] = .ok (.nx [x0, some (.ref 0), some (.int 3), some (.exo 4 []), y4, y5]) [o2] := by
    revert pk r
    generalize callD pg 99 = C
    intro pk r
    simp [pk, r]
  refine ⟨o2, some (.exo 4 []), some (.lst [.bl false, .bl false, .bl false, .bl true, .bl false]), y5, s2, ?_⟩
  rw [forB_nm]
  refine bl_step q1 ?_
  clear q1 pk r
  generalize callD pg 99 = C
  kernel_rfl
theorem turn4 {ns : List Int} {K : Nat} {o : Obj} {x0 : Option PV} {y3 y4 y5 y2 : Option PV} (s : So ns K o) (hc : Cs ns) (hK : K < 100) :
    ∃ o' y3' y4' y5', So ns (K + 1) o' ∧ forB (callD pg 99) 0 (.nm 2) lwB (.int 4) [x0, some (.ref 0), y2, y3, y4, y5] [o] = .ok (.nx [x0, some (.ref 0), some (.int 4), y3', y4', y5']) [o'] := by
  obtain ⟨v, o2, pk, v0, v1, s2⟩ := sp_pk (d := 98) (t := []) (lim := 40) 0 s hc (by omega) (by omega) (by omega)
  have pk : callD pg 99 63 [.ref 0, .int 40] [o] 0 = .ok (.int v) [o2] := pk
  obtain ⟨n, hn, rfl⟩ := nat40 v0 v1
  have r := r4 o2 hn
  have q1 : evS (callD pg 99) 0 (.asg (.nm 3) (.call 67 (.cons (.var 2) (.cons (.call 63 (.cons (.var 1) (.cons (.int 40) .nil))) .nil)))) [x0, some (.ref 0), some (.int 4), y3, y4, y5] [o] = .ok (.nx [x0, some (.ref 0), some (.int 4), some (.exo 5 []), y4, y5]) [o2] := by
    revert pk r
    generalize callD pg 99 = C
    intro pk r
    simp [pk, r]
  refine ⟨o2, some (.exo 5 []), some (.lst [.bl false, .bl false, .bl false, .bl false, .bl true]), y5, s2, ?_⟩
  rw [forB_nm]
  refine bl_step q1 ?_
  clear q1 pk r
  generalize callD pg 99 = C
  kernel_rfl
theorem main (ns : List Int) (hl : ns.length ≤ 63) (hb : ∀ z ∈ ns, z.natAbs.log2 ≤ 1048576) : ∃ h', callD pg 100 f_law [.scr (ns.map .int)] [] 0 = .ok (.bl true) h' := by
  refine ends_main lk_law rfl rfl rfl ?_
  have bd : fd_law.body = .cons (.asg (.nm 1) (.mof (.disp (.cons (.lof (.copy (.var 0))) (.cons (.int 0) (.cons (.int 0) (.cons (.int 0) .nil))))))) (.cons (.for_ (.nm 2) (.rng1 (.int 5)) lwB) (.cons (.ret (.bl true)) .nil)) := rfl
  rw [bd]
  simp only [fd_law, strt, List.map_cons, List.map_nil, List.length_cons, List.length_nil, List.replicate, List.cons_append, List.nil_append, Nat.reduceSub, Nat.zero_add]
  have hc : Cs ns := hb
  have so0 : So ns 0 (stO (ns.map .int) 0 0 0) := ⟨0, 0, 0, rfl, by omega, by omega, by omega⟩
  refine ends_step (σ' := [some (.scr (ns.map .int)), some (.ref 0), none, none, none, none]) (h' := [stO (ns.map .int) 0 0 0]) (by simp [stO]) ?_
  generalize stO (ns.map .int) 0 0 0 = o0 at so0
  generalize some (PV.scr (ns.map .int)) = x0
  obtain ⟨o1, a1, b1, c1, s1, e1⟩ := turn0 (x0 := x0) (y2 := none) (y3 := none) (y4 := none) (y5 := none) so0 hc (by omega)
  obtain ⟨o2, a2, b2, c2, s2, e2⟩ := turn1 (x0 := x0) (y2 := some (.int 0)) (y3 := a1) (y4 := b1) (y5 := c1) s1 hc (by omega)
  obtain ⟨o3, a3, b3, c3, s3, e3⟩ := turn2 (x0 := x0) (y2 := some (.int 1)) (y3 := a2) (y4 := b2) (y5 := c2) s2 hc (by omega)
  obtain ⟨o4, a4, b4, c4, s4, e4⟩ := turn3 (x0 := x0) (y2 := some (.int 2)) (y3 := a3) (y4 := b3) (y5 := c3) s3 hc (by omega)
  obtain ⟨o5, a5, b5, c5, s5, e5⟩ := turn4 (x0 := x0) (y2 := some (.int 3)) (y3 := a4) (y4 := b4) (y5 := c4) s4 hc (by omega)
  have it : evI (callD pg 99) 0 (.rng1 (.int 5)) [x0, some (.ref 0), none, none, none, none] [o0] = .ok [.int 0, .int 1, .int 2, .int 3, .int 4] [o0] := by
    generalize callD pg 99 = C
    kernel_rfl
  have f : forL (forB (callD pg 99) 0 (.nm 2) lwB) [.int 0, .int 1, .int 2, .int 3, .int 4] [x0, some (.ref 0), none, none, none, none] [o0] = .ok (.nx [x0, some (.ref 0), some (.int 4), a5, b5, c5]) [o5] := by
    simp only [forL, e1, e2, e3, e4, e5, R.bind_ok]
  refine ends_step (for_is2 it f) ?_
  exact ends_ret (h' := [o5]) (by simp)
end Mi.Lw
end

section
set_option Elab.async false
set_option linter.all false
set_option maxRecDepth 100000
set_option maxHeartbeats 0
/-! the text of the law in the small language; its tables -/
namespace Lk
open PySem PySem.Spec PyProof.Rows L2 Mi
def topS (i : Nat) : Stmt := PySem.Challenge.pw_rimohms_k40_errors_are_kin.main.body.getD i (.Pass ⟨0, 0, 0, 0⟩)
def srcs : List (Nat × Src) := [
  (161, Src.of ["dart"] (topS 11)),
  (113, Src.of ["dart"] (topS 12)),
  (156, Src.of ["net", "places", "at", "turn", "dart"] (topS 13)),
  (116, Src.of ["net", "places", "k"] (topS 14)),
  (185, Src.of ["net", "clockwise", "backward", "at", "turn", "k"] (topS 15)),
  (139, Src.of ["net", "dart", "clockwise", "_", "found", "following"] (topS 16)),
  (128, Src.of ["net", "least", "first", "second", "low"] (topS 17)),
  (117, Src.of ["net", "rim", "turns", "amounts", "first", "clockwise", "at", "turn", "row", "k", "dart", "seen", "faces"] (topS 18)),
  (158, Src.of ["net", "rim", "turns", "amounts", "places", "order", "known", "rows", "marks", "fresh", "at", "dart", "far", "start", "changed", "node", "row", "edge"] (topS 20)),
  (172, Src.of ["top", "bottom", "common"] (topS 24)),
  (170, Src.of ["left", "right"] (topS 25)),
  (146, Src.of ["left", "right"] (topS 26)),
  (191, Src.of ["left", "right"] (topS 27)),
  (164, Src.of ["left", "right"] (topS 28)),
  (160, Src.of ["value"] (topS 29)),
  (142, Src.of ["left", "right"] (topS 30)),
  (192, Src.of ["values", "result", "value"] (topS 31)),
  (132, Src.of ["value"] (topS 32)),
  (177, Src.ofA "require_moves" ["condition"] (topS 34)),
  (206, Src.of ["net", "edge", "rim", "turns", "amounts", "changed", "turn", "dart"] (topS 36)),
  (207, Src.of ["net", "node", "rim", "turns", "amounts"] (topS 37)),
  (205, Src.of ["net", "node", "turn", "rim", "turns", "amounts"] (topS 38)),
  (202, Src.of ["net", "edge", "amount", "rim", "turns", "amounts"] (topS 39)),
  (176, Src.of ["turn", "dart", "darts", "at"] (topS 40)),
  (130, Src.of ["net", "edge"] (topS 41)),
  (131, Src.of ["net", "node"] (topS 42)),
  (148, Src.of ["net", "edge", "places"] (topS 43)),
  (149, Src.of ["net", "edge", "places", "dart", "node"] (topS 44)),
  (151, Src.of ["net", "node", "first", "second", "edge", "gone", "amount", "far", "changed"] (topS 45)),
  (150, Src.of ["net", "edge", "gone", "places", "ends"] (topS 46)),
  (152, Src.of ["net", "node", "spokes", "places", "far", "a", "b", "c", "whole", "changed", "spoke", "pair", "at", "marked", "turns", "edge", "first", "second", "dart", "turn"] (topS 47)),
  (153, Src.of ["net", "dart", "face", "places", "corners", "a", "b", "c", "pairs", "changed", "corner", "gone", "step", "spoke", "turn", "turns", "edge", "mark"] (topS 48)),
  (96, Src.of ["net", "move", "action"] (topS 49)),
  (401, Src.ofA "require_drawing" ["condition", "message"] (topS 54)),
  (102, Src.of ["net", "rim", "turns", "amounts", "darts", "turn", "amount", "least", "faces"] (topS 56)),
  (168, Src.of ["rows", "column", "start", "k"] (topS 58)),
  (174, Src.of ["row", "pivot", "column", "factor", "value", "other"] (topS 59)),
  (110, Src.of ["rows", "result", "column", "at", "k", "row"] (topS 60)),
  (103, Src.of ["rim", "found", "half", "chosen", "shift", "circle"] (topS 62)),
  (145, Src.of ["table", "heads", "tails", "i", "j"] (topS 63)),
  (175, Src.of ["table", "size", "i", "j", "heads", "tails"] (topS 64)),
  (126, Src.of ["table", "first", "second", "best", "heads", "tails", "rows", "columns", "inner", "amount", "k"] (topS 66)),
  (100, Src.of ["table", "heads", "tails", "node", "rows", "i", "j"] (topS 67)),
  (127, Src.of ["table", "node", "best", "heads", "tails", "fall", "share"] (topS 68)),
  (208, Src.of ["table", "first", "second", "amount", "rows", "here", "there", "row"] (topS 69)),
  (209, Src.of ["table", "node", "amount", "row", "share", "size", "rows", "i", "j"] (topS 70)),
  (134, Src.of ["table", "k"] (topS 71)),
  (154, Src.of ["table", "nodes", "at", "node", "following", "amount"] (topS 72)),
  (166, Src.of ["table", "found", "part"] (topS 73)),
  (203, Src.of ["net", "first", "second", "amount", "rim", "turns", "amounts", "dart", "rows"] (topS 74)),
  (204, Src.of ["net", "node", "amount", "rim", "turns", "amounts", "dart", "rows"] (topS 75)),
  (173, Src.of ["table", "net", "part"] (topS 76)),
  (157, Src.of ["word", "line", "sign"] (topS 80)),
  (94, Src.of ["words", "line", "parts", "numbers", "part"] (topS 81)),
  (165, Src.of ["text", "rim", "turns", "amounts", "at", "row", "words", "line", "net", "word"] (topS 82)),
  (63, Src.of ["_law_state", "_law_limit", "_law_value", "_law_cell", "_law_mixed"] (topS 84)),
  (15, Src.of ["_law_pick_here", "_law_number"] (topS 85)),
  (67, Src.of ["_law_pick_here", "_law_number", "_law_e"] (topS 86)),
  (136, Src.of ["_law_script", "_law_state", "_law_pick_here", "_law_e", "_law_kinds", "_law_k"] (topS 87))]
def fns0 : List (Nat × PySem.Str × Nat) := [(161, ("other", 1)), (113, ("edge_of", 1)), (156, ("nodes_of", 1)), (116, ("ends_of", 1)), (185, ("steps_of", 1)), (139, ("left_face", 2)), (128, ("groups_of", 1)), (117, ("face_count", 1)), (158, ("numbered", 1)), (172, ("ratio", 2)), (170, ("plus", 2)), (146, ("minus", 2)), (191, ("times", 2)), (164, ("over", 2)), (160, ("opposite", 1)), (142, ("less", 2)), (192, ("total", 1)), (132, ("is_ratio", 1)), (177, ("require_moves", 1)), (206, ("without_edge", 2))]
def fns1 : List (Nat × PySem.Str × Nat) := [(207, ("without_node", 2)), (205, ("with_turn", 3)), (202, ("with_amount", 3)), (176, ("replaced", 3)), (130, ("is_edge", 2)), (131, ("is_inner", 2)), (148, ("move_loop", 2)), (149, ("move_loose", 2)), (151, ("move_series", 2)), (150, ("move_parallel", 3)), (152, ("move_star", 2)), (153, ("move_triangle", 2)), (96, ("apply_move", 2)), (401, ("require_drawing", 2)), (102, ("check_net", 1)), (168, ("pivot_row", 3)), (174, ("reduce_row", 3)), (110, ("determinant", 1)), (103, ("circular_pairs", 1)), (145, ("minor", 3))]
def fns2 : List (Nat × PySem.Str × Nat) := [(175, ("refusal", 1)), (126, ("greatest_edge", 3)), (100, ("bordered", 4)), (127, ("greatest_spike", 2)), (208, ("without_rim_edge", 4)), (209, ("without_spike", 3)), (134, ("joined_nodes", 1)), (154, ("next_part", 1)), (166, ("parts_of", 1)), (203, ("with_rim_edge", 4)), (204, ("with_spike", 3)), (173, ("rebuild", 1)), (157, ("number_of", 2)), (94, ("amount_of", 2)), (165, ("parse_net", 1)), (63, ("_law_pick", 2)), (15, ("_law_call", 2)), (67, ("_law_raised", 2)), (136, ("law", 1))]
def tb : Tb := ⟨fns0 ++ fns1 ++ fns2, [("GAP", .int (-1)), ("ZERO", .tup [.int 0, .int 1]), ("MOST_RIM", .int 7), ("MOST_EDGES", .int 60), ("ONE", .tup [.int 1, .int 1]), ("MOST_DIGITS", .int 9), ("DIGITS", .str [48, 49, 50, 51, 52, 53, 54, 55, 56, 57])], [("ACTIONS", ["loop", "loose", "series", "parallel", "star", "triangle"], [([108, 111, 111, 112], .fn 148), ([108, 111, 111, 115, 101], .fn 149), ([115, 101, 114, 105, 101, 115], .fn 151), ([112, 97, 114, 97, 108, 108, 101, 108], .fn 150), ([115, 116, 97, 114], .fn 152), ([116, 114, 105, 97, 110, 103, 108, 101], .fn 153)])], [(0, "RimError"), (1, "RatioError"), (2, "TextError"), (3, "NetError"), (4, "MoveError"), (5, "TableError")], true, true, true, true⟩
def names0 : List PySem.Str := ["combinations", "gcd", "RimError", "RatioError", "TextError", "NetError", "MoveError", "TableError", "GAP", "other", "edge_of", "nodes_of", "ends_of", "steps_of", "left_face", "groups_of", "face_count", "numbered", "ZERO", "ONE"]
def names1 : List PySem.Str := ["ratio", "plus", "minus", "times", "over", "opposite", "less", "total", "is_ratio", "require", "require_moves", "without_edge", "without_node", "with_turn", "with_amount", "replaced", "is_edge", "is_inner", "move_loop", "move_loose"]
def names2 : List PySem.Str := ["move_series", "move_parallel", "move_star", "move_triangle", "apply_move", "ACTIONS", "MOST_RIM", "MOST_EDGES", "require_drawing", "check_net", "pivot_row", "reduce_row", "determinant", "circular_pairs", "minor", "refusal", "greatest_edge", "bordered", "greatest_spike", "without_rim_edge"]
def names3 : List PySem.Str := ["without_spike", "joined_nodes", "next_part", "parts_of", "with_rim_edge", "with_spike", "rebuild", "DIGITS", "MOST_DIGITS", "number_of", "amount_of", "parse_net", "_law_pick", "_law_call", "_law_raised"]
def names : List PySem.Str := names0 ++ names1 ++ names2 ++ names3
theorem stat : statB tb Mi.Lw.pg srcs = true := by decide +kernel
theorem bnds : ∀ q ∈ srcs, q.2.Binds := by
  intro q hq
  unfold srcs at hq
  simp only [List.mem_cons, List.mem_nil_iff, or_false] at hq
  rcases hq with rfl | rfl | rfl | rfl | rfl | rfl | rfl | rfl | rfl | rfl | rfl | rfl | rfl | rfl | rfl | rfl | rfl | rfl | rfl | rfl | rfl | rfl | rfl | rfl | rfl | rfl | rfl | rfl | rfl | rfl | rfl | rfl | rfl | rfl | rfl | rfl | rfl | rfl | rfl | rfl | rfl | rfl | rfl | rfl | rfl | rfl | rfl | rfl | rfl | rfl | rfl | rfl | rfl | rfl | rfl | rfl | rfl | rfl | rfl
  · exact fun _ _ _ _ _ _ us hl => match us, hl with | [_], _ => rfl
  · exact fun _ _ _ _ _ _ us hl => match us, hl with | [_], _ => rfl
  · exact fun _ _ _ _ _ _ us hl => match us, hl with | [_], _ => rfl
  · exact fun _ _ _ _ _ _ us hl => match us, hl with | [_], _ => rfl
  · exact fun _ _ _ _ _ _ us hl => match us, hl with | [_], _ => rfl
  · exact fun _ _ _ _ _ _ us hl => match us, hl with | [_, _], _ => rfl
  · exact fun _ _ _ _ _ _ us hl => match us, hl with | [_], _ => rfl
  · exact fun _ _ _ _ _ _ us hl => match us, hl with | [_], _ => rfl
  · exact fun _ _ _ _ _ _ us hl => match us, hl with | [_], _ => rfl
  · exact fun _ _ _ _ _ _ us hl => match us, hl with | [_, _], _ => rfl
  · exact fun _ _ _ _ _ _ us hl => match us, hl with | [_, _], _ => rfl
  · exact fun _ _ _ _ _ _ us hl => match us, hl with | [_, _], _ => rfl
  · exact fun _ _ _ _ _ _ us hl => match us, hl with | [_, _], _ => rfl
  · exact fun _ _ _ _ _ _ us hl => match us, hl with | [_, _], _ => rfl
  · exact fun _ _ _ _ _ _ us hl => match us, hl with | [_], _ => rfl
  · exact fun _ _ _ _ _ _ us hl => match us, hl with | [_, _], _ => rfl
  · exact fun _ _ _ _ _ _ us hl => match us, hl with | [_], _ => rfl
  · exact fun _ _ _ _ _ _ us hl => match us, hl with | [_], _ => rfl
  · exact fun _ _ _ _ _ _ us hl => match us, hl with | [_], _ => rfl
  · exact fun _ _ _ _ _ _ us hl => match us, hl with | [_, _], _ => rfl
  · exact fun _ _ _ _ _ _ us hl => match us, hl with | [_, _], _ => rfl
  · exact fun _ _ _ _ _ _ us hl => match us, hl with | [_, _, _], _ => rfl
  · exact fun _ _ _ _ _ _ us hl => match us, hl with | [_, _, _], _ => rfl
  · exact fun _ _ _ _ _ _ us hl => match us, hl with | [_, _, _], _ => rfl
  · exact fun _ _ _ _ _ _ us hl => match us, hl with | [_, _], _ => rfl
  · exact fun _ _ _ _ _ _ us hl => match us, hl with | [_, _], _ => rfl
  · exact fun _ _ _ _ _ _ us hl => match us, hl with | [_, _], _ => rfl
  · exact fun _ _ _ _ _ _ us hl => match us, hl with | [_, _], _ => rfl
  · exact fun _ _ _ _ _ _ us hl => match us, hl with | [_, _], _ => rfl
  · exact fun _ _ _ _ _ _ us hl => match us, hl with | [_, _, _], _ => rfl
  · exact fun _ _ _ _ _ _ us hl => match us, hl with | [_, _], _ => rfl
  · exact fun _ _ _ _ _ _ us hl => match us, hl with | [_, _], _ => rfl
  · exact fun _ _ _ _ _ _ us hl => match us, hl with | [_, _], _ => rfl
  · exact fun _ _ _ _ _ _ us hl => match us, hl with | [_, _], _ => rfl
  · exact fun _ _ _ _ _ _ us hl => match us, hl with | [_], _ => rfl
  · exact fun _ _ _ _ _ _ us hl => match us, hl with | [_, _, _], _ => rfl
  · exact fun _ _ _ _ _ _ us hl => match us, hl with | [_, _, _], _ => rfl
  · exact fun _ _ _ _ _ _ us hl => match us, hl with | [_], _ => rfl
  · exact fun _ _ _ _ _ _ us hl => match us, hl with | [_], _ => rfl
  · exact fun _ _ _ _ _ _ us hl => match us, hl with | [_, _, _], _ => rfl
  · exact fun _ _ _ _ _ _ us hl => match us, hl with | [_], _ => rfl
  · exact fun _ _ _ _ _ _ us hl => match us, hl with | [_, _, _], _ => rfl
  · exact fun _ _ _ _ _ _ us hl => match us, hl with | [_, _, _, _], _ => rfl
  · exact fun _ _ _ _ _ _ us hl => match us, hl with | [_, _], _ => rfl
  · exact fun _ _ _ _ _ _ us hl => match us, hl with | [_, _, _, _], _ => rfl
  · exact fun _ _ _ _ _ _ us hl => match us, hl with | [_, _, _], _ => rfl
  · exact fun _ _ _ _ _ _ us hl => match us, hl with | [_], _ => rfl
  · exact fun _ _ _ _ _ _ us hl => match us, hl with | [_], _ => rfl
  · exact fun _ _ _ _ _ _ us hl => match us, hl with | [_], _ => rfl
  · exact fun _ _ _ _ _ _ us hl => match us, hl with | [_, _, _, _], _ => rfl
  · exact fun _ _ _ _ _ _ us hl => match us, hl with | [_, _, _], _ => rfl
  · exact fun _ _ _ _ _ _ us hl => match us, hl with | [_], _ => rfl
  · exact fun _ _ _ _ _ _ us hl => match us, hl with | [_, _], _ => rfl
  · exact fun _ _ _ _ _ _ us hl => match us, hl with | [_, _], _ => rfl
  · exact fun _ _ _ _ _ _ us hl => match us, hl with | [_], _ => rfl
  · exact fun _ _ _ _ _ _ us hl => match us, hl with | [_, _], _ => rfl
  · exact fun _ _ _ _ _ _ us hl => match us, hl with | [_, _], _ => rfl
  · exact fun _ _ _ _ _ _ us hl => match us, hl with | [_, _], _ => rfl
  · exact fun _ _ _ _ _ _ us hl => match us, hl with | [_], _ => rfl
abbrev R : PySem.W.OpenRow := PySem.W.OpenLaw.row PySem.Challenge.rw_rimohms_k40_errors_are_kin
abbrev dl : List He.DefD := srcs.map fun q => q.2.defD
abbrev hk : PySem.W.Hook := hookX 1400 (factB tb) dl (tabsOf tb)
end Lk
open PySem PySem.W PySem.Calls PyProof.Rows
theorem PySem.Challenge.cw_rimohms_k40_errors_are_kin_holds : PySem.Challenge.rw_rimohms_k40_errors_are_kin.Holds := by
  w_on; o_law
  o_head Lk.hk
  (case hw => w_witness2)
  case hc =>
    exact Mi.walk_X (l := PySem.Challenge.rw_rimohms_k40_errors_are_kin) (n := 63) (k := 100) (x := "_law_script") (law := 136) (tb := Lk.tb) (Pg := Mi.Lw.pg) (srcs := Lk.srcs) (lsrc := Mi.Src.of ["_law_script", "_law_state", "_law_pick_here", "_law_e", "_law_kinds", "_law_k"] (Lk.topS 87)) rfl (by decide) (by kernel_rfl) ⟨rfl, by decide, by decide⟩ Lk.stat Lk.bnds (fun _ => ⟨by decide +kernel, by decide +kernel⟩) (by kernel_rfl) (by kernel_rfl) (by kernel_rfl) Mi.Lw.main
end
