import PyProof.Rows.All
import Wide.All
import OpenK.AllK
import Wide.FinOn
import HandS.Base
import HandS.Call
import HandS.List
import HandS.Comp
import HandS.Words
import HandS.TupMul
import HandS.TupAny
import PyProof.ListMulRoad
import PyProof.FactsAll.tuple_2
import HandS.SetFor
import HandS.More
import PyProof.EqAt
import OpenK.KMore
import HandS.ExcSuper
import HandS.Exc
import KE.KSuper
import KE.KExcSuper
import HandS.Defaults
import HandS.Walk
import HandS.Evl
import HandS.Zip
import HandS.Style
import HandS.IsInst
import HandS.Text
import HandS.TupLe
import HandS.TryOnly
import HandS.Conv
import HandS.RevTup
import HandS.HeadHook2
import HandS.HeadEnd
import HandS.Head0
import HandS.Head1
import HandS.Head2
import KE.KIntText
import KE.IntTextLaws
import PyProof.Conv_int
import PyProof.StrOps2
import HandS.Wide
import KE.KEqSeq
import HandS.ExcOwn
import HandS.WordsExc
import HandS.HeadHook1
import HandS.Gcd
import HandS.Iter
import KE.KMathGC
import KE.GoesEnum
import KE.GoesMore
import KE.KTupSum
import KE.GoesZip
import HandS.HeadHook3
import HandS.Dict
import PySem.Challenge.RW_ownmirrors_k60_told_rows_and_what_is_mad
import HandS.Head3
set_option Elab.async false
set_option linter.all false
set_option maxRecDepth 100000
set_option maxHeartbeats 2000000
/-! Tuples tracked together with their very object, so that their methods can be called. -/
namespace Own
open PySem PySem.Spec PyProof.Rows L2

def Tp (K : PySem.W.Frag) (H : Hp) (p : Addr) (xs : List V) : Prop :=
  (∃ o : Obj, o.dict = none ∧ H p = some (.frz o (.tup xs))) ∨
    ∃ (o : Obj) (its : Array Value) (n : Nat), K.lookup p = some o ∧ o.cls = .type "tuple" ∧ o.dict = none ∧ o.data = .seq its n ∧ its.size ≤ sizeLine ∧ Vals xs its.toList
theorem Tp.sq {K : PySem.W.Frag} {H : Hp} {p : Addr} {xs : List V} (h : Tp K H p xs) : SqT K H p xs := by
  rcases h with ⟨o, _, h⟩ | ⟨o, its, n, h1, h2, _, h4, h5, h6⟩
  · exact .inl (.inr ⟨o, h⟩)
  · exact .inr ⟨o, its, n, h1, h2, h4, h5, h6⟩
theorem Tp.of {K : PySem.W.Frag} {H : Hp} {p : Addr} {o : Obj} {xs : List V} (hd : o.dict = none) (h : H p = some (.frz o (.tup xs))) : Tp K H p xs := .inl ⟨o, hd, h⟩
/-- a new tuple: what is wanted of it -/
def NewT (xs : List V) (H : Hp) (Q : VK) : Prop := ∀ (p : Addr) (o : Obj), H p = none → o.dict = none → Q (.ref p) (upd H p (.frz o (.tup xs)))
section
variable {X : Cx} {pins : List (Addr × Obj)} {σ : L2.St} {H : Hp} {s : Shared} {Q : VK}
theorem newT_end {xs : List V} {its : List Value} {tk : Nat} (I : Inv X pins σ H s) (r : Vals xs its) (z : xs.length ≤ sizeLine) (q : NewT xs H Q) :
    EP X pins σ Q (.ref s.heap.objs.size) { s with heap := s.heap.push { cls := .type "tuple", data := .seq its.toArray }, toks := tk } := by
  have hf : H s.heap.objs.size = none := I.hok.fresh (Nat.le_refl _)
  refine ⟨.ref s.heap.objs.size, _, I.laid (t' := tk) (o := .frz { cls := .type "tuple", data := .seq its.toArray } (.tup xs)) (fun b u e => Heap.get?_push_of_some _ e) (Nat.le_refl _) ⟨Heap.get?_push_size _ rfl, z, its, r, IsTup.new _ _⟩, rfl, q _ _ hf rfl⟩
end
def tTupF (t : TA) : TE := fun σ H Q => t σ H fun xs H1 => xs.length ≤ sizeLine ∧ NewT xs H1 Q
section
variable {X : Cx} {es : List Expr} {t : TA} {pos : Pos}
/-- (a, b, ..) -/
theorem pe_tupF {x1} (h : PA X es t) : PE X (.Tuple es x1 pos) (tTupF t) := by
  refine ⟨fun pins s σ H Q I hq => ?_⟩
  refine wpAny_Tuple_spliced (thn (h.run pos pins s σ H _ I hq) fun us s1 ⟨xs, H1, I1, r, z, q⟩ => ⟨by rw [← r.length]; exact z, ?_⟩)
  exact newT_end I1 r z q
/-- tuple(list), tuple(tuple) -/
def rTupF (K : PySem.W.Frag) : List V → Hp → VK → Prop := fun xs H Q => ∃ p ys, xs = [.ref p] ∧ ((SqL K H p ys ∧ NewT ys H Q) ∨ (SqT K H p ys ∧ Q (.ref p) H))
theorem call_tupF : CallR X (.type "tuple") (rTupF X.K) := by
  intro pins s σ H xs us Q I r h
  obtain ⟨p, ys, rfl, h⟩ := h
  obtain ⟨u, rfl, rx⟩ := vals1 r
  cases rx
  rcases h with ⟨hq, q⟩ | ⟨hq, q⟩
  · obtain ⟨its, r', pl, hz⟩ := I.list hq
    have hlen := r'.length
    refine call_tuple_list pl.isList (fun h' kp => ?_) (by simp only [List.size_toArray] <;> omega)
    have I1 : Inv X pins σ H { s with heap := h' } := I.kept (t' := s.toks) kp
    exact newT_end (tk := s.toks) I1 r' hz q
  · obtain ⟨its, r', pl, hz⟩ := I.tuple hq
    exact call_tuple_same pl ⟨.ref p, H, I, rfl, q⟩
/-- t + u -/
def rCatF (K : PySem.W.Frag) : R2 := fun x y H Q => ∃ a b xs ys, x = .ref a ∧ y = .ref b ∧ SqT K H a xs ∧ SqT K H b ys ∧ xs.length + ys.length ≤ sizeLine ∧
  (xs = [] → Q (.ref b) H) ∧ (xs ≠ [] → ys = [] → Q (.ref a) H) ∧ (xs ≠ [] → ys ≠ [] → NewT (xs ++ ys) H Q)
theorem op_catF : OpR X (binaryOp .Add) (rCatF X.K) := by
  intro pins s σ H x y v u Q I rx ry h
  obtain ⟨a, b, xs, ys, rfl, rfl, ha, hb, hz, q0, q1, q2⟩ := h
  cases rx
  cases ry
  obtain ⟨its, r1, p1, _⟩ := I.tuple ha
  obtain ⟨its2, r2, p2, _⟩ := I.tuple hb
  by_cases hx : xs = []
  · subst hx
    cases r1
    exact L2.cat_tup0 p1 p2 ⟨.ref b, H, I, rfl, q0 rfl⟩
  · refine HT.cat_tup p1 p2 (fun z => hx (r1.nil_iff.mp z)) (fun z => ⟨.ref a, H, I, rfl, q1 hx (r2.nil_iff.mp z)⟩) (fun z => ?_) (by rw [← r1.length, ← r2.length]; exact hz)
    exact newT_end (tk := s.toks) I (r1.append r2) (by rw [List.length_append]; exact hz) (q2 hx fun w => z (r2.nil_iff.mpr w))
/-- t[lo:hi] -/
def rSlF (K : PySem.W.Frag) : V → Option Int → Option Int → Hp → VK → Prop := fun x lo hi H Q => ∃ a xs, x = .ref a ∧ SqT K H a xs ∧
  (HT.sIx xs.length 0 lo = 0 ∧ HT.sIx xs.length xs.length hi = xs.length → Q (.ref a) H) ∧ (¬ (HT.sIx xs.length 0 lo = 0 ∧ HT.sIx xs.length xs.length hi = xs.length) → NewT (cutV xs lo hi) H Q)
theorem sl_tupF : SlR X (rSlF X.K) := by
  intro pins s σ H x v vl vu lo hi sl Q I rx hs pl pu h
  obtain ⟨a, xs, rfl, hx, q1, q2⟩ := h
  cases rx
  obtain ⟨its, r, ht, hz⟩ := I.tuple hx
  have hlen : its.toArray.size = xs.length := by rw [List.size_toArray]; exact r.length.symm
  refine ⟨"tuple", _, PyProof.Rows.slot_tuple_getitem.lookup, ht.typeIs, ?_⟩
  by_cases hw : HT.sIx xs.length 0 lo = 0 ∧ HT.sIx xs.length xs.length hi = xs.length
  · exact L2.getItem_tuple_whole ht hs pl pu (by rw [hlen]; exact hw) ⟨.ref a, H, I, rfl, q1 hw⟩
  · refine HT.getItem_tuple_cut ht hs pl pu (by rw [hlen]; exact hw) ?_ (by rw [hlen]; exact hz)
    rw [hlen]
    exact newT_end (tk := s.toks) I ((r.drop (HT.sIx xs.length 0 lo)).take (HT.sIx xs.length xs.length hi - HT.sIx xs.length 0 lo)) (Nat.le_trans (cutV_length xs lo hi) hz) (q2 hw)
end
end Own

namespace Own
open PySem PySem.Spec PyProof.Rows L2
/-- t * 1 (or an empty t): t itself; t * 0 .. : a new empty one -/
theorem tuple_mul_same (l : Addr) (items : Array Value) (n : Nat) (dd : Option Addr) (sl : Array (Option Value)) (x : Int) (u : Tok) (c0 : (decide (x < -(2 ^ 63)) || decide (x ≥ 2 ^ 63)) = false) (c1 : (items.isEmpty || x == 1) = true) :
    Meets (Builtin.«tuple.__mul__» ⟨[.ref l, .int x u], []⟩) (fun _ R s => s.heap.get? l = some { cls := .type "tuple", dict := dd, data := .seq items n, slots := sl } ∧ R (.ok (.ret (Value.ref l))) s) :=
  .of_wp fun prog w A R s h => by
    obtain ⟨hp, g, d, tk, os⟩ := s
    obtain ⟨hl, h⟩ := h
    have f1 := AutoSeq1.idx_int
    wp_walk using wpAny_loadPart' hl
    refine wpAny_ite_false (decide_eq_false (by rw [c0]; exact Bool.false_ne_true)) ?_
    wp_walk using wpAny_loadPart' hl
    exact ⟨_, rfl, h⟩
theorem tuple_mul_none (l : Addr) (items : Array Value) (n : Nat) (dd : Option Addr) (sl : Array (Option Value)) (x : Int) (u : Tok) (c0 : (decide (x < -(2 ^ 63)) || decide (x ≥ 2 ^ 63)) = false) (c1 : (items.isEmpty || x == 1) = false) (c2 : (decide (x ≤ 0) || items.isEmpty) = true) :
    Meets (Builtin.«tuple.__mul__» ⟨[.ref l, .int x u], []⟩) (fun _ R s => s.heap.get? l = some { cls := .type "tuple", dict := dd, data := .seq items n, slots := sl } ∧ R (.ok (.ret (Value.ref s.heap.objs.size))) { s with heap := s.heap.push { cls := .type "tuple", data := .seq #[] } }) :=
  .of_wp fun prog w A R s h => by
    obtain ⟨hp, g, d, tk, os⟩ := s
    obtain ⟨hl, h⟩ := h
    have f1 := AutoSeq1.idx_int
    wp_walk using wpAny_loadPart' hl
    refine wpAny_ite_false (decide_eq_false (by rw [c0]; exact Bool.false_ne_true)) ?_
    wp_walk using wpAny_loadPart' hl
    exact ⟨_, rfl, h⟩
/-- t * k, k from below 0 to 1000 -/
def rRepF (K : PySem.W.Frag) : R2 := fun x y H Q => ∃ l k xs, x = .ref l ∧ y = .int k ∧ SqT K H l xs ∧ -1000 ≤ k ∧ k ≤ 1000 ∧ xs.length ≤ 1000 ∧
  ((xs = [] ∨ k = 1) → Q (.ref l) H) ∧ (xs ≠ [] → k ≠ 1 → NewT (List.replicate k.toNat xs).flatten H Q)
section
variable {X : Cx}
theorem op_repF : OpR X (binaryOp .Mult) (rRepF X.K) := by
  intro pins s σ H x y v u Q I rx ry h
  obtain ⟨l, k, xs, rfl, rfl, hT, h1, h2, hz, q0, q1⟩ := h
  cases rx
  obtain ⟨t, rfl⟩ := ry
  obtain ⟨its, r, ⟨⟨cls, dd, data, sl⟩, ho, hc, n, hd⟩, hs⟩ := I.tuple hT
  simp only at hc hd
  subst hc hd
  have hle : its.length = xs.length := r.length.symm
  have hsz0 : its.toArray.size = xs.length := by rw [List.size_toArray, hle]
  have c0 : (decide (k < -(2 ^ 63)) || decide (k ≥ 2 ^ 63)) = false := by
    rw [decide_eq_false (by omega), decide_eq_false (by omega)] <;> rfl
  have mul : ∀ Q' : Value → Shared → Prop, wpAny (model X.prog X.w) X.A (call (.builtin "tuple.__mul__") [.ref l, .int k t]) Q' X.xe s → wpAny (model X.prog X.w) X.A (binaryOp .Mult (.ref l) (.int k t)) Q' X.xe s := fun Q' hc =>
    wpAny_binaryOp_repeat_ref (T := "tuple") (U := "int") (by decide) ⟨_, ho, rfl⟩ (fun s' => typeIs_int s' k t) noFill_tuple_mul F.fills_int_mul F.slot_int_rmul repeat_tuple F.slot_int_index.lookup
      (call_meets F.slot_int_rmul (typeIs_int s k t) F.entry_int_rmul (F.args_int_rmul_2 _ _) (int_rmul_tuple k t l its.toArray n dd sl) ⟨ho, rfl, ⟨_, ho, rfl⟩, hc⟩)
  refine mul _ ?_
  by_cases hs1 : xs = [] ∨ k = 1
  · have c1 : (its.toArray.isEmpty || k == 1) = true := by
      rcases hs1 with e | e
      · rw [show its = [] from List.eq_nil_of_length_eq_zero (by rw [hle, e] <;> rfl)]
        rfl
      · rw [e, beq_self_eq_true, Bool.or_true]
    exact call_meets F.slot_tuple_mul ⟨_, ho, rfl⟩ F.entry_tuple_mul (F.args_tuple_mul_2 _ _) (tuple_mul_same l its.toArray n dd sl k t c0 c1) ⟨ho, .ref l, H, I, rfl, q0 hs1⟩
  · have hne : xs ≠ [] := fun e => hs1 (.inl e)
    have hk1 : k ≠ 1 := fun e => hs1 (.inr e)
    have hn : its ≠ [] := fun e => hne (List.eq_nil_of_length_eq_zero (by rw [← hle, e] <;> rfl))
    have hi : its.toArray.isEmpty = false := by
      cases its with
      | nil => exact absurd rfl hn
      | cons a b => rfl
    have c1 : (its.toArray.isEmpty || k == 1) = false := by
      rw [hi, Bool.false_or]
      exact beq_eq_false_iff_ne.mpr hk1
    by_cases hk0 : k ≤ 0
    · have c2 : (decide (k ≤ 0) || its.toArray.isEmpty) = true := by rw [decide_eq_true hk0, Bool.true_or]
      refine call_meets F.slot_tuple_mul ⟨_, ho, rfl⟩ F.entry_tuple_mul (F.args_tuple_mul_2 _ _) (tuple_mul_none l its.toArray n dd sl k t c0 c1 c2) ⟨ho, ?_⟩
      have z : k.toNat = 0 := by omega
      have q := q1 hne hk1
      rw [z] at q
      exact newT_end (tk := s.toks) (xs := []) (its := []) I .nil (Nat.zero_le _) q
    · have hm : ((its.toArray.size : Nat) : Int) * k ≤ 1000000 := by
        rw [hsz0]
        have a1 : ((xs.length : Nat) : Int) * k ≤ 1000 * k := Int.mul_le_mul_of_nonneg_right (by omega) (by omega)
        omega
      have flen : k.toNat * xs.length ≤ sizeLine := by
        rw [sizeLine_eq]
        have a1 : k.toNat * xs.length ≤ 1000 * 1000 := Nat.mul_le_mul (by omega) hz
        omega
      have c2 : (decide (k ≤ 0) || its.toArray.isEmpty) = false := by
        rw [hi, Bool.or_false]
        exact decide_eq_false hk0
      have c4 : Builtin.Tuple.tupleTooMany (((its.toArray.size : Nat) : Int) * k) = false := by
        unfold Builtin.Tuple.tupleTooMany
        rw [sizeLine_eq]
        exact decide_eq_false (by omega)
      refine call_meets F.slot_tuple_mul ⟨_, ho, rfl⟩ F.entry_tuple_mul (F.args_tuple_mul_2 _ _) (tuple_mulW l its.toArray n dd sl k t c0 c1 c2 (by omega) c4 (by rw [size_rep, List.size_toArray, PyProof.Rows.lm_len_rep_flat, hle]; exact flen)) ⟨ho, ?_⟩
      rw [size_rep]
      exact newT_end (tk := s.toks) I (r.rep k.toNat) (by rw [PyProof.Rows.lm_len_rep_flat]; exact flen) (q1 hne hk1)
end
end Own

namespace Own
open PySem PySem.Spec PyProof.Rows L2
/-! ### t.count(k) -/
theorem Tp.at {K : PySem.W.Frag} {X : Cx} {pins : List (Addr × Obj)} {σ : L2.St} {H : Hp} {s : Shared} {p : Addr} {xs : List V} (I : Inv X pins σ H s) (h : Tp X.K H p xs) :
    ∃ (its : List Value) (o : Obj) (n : Nat), Vals xs its ∧ s.heap.get? p = some o ∧ o.cls = .type "tuple" ∧ o.dict = none ∧ o.data = .seq its.toArray n := by
  rcases h with ⟨o, hd, h⟩ | ⟨o, its, n, h1, h2, h3, h4, h5, h6⟩
  · obtain ⟨e, _, its, r, ob, e2, c, n, d⟩ := I.hok p _ h
    rw [e] at e2
    cases e2
    exact ⟨its, o, n, r, e, c, hd, d⟩
  · exact ⟨its.toList, o, n, h6, I.kIn p o h1, h2, h3, h4⟩
def rTCnt (K : PySem.W.Frag) : V → List V → Hp → VK → Prop := fun x xs H Q => ∃ (p : Addr) (ns : List Int) (k : Int), x = .ref p ∧ xs = [.int k] ∧ Tp K H p (ns.map V.int) ∧ Q (.int (ns.count k : Nat)) H
/-- t.m(e, ..) of a tuple that is tracked with its object -/
def tTM (K : PySem.W.Frag) (r : V → List V → Hp → VK → Prop) (to : TE) (t : TA) : TE := fun σ H Q => to σ H fun x H1 => (∃ p xs, x = .ref p ∧ Tp K H1 p xs) ∧ t σ H1 fun xs H2 => r x xs H2 Q
section
variable {X : Cx} {o e : Expr} {es : List Expr} {to : TE} {t : TA} {name : Str} {apos cpos : Pos} {id : String} {r : V → List V → Hp → VK → Prop}
theorem mt_tcount : MtR X "tuple.count" (rTCnt X.K) := by
  intro pins s σ H x xs v us Q I rx rxs h
  obtain ⟨p, ns, k, rfl, rfl, hs, q⟩ := h
  cases rx
  obtain ⟨u, rfl, ru⟩ := rxs.one
  obtain ⟨t, rfl⟩ := ru
  obtain ⟨its, ⟨cls, dd, data, sl⟩, n, rv, ho, hc, hdn, hd⟩ := Tp.at (K := X.K) I hs
  simp only at hc hd
  subst hc hd
  have hi := ints_of_vals rv
  refine call_meets PySem.F.slot_tuple_count ⟨_, ho, rfl⟩ PySem.F.entry_tuple_count (PySem.F.args_tuple_count_2 _ _)
    (SeqAt.tuple_countAt p its.toArray n dd sl (.int k t) (eqk k)) ⟨ho, fun y hy => (eqk_gives hi y (by simpa using hy)).at _ _, ?_⟩
  have ec : its.toArray.toList.countP (eqk k) = ns.count k := eqk_count hi
  refine ⟨.int (ns.count k : Nat), H, I.tok _, ⟨s.toks, ?_⟩, q⟩
  show Value.int ((its.toArray.toList.countP (eqk k) : Nat) : Int) s.toks = Value.int ((ns.count k : Nat) : Int) s.toks
  rw [ec]
theorem pe_tm (pa : PlainAttrs "tuple") (slot : Slot "tuple" name id) (hty : typeOf (.builtin id) = pure (.type "method_descriptor")) (hm : MtR X id r) (ho : PE X o to) (ha : PA X (e :: es) t)
    (hbase : attributeBase o name X.env (eval o X.env) = eval o X.env := by rfl)
    (hfew : ((backTo cpos (starEach (e :: es) X.env)).all (fun x => !x.1) && (backToKw cpos (keywordEach [] X.env)).all (fun x => x.1.isSome)
      && decide ((e :: es).length + ([] : List Keyword).length + (if ([] : List Keyword).isEmpty then 0 else 1) < 30)) = true := by rfl)
    (hline : (apos.endLine == cpos.line) = true := by rfl) (hs : starEach (e :: es) X.env = (false, eval e X.env) :: starEach es X.env := by rfl) (hplain : (backTo cpos (starEach es X.env)).any (·.1) = false := by rfl) :
    PE X (.Call (.Attribute o name apos) (e :: es) [] cpos) (tTM X.K r to t) := by
  refine ⟨fun pins s σ H Q I h => ?_⟩
  refine wpAny_Call_method_late hbase hfew hline rfl (thn (ho.run pins s σ H _ I h) fun v s1 ⟨x, H1, I1, r1, ⟨p, xs, ex, ty⟩, q1⟩ => ?_)
  subst ex
  obtain rfl : v = Value.ref p := r1
  obtain ⟨its, ob, n, _, g1, g2, g3, _⟩ := Tp.at (K := X.K) I1 ty
  refine ⟨"tuple", id, pa, slot, hty, ⟨ob, g1, g2⟩, fun a ea => ?_, ?_⟩
  · cases ea
    exact ⟨ob, g1, g3⟩
  have hA := ha.run cpos pins s1 σ H1 _ I1 q1
  rw [hs] at hA ⊢
  refine Calls.callWith_builtin (by show (false || (backTo cpos (starEach es X.env)).any (·.1)) = false; rw [hplain] <;> rfl) (Calls.evalArgs_plain ?_)
  exact thn hA fun us s2 ⟨vs, H2, I2, r2, q2⟩ => hm pins s2 σ H2 (.ref p) vs _ us Q I2 (show RelV (V.ref p) (Value.ref p) from rfl) r2 q2
/-- f(k = v, ..): every argument by its name -/
def tCall0K (sp : Sp) (gV : List V → List V → List V) (E : XK) (tk : TA) : TE := fun σ H Q => tk σ H fun zs H2 => sp (gV [] zs) H2 Q E
theorem pe_call0K {CX : CXT} {k : Nat} {f : Addr} {fd : FuncData} {ps ks : List Str} {sp : Sp} {E : XK} {x : Str} {p pos : Pos} {kws : List Keyword} {tk : TA} {g : List Value → List Value → List Value} {gV : List V → List V → List V}
    (F : FnOk X.prog X.w X.K X.mg X.base CX k f fd ps sp) (hr : Room k X.A) (hg : Gl X x) (hm : X.mg x = some (.ref f)) (hk : PySem.W.keepIn X.K (.ref f) = true) (hb : KBinds X.K fd ps ks g gV) (hx : Passes CX X E)
    (hkw : PK X kws tk) (hall : (backToKw pos (keywordEach kws X.env)).all (·.1.isSome) = true := by rfl) (hks : (backToKw pos (keywordEach kws X.env)).filterMap (·.1) = ks := by rfl)
    (hdb : (x == ("__debug__" : Str)) = false := by decide) (hpl : ((backTo pos (starEach [] X.env)).any (·.1) || (backToKw pos (keywordEach kws X.env)).any (·.1.isNone)) = false := by rfl) : PE X (.Call (.Name x p) [] kws pos) (tCall0K sp gV E tk) := by
  refine ⟨fun pins s σ H Q I h => ?_⟩
  refine wpAny_Call_Name_kw (ld_glob I hg hm ?_ hdb)
  refine PySem.W.callWith_KW0 (h₀ := X.base) I.ok.mod.kin hk hall (thn (hkw.run pos pins s σ H _ I h) fun ws s2 ⟨zs, H2, I2, rz, q2⟩ => ⟨I2.kIn, ?_⟩) hpl
  rw [hks]
  exact run_fnk (us := []) F hr hb hx I2 .nil rz q2
end
end Own

set_option maxHeartbeats 4000000
/-! Own errors two classes below Exception, whose __init__ says super().__init__(text) and then stores its arguments. -/
namespace PySem
namespace OwX
open PySem.W PySem.Calls PyProof.Rows PySem.HandSPX
abbrev exT : List Value := [.type "Exception", .type "BaseException", .type "object"]
section
open Builtin Builtin.ObjectAttr
variable {prog : Program} {w : World} {A : Around} {E : Value → Shared → Prop} {R : Result → Shared → Prop} {hp : Heap} {g : Array GenState} {d : Drawn} {t : Nat} {os : OsState}
theorem tail2_has {C M : Addr} (X : String) (hX : exT.contains (.type X) = true) : (Value.ref C :: .ref M :: exT).contains (.type X) = true := by
  rw [List.contains_cons, List.contains_cons, hX, Bool.or_true, Bool.or_true]
theorem mro2_has {K : W.Frag} {C M : Addr} {cd : ClassData} (hcd : W.clsIn K C = some cd) (hm : cd.mro = .ref C :: .ref M :: exT) {b : Value} (hb : (Value.ref C :: .ref M :: exT).contains b = true) : W.mroIn K C b = some true := by
  unfold W.mroIn
  rw [hcd, Option.bind_some, hm, if_neg (show ¬ (List.isEmpty (Value.ref C :: .ref M :: exT) = true) from Bool.false_ne_true), hb]
/-- up to the object's own dict -/
theorem osa_two {K : W.Frag} {name : Str} {tk : Tok} {v : Value} {x C M : Addr} {ox : Obj} {od : Option Obj} {cd : ClassData}
    (X : K.In hp) (I : W.InstAt hp x ox C od) (hcd : W.clsIn K C = some cd) (hm : cd.mro = .ref C :: .ref M :: exT) (ha : W.findIn K (.ref C) name = some none)
    (hq : wpAny (model prog w) A.in1 (storeInOwnDict (.ref x) (.ref C) (.str name tk) name v false)
      (fun fin s' => match fin with | .done f => R (.ok f) s' | .again c' => c'.quiet = true ∧ codeAny (model prog w) A c' R s') (fun e s' => R (.error e) s') ⟨hp, g, d, t, os⟩) :
    codeAny (model prog w) A (.call (.builtin "object.__setattr__") ⟨[.ref x, .str name tk, v], []⟩) R ⟨hp, g, d, t, os⟩ := by
  have SF := F.store_object
  have sub : W.Looks (model prog w) hp (isInstance (.ref x) (.type "object")) true := I.type.andThen (W.looks_mroIn X (mro2_has hcd hm (tail2_has "object" (by decide +kernel))))
  refine codeAny_call_builtin SF.slot.plain SF.entry (@W.check_slot (model prog w) _ _ ⟨hp, g, d, t, os⟩ "object.__setattr__" "object" "__setattr__" (.ref x) [.str name tk, v] [] _ SF.kind SF.split sub (SF.args (.ref x) (.str name tk) v) ?_)
  have hmr : W.Looks (model prog w) hp (mroOf (.ref C)) cd.mro := (W.looks_clsIn X hcd).andThen .now
  have L3 : W.Looks (model prog w) hp (storeTaker? none) none := .now
  have hpass : refuseLoop (.ref x) "__setattr__" cd.mro = pure () := by
    rw [hm, refuseLoop_ref, refuseLoop_ref]
    exact F.store_Exception.passes _
  rw [W.osa_eq, refuse_eq]
  refine wpAny_bind (wpAny_bind (I.type.at (wpAny_bind (hmr.at ?_))))
  rw [hpass]
  refine wpAny_pure (wpAny_bind (I.type.at (wpAny_bind ((W.looks_findIn X ha).at (wpAny_bind (L3.at ?_))))))
  exact hq
theorem osa_two_new {K : W.Frag} {name : Str} {tk : Tok} {v : Value} {x C M : Addr} {fv : Array Value} {cd : ClassData}
    (X : K.In hp) (hx : hp.get? x = some { cls := .ref C, data := .fields fv }) (hcd : W.clsIn K C = some cd) (hm : cd.mro = .ref C :: .ref M :: exT) (hh : cd.hasDict = true) (ha : W.findIn K (.ref C) name = some none)
    (hq : ∀ h' tk' dx, (∀ b o, b ≠ x → hp.get? b = some o → h'.get? b = some o) → hp.objs.size ≤ dx → dx ≠ x → h'.get? x = some { cls := .ref C, dict := some dx, data := .fields fv } →
      h'.Ns1 dx (fun y => if y = name then some v else none) → R (.ok (.ret .none)) ⟨h', g, d, tk', os⟩) :
    codeAny (model prog w) A (.call (.builtin "object.__setattr__") ⟨[.ref x, .str name tk, v], []⟩) R ⟨hp, g, d, t, os⟩ := by
  have I : W.InstAt hp x { cls := .ref C, data := .fields fv } C none := ⟨hx, rfl, rfl, trivial⟩
  have hxs : x ≠ hp.objs.size := Nat.ne_of_lt (Heap.lt_size hx)
  refine osa_two X I hcd hm ha ?_
  have hcls : W.Looks (model prog w) hp (classData C) cd := W.looks_clsIn X hcd
  obtain ⟨nm, bs, mro, ns, qn, hd, sn, sb, ab, col, del⟩ := cd
  dsimp only at hh
  subst hh
  unfold storeInOwnDict ownDictForStores
  repeat (first | with_reducible refine HandSPX.store_in_new ?_ ?_ | with_reducible refine wpAny_loadPart_at hx ?_ | with_reducible refine hcls.at ?_ | wp_step)
  · exact ⟨_, #[], _, (Heap.get?_update_ne _ _ _ _ hxs.symm).trans (Heap.get?_push_at rfl rfl), rfl, fun e he => absurd he (by simp), fun _ => rfl⟩
  · intro h' tk' hn' hs
    have hx1 : (hp.push { cls := .type "dict", data := .dict #[] }).get? x = some { cls := .ref C, data := .fields fv } := Heap.get?_push_of_some _ hx
    refine hq h' tk' hp.objs.size (fun b o hb ho => ?_) (Nat.le_refl _) hxs.symm ?_ hn'
    · exact (hs.2 b (Nat.ne_of_lt (Heap.lt_size ho))).trans ((Heap.get?_update_ne _ _ _ _ hb).trans (Heap.get?_push_of_some _ ho))
    · exact (hs.2 x hxs).trans (Heap.get?_update_self _ hx1 rfl)
end
end OwX
end PySem

namespace PySem
namespace OwXat
open PySem.W PySem.Calls PyProof.Rows PySem.HandSPX PySem.OwX
/-! ### the text of __init__, for one field -/
def iA (p1 p2 : Pos) : Arguments := { posonlyargs := [], args := [{ arg := "self", annotation := none, pos := p1 }, { arg := "at", annotation := none, pos := p2 }], vararg := none, kwonlyargs := [], kw_defaults := [], kwarg := none, defaults := [] }
def iS : Scope := { kind := .function, names := [(PySem.Str.ofString "self", .local), (PySem.Str.ofString "at", .local), (PySem.Str.ofString "__class__", .free), (PySem.Str.ofString "super", .globalImplicit)], isGenerator := false, isCoroutine := false, more := [] }
def sSup (msg : Str) (p0 p1 p2 p3 p4 p5 : Pos) : Stmt := .Expr (.Call (.Attribute (.Call (.Name "super" p0) [] [] p1) "__init__" p2) [.Constant (.str msg) 0 p3] [] p4) p5
def sStore (q1 q2 q3 q4 : Pos) : Stmt := .Assign [.Attribute (.Name "self" q1) "at" q2] (.Name "at" q3) q4
/-- what the written part says of such a class at C, over the one at M, and of its __init__ at fI -/
structure OexT (P : Program) (K : Frag) (C M fI : Addr) : Prop where
  cls : ∃ nm q N bs sn sub ab col dd k0 k1 k2 k3 k5, K.lookup C = some (excClassObj nm q C N bs (.ref M :: exT) true sn sub ab col dd k0 k1 k2 k3 k5 "Exception.__new__")
  sa : findIn K (.ref C) "__setattr__" = some (some (.builtin "object.__setattr__"))
  ga : findIn K (.ref C) "__getattribute__" = some (some (.builtin "BaseException.__getattribute__"))
  gg : findIn K (.ref C) "__getattr__" = some none
  noN : findIn K (.ref C) "at" = some none
  iC : findIn K (.ref C) "__init__" = some (some (.ref fI))
  tC : typeIn K (.ref fI) = some (.type "function")
  kC : keepIn K (.ref C) = true
  exC : subIn K (.ref C) (.type "BaseException") = some true
  exE : subIn K (.ref C) (.type "Exception") = some true
  tyC : typeIn K (.ref C) = some (.type "type")
  hdC : hasDictIn K C = true
  te : exmOne K (.ref C) (.ref C) = some true
  sI : alongIn K "__init__" (.ref M :: exT) = some (some (.builtin "Exception.__init__"))
  op : nsIn K cStatics "thirdparty.any" = some none
  sup : nsIn K mainGlobals "super" = some none
  top : (P.main.scope.names.lookup ("super" : Str)).isSome = false
  fn : ∃ (qual : Str) (oc : Value) (od : Option Addr) (doc pm : Value) (an : Option Addr) (cda cc : Addr) (ct : Value) (osl : Array (Option Value)) (msg : Str) (p1 p2 r0 r1 r2 r3 r4 r5 q1 q2 q3 q4 : Pos) (ccl cl : Value) (cdd cld : Option Addr) (ccs csl : Array (Option Value)) (vs : Array Value) (tf : Tok),
    K.lookup fI = some ⟨oc, od, .func (ksFn "__init__" qual (iA p1 p2) [sSup msg r0 r1 r2 r3 r4 r5, sStore q1 q2 q3 q4] iS .none .none doc pm an (.ref cda) ct cc), osl⟩ ∧ codeIn K (.ref cda) qual = true ∧
      K.lookup cda = some ⟨ccl, cdd, .fields vs, ccs⟩ ∧ vs[2]? = some (.str P.main.file tf) ∧ K.lookup cc = some ⟨cl, cld, .cell (some (.ref C)), csl⟩ ∧
      (∀ env : Env, ∃ pl : Sem Bool, eval (.Call (.Attribute (.Call (.Name "super" r0) [] [] r1) "__init__" r2) [.Constant (.str msg) 0 r3] [] r4) env = (do
        let ov ← attributeBase (.Call (.Name "super" r0) [] [] r1) "__init__" env (eval (.Call (.Name "super" r0) [] [] r1) env)
        standAt r2.atName
        let (f, first) ← holding [ov] (getMethod ov "__init__" pl)
        callWith r4 f first (backTo r4 (starEach [.Constant (.str msg) 0 r3] env)) [])) ∧
      (∀ env : Env, swapsWith (.Call (.Attribute (.Call (.Name "super" r0) [] [] r1) "__init__" r2) [.Constant (.str msg) 0 r3] [] r4) none r5.line env = pure false) ∧
      (∀ env : Env, swapsWith (.Name "at" q3) (some (.Attribute (.Name "self" q1) "at" q2)) q4.line env = pure false)
/-- what __init__ leaves of a fresh exception at x -/
structure InitEnd (h h' : Heap) (x C dx t1 : Addr) (v : Value) : Prop where
  keep : ∀ b o, b ≠ x → h.get? b = some o → h'.get? b = some o
  obj : h'.get? x = some { cls := .ref C, dict := some dx, data := .fields #[.ref t1, .none, .none, .none, .bool false, .none] }
  dbig : h.objs.size ≤ dx
  dne : dx ≠ x
  ns : h'.Ns1 dx (fun y => if y = "at" then some v else none)
section
variable {prog : Program} {w : World} {A : Around} {E : Value → Shared → Prop} {R : Result → Shared → Prop} {s : Shared} {K : Frag} {mg mb : Str → Option Value} {C M fI : Addr}
theorem inv_init (T : OexT prog K C M fI) {x t0 : Addr} {v : Value} (X : K.In s.heap) (hlim : s.heap.NoLimit) (hg : s.heap.Ns mainGlobals mg) (hb : s.heap.Ns builtinsNs mb) (hbb : ∀ y : Str, y ≠ "__name__" → mb y = bootBuiltins y)
    (hx : s.heap.get? x = some (excO C t0)) (hnx : K.lookup x = none) (hroom : A.depth < recursionLimit)
    (hq : ∀ h' tk dx t1, InitEnd s.heap h' x C dx t1 v → R (.ok (.ret .none)) { s with heap := h', toks := tk }) :
    codeAny (model prog w) A (.call (.ref fI) ⟨[.ref x, v], []⟩) R s := by
  obtain ⟨qual, oc, od, doc, pm, an, cda, cc, ct, osl, msg, p1, p2, r0, r1, r2, r3, r4, r5, q1, q2, q3, q4, ccl, cl, cdd, cld, ccs, csl, vs, tf, ho, hcd, hcda, hvs, hcc, hev, hsw, hsw2⟩ := T.fn
  obtain ⟨nm, q, N, bs, sn, sub, ab, col, dd, k0, k1, k2, k3, k5, hC⟩ := T.cls
  have hcl : clsIn K C = some { name := nm, bases := bs, mro := .ref C :: .ref M :: exT, ns := N, qualname := q, hasDict := true, slotNames := sn, subclasses := sub, abstract := ab, collection := col, hasDel := false } := by unfold clsIn; rw [hC] <;> rfl
  refine ks_codeAny_call_defAt (fd := ksFn "__init__" qual (iA p1 p2) [sSup msg r0 r1 r2 r3 r4 r5, sStore q1 q2 q3 q4] iS .none .none doc pm an (.ref cda) ct cc) (body := [sSup msg r0 r1 r2 r3 r4 r5, sStore q1 q2 q3 q4]) (binds := [("self", .ref x), ("at", v)])
    hroom (X _ _ ho) rfl hlim (codeRec_of X hcd) rfl (BindsTo.of_eq (by first | rfl | with_unfolding_all rfl)) (show ∀ y ∈ iS.names, y.2 ≠ .cell by decide +kernel) (by simp only [List.mem_cons, List.not_mem_nil, or_false]; rintro y (rfl | rfl) <;> rfl) (fun h1 hns hk => ?_) rfl rfl rfl
  have X1 : K.In h1 := X.keeps hk
  have hx1 := hk _ _ hx
  have hD1 : h1.get? C = some (excClassObj nm q C N bs (.ref M :: exT) true sn sub ab col dd k0 k1 k2 k3 k5 "Exception.__new__") := X1 _ _ hC
  have hxC : x ≠ C := fun e => by
    rw [e, hD1] at hx1
    cases hx1
  have hmC : Looks (model prog w) h1 (isSubtype (.ref C) (.ref C)) true := looks_mroIn X1 (OwX.mro2_has hcl rfl (by simp))
  have hmg : mg "super" = none := mg_none_of X hg T.sup
  generalize hen : callEnv (ksFn "__init__" qual (iA p1 p2) [sSup msg r0 r1 r2 r3 r4 r5, sStore q1 q2 q3 q4] iS .none .none doc pm an (.ref cda) ct cc) s.heap.objs.size fI = en
  have en1 : en.scope = iS := by rw [← hen] <;> rfl
  have en2 : en.func = some fI := by rw [← hen] <;> rfl
  have en3 : en.code = .ref cda := by rw [← hen] <;> rfl
  have en4 : en.globals = mainGlobals := by rw [← hen] <;> rfl
  have en5 : en.builtins = builtinsNs := by rw [← hen] <;> rfl
  have en6 : en.cells = [(PySem.Str.ofString "__class__", cc)] := by rw [← hen] <;> rfl
  have en7 : en.locals = s.heap.objs.size := by rw [← hen] <;> rfl
  have kd : ∀ y : Str, en.kindOf y = iS.names.lookup y := fun y => by
    show en.scope.names.lookup y = _
    rw [en1]
  obtain ⟨pl, hev1⟩ := hev en
  -- super()
  refine ks_wpAt_execs_cons (ks_wpAt_Expr_any (ks_wpAt_MethodCall (pl := pl) (ks_wpAt_super_base (hks := by rw [kd]; decide +kernel) (hkc := by rw [kd]; decide +kernel) (hat := by decide) (hfu := en2) (hf := X1 _ _ ho) (hfd := rfl) (hp := rfl) (hco := en3) (hcc := X1 _ _ hcda) (hoc := rfl) (hvs := hvs) (hfile := by simp) (htop := T.top) ?_) hev1) (by unfold interactive; rw [en1]; rfl) (hsw en))
  have kf : en.scope.kind = .function := by rw [en1] <;> rfl
  refine ks_loadName_global kf (by rw [kd]; decide +kernel) (loadGlobal_builtin (by rw [en4]; exact hg.keeps hk) hmg (by rw [en5]; exact hb.keeps hk) ((hbb _ (by decide +kernel)).trans (by decide +kernel)) ⟨rfl, ?_⟩)
  refine wpAny_loadName_free kf (by rw [kd]; decide +kernel) (by rw [en6]; rfl) ⟨_, X1 _ _ hcc, rfl⟩ ?_
  refine wpAny_loadName_local (v := .ref x) kf (show en.kindOf "self" = some .local by rw [kd]; decide +kernel) (by rw [en7]; exact hns) (by rfl) ?_
  refine ks_wpAny_isType_cls hD1 rfl ⟨rfl, ?_⟩
  refine ks_wpAny_call_super hD1 rfl hx1 rfl (fun c e => by cases e) hmC (fun h2 hso k2 => ?_)
  have X2 : K.In h2 := X1.keeps k2
  have hx2 := k2 _ _ hx1
  have I2 : InstAt h2 x (excO C t0) C none := ⟨hx2, rfl, rfl, trivial⟩
  refine ESX.getMethod_super hso (looks_opaque X2 T.op) (l₀ := .ref C :: .ref M :: exT) (l := .ref M :: exT) ?_ (by simp [List.dropWhile_cons]) X2 T.sI hxC (by decide) (I2.type.andThen (looks_subIn X2 T.exE)) ?_
  · exact (looks_clsIn X2 hcl).andThen .now
  refine ESX.callWith_bound (x := x) (first := []) ?_
  refine Calls.spliced_cons (Calls.Constant_str (pos := r3) (k := 0) (Calls.spliced_nil ?_))
  have k3 : ∀ b o, h2.get? b = some o → (h2.push (ESX.bw x)).get? b = some o := fun b o e => Heap.get?_push_of_some _ e
  refine ⟨Heap.get?_push_size _ rfl, ?_⟩
  refine ESX.call_bw (C := C) (e := x) (t0 := t0) (k3 _ _ (k2 _ _ hD1)) (k3 _ _ hx2) (Heap.get?_push_size _ rfl) (by rw [sizeLine_eq]; show (1 : Nat) ≤ 16777216; decide) (fun h4 t1 k4 hx4 => ?_)
  have kk : ∀ b o, b ≠ x → s.heap.get? b = some o → h4.get? b = some o := fun b o hb e => k4 b o hb (k3 b o (k2 b o (hk b o e)))
  have X4 : K.In h4 := fun a o e => kk a o (fun z => by
    rw [z, hnx] at e
    cases e) (X a o e)
  have hns4 : h4.Ns en.locals (fun y => [(PySem.Str.ofString "self", Value.ref x), (PySem.Str.ofString "at", v)].reverse.lookup y) := by
    rw [en7]
    obtain ⟨o, es, ep, e1, e2⟩ := id hns
    exact ⟨o, es, ep, k4 _ _ (fun z => absurd (Heap.lt_size hx) (by rw [← z]; exact Nat.lt_irrefl _)) (k3 _ _ (k2 _ _ e1)), e2⟩
  show wpAt _ _ _ _ _ _ _
  refine wpAt_of_wpAny ?_
  -- self."at" = "at"
  show wpAny _ _ (execs _ _) _ _ _
  refine wpAny_execs_cons (plainObj_wpAny_Assign_Attribute ?_ (hsw2 en))
  refine wpAny_Name (wpAny_loadName_local (v := v) kf (by rw [kd]; decide +kernel) hns4 (by rfl) ?_) (by decide)
  refine wpAny_Name (wpAny_loadName_local (v := .ref x) kf (by rw [kd]; decide +kernel) hns4 (by rfl) ?_) (by decide)
  refine set_plain X4 (ox := excO C t1) (od := none) ⟨hx4, rfl, rfl, trivial⟩ T.sa ?_
  refine OwX.osa_two_new X4 hx4 hcl rfl rfl T.noN (fun h5 tk5 dx k5 dn dne hx5 hn5 => ?_)
  show wpAny _ _ (execs _ _) _ _ _
  refine wpAny_execs_nil (hq h5 tk5 dx t1 ⟨fun b o hb e => k5 b o hb (kk b o hb e), hx5, ?_, dne, hn5⟩)
  obtain ⟨o, es, ep, e1, e2⟩ := hns4
  rw [en7] at e1
  exact Nat.le_trans (Nat.le_of_lt (Heap.lt_size e1)) dn
/-- a made error: what stands at e (its dict at d) -/
structure Made (h h' : Heap) (e C d : Addr) (v : Value) : Prop where
  keep : ∀ b o, h.get? b = some o → h'.get? b = some o
  new : h.objs.size ≤ e
  obj : ∃ oe vs, h'.get? e = some oe ∧ oe.cls = .ref C ∧ oe.dict = some d ∧ oe.data = .fields vs ∧ vs[1]? = some .none
  dbig : h.objs.size ≤ d
  dne : d ≠ e
  ns : h'.Ns1 d (fun y => if y = "at" then some v else none)
theorem inv_made (T : OexT prog K C M fI) {v : Value} (X : K.In s.heap) (hlim : s.heap.NoLimit) (hg : s.heap.Ns mainGlobals mg) (hb : s.heap.Ns builtinsNs mb) (hbb : ∀ y : Str, y ≠ "__name__" → mb y = bootBuiltins y) (hroom : A.depth + 1 < recursionLimit)
    (hq : ∀ h' tk e d, Made s.heap h' e C d v → R (.ok (.ret (.ref e))) { s with heap := h', toks := tk }) :
    codeAny (model prog w) A (.call (.ref C) ⟨[v], []⟩) R s := by
  obtain ⟨nm, q, N, bs, sn, sub, ab, col, dd, k0, k1, k2, k3, k5, hC⟩ := T.cls
  obtain ⟨hp, g, dr, tk, os⟩ := s
  have k : ∀ b o, hp.get? b = some o → ((hp.push (kdv_tup [v])).push (excO C hp.objs.size)).get? b = some o := fun b o e => Heap.get?_push_of_some _ (Heap.get?_push_of_some _ e)
  have hget : ((hp.push (kdv_tup [v])).push (excO C hp.objs.size)).get? (hp.objs.size + 1) = some (excO C hp.objs.size) := by heap_get
  have hnx : K.lookup (hp.objs.size + 1) = none := by
    cases e : K.lookup (hp.objs.size + 1) with
    | none => rfl
    | some o =>
      have z : hp.get? (hp.objs.size + 1) = some o := X _ _ e
      exact absurd (Nat.lt_of_succ_lt (Heap.lt_size z)) (Nat.lt_irrefl _)
  refine call_own F.excBase_Exception (bm := .ref M :: exT) (fun Y => by rw [List.contains_cons]; rfl) (X _ _ hC) (looks_findIn X T.iC) (fun self => bind_fn X self T.tC) (by rw [sizeLine_eq]; show (1 : Nat) ≤ 16777216; decide) ?_
  refine inv_init (s := ⟨(hp.push (kdv_tup [v])).push (excO C hp.objs.size), g, dr, tk, os⟩) T (X.keeps k) (hlim.keeps k) (hg.keeps k) (hb.keeps k) hbb hget hnx ?_ fun h' tk' dx t1 ⟨k', hx, dn, dne, hns⟩ => ?_
  · show A.depth + 1 < recursionLimit
    exact hroom
  · have old : ∀ b o, hp.get? b = some o → h'.get? b = some o := fun b o e => k' b o (Nat.ne_of_lt (Nat.lt_succ_of_lt (Heap.lt_size e))) (k b o e)
    have z : hp.objs.size + 1 + 1 ≤ dx := by
      have q := dn
      rw [Heap.size_push, Heap.size_push] at q
      exact q
    exact ⟨rfl, hq h' tk' (hp.objs.size + 1) dx ⟨old, Nat.le_succ _, ⟨_, _, hx, rfl, rfl, rfl, rfl⟩, Nat.le_trans (Nat.le_trans (Nat.le_succ _) (Nat.le_succ _)) z, dne, hns⟩⟩
end
end OwXat
end PySem

namespace Own
open PySem PySem.Spec PyProof.Rows L2
theorem relO_at {v : V} {v' : Value} (r : RelV v v') (f : Str) : RelO (List.lookup f [(("at" : Str), v)]) (if f = "at" then some v' else none) := by
  by_cases hw : f = "at"
  · subst hw
    rw [if_pos rfl]
    have q : List.lookup ("at" : Str) [(("at" : Str), v)] = some v := by simp [List.lookup]
    rw [q]
    exact r
  · rw [if_neg hw]
    have qw : (f == ("at" : Str)) = false := by simpa using hw
    have q2 : List.lookup f [(("at" : Str), v)] = none := by simp [List.lookup, qw]
    rw [q2]
    trivial
/-- C(e) -/
def tMk_at (C : Addr) (ta : TA) : L2.St → Hp → XK → Prop := fun σ H Q => ta σ H fun vs H1 => ∃ v, vs = [v] ∧ ∀ d, H1 d = none → Q (.ref C) (some d) (upd H1 d (.xd [(("at" : Str), v)]))
section
variable {X : Cx} {C M fI : Addr} {nm : Str}
theorem pmk_at {a : Expr} {ta : TA} {p pos : Pos} {k : Nat} (T : PySem.OwXat.OexT X.prog X.K C M fI) (gC : X.mg nm = some (.ref C)) (hr : Room k X.A) (ha : PA X [a] ta) (hg : Gl X nm) (hdb : (nm == ("__debug__" : Str)) = false := by decide)
    (he : starEach (a :: []) X.env = (false, eval a X.env) :: starEach [] X.env := by rfl) (hpl : (backTo pos (starEach [] X.env)).any (·.1) = false := by rfl) :
    PMk X (.Call (.Name nm p) [a] [] pos) (tMk_at C ta) := by
  intro pins s σ H Q I h
  refine wpAny_Call_Name_kw (ld_glob I hg gC ?_ hdb)
  refine PySem.W.callWith_K (h₀ := X.base) I.ok.mod.kin T.kC (thn (ha.run pos pins s σ H _ I h) fun us s1 hh => ?_) he hpl
  obtain ⟨vs, H1, I1, r1, v, ev, q1⟩ := hh
  subst ev
  refine ⟨I1.kIn, ?_⟩
  cases r1 with
  | cons rv rn =>
    rename_i v' us'
    cases rn
    show wpAny _ _ (call (.ref C) [v']) _ _ _
    have hlim := I1.nolimit
    obtain ⟨mb, hb, hbb⟩ := I1.ok.mod.blt
    have hg1 := I1.ok.mod.glob.keeps I1.bk
    have hb1 := hb.keeps I1.bk
    obtain ⟨hp, g, dr, tk, os⟩ := s1
    refine wpAny_call (PySem.OwXat.inv_made T I1.kIn hlim hg1 hb1 hbb (by have := hr.dp; omega) fun h' tk' e d M => ?_)
    show MkP X pins σ Q (.ref e) ⟨h', g, dr, tk', os⟩
    obtain ⟨oe, fv, hoe, hc, hd, hdat, h1⟩ := M.obj
    have hns := M.ns
    obtain ⟨G', g1, g2⟩ := restrict h' fun b => decide (b ≠ e)
    have gk : ∀ b, b ≠ e → G'.get? b = h'.get? b := fun b hb => g1 b (decide_eq_true hb)
    have ge : G'.get? e = none := g2 e (by simp)
    have old : ∀ b o, hp.get? b = some o → G'.get? b = some o := fun b o q => (gk b (Nat.ne_of_lt (Nat.lt_of_lt_of_le (Heap.lt_size q) M.new))).trans (M.keep b o q)
    have ob : ObjOk X.prog X.w (upd H1 d (.xd [(("at" : Str), v)])) G' d (.xd [(("at" : Str), v)]) :=
      ⟨_, hns.at (fun o q => (gk d M.dne).trans q), fun f => relO_at rv f⟩
    have J : Inv X pins σ (upd H1 d (.xd [(("at" : Str), v)])) ⟨G', g, dr, tk', os⟩ := I1.laid (t' := tk') old M.dbig ob
    refine ⟨e, oe, fv, ⟨G', g, dr, tk', os⟩, _, .ref C, some d, rfl, J, fun b o q => ?_, ge, hoe, ⟨hc, hd⟩, hdat, h1, ?_, rfl, I1.bare, raises_own T.exC T.tyC, q1 d (I1.hok.fresh M.dbig)⟩
    · by_cases hb : b = e
      · have q' : G'.get? b = some o := q
        rw [hb, ge] at q'
        cases q'
      · exact (gk b hb).symm.trans q
    · rw [upd_ne (Ne.symm M.dne)]
      exact I1.hok.fresh M.new
/-- e."at" of the exception that the suite holds -/
def tBy_at (C : Addr) (a : Addr) (cls : Value) (d : Option Addr) (te : TE) : TE := fun σ H Q => te σ H fun x H1 => x = .ref a ∧ cls = .ref C ∧ ∃ (dd : Addr) (v : V), d = some dd ∧ H1 dd = some (.xd [(("at" : Str), v)]) ∧ Q v H1
theorem pe_by_at {a : Addr} {oe : Obj} {cls : Value} {d : Option Addr} {pn : List (Addr × Obj)} {e : Expr} {te : TE} {pos : Pos} (T : PySem.OwXat.OexT X.prog X.K C M fI) (hz : Zc cls d oe) (hf : ∃ vs, oe.data = .fields vs) (he : PE (X.suite a ((a, oe) :: pn)) e te)
    (hb : attributeBase e "at" X.env (eval e X.env) = eval e X.env := by rfl) :
    PE (X.suite a ((a, oe) :: pn)) (.Attribute e "at" pos) (tBy_at C a cls d te) := by
  refine ⟨fun pins s σ H Q I h => ?_⟩
  refine attr_of hb (thn (he.run pins s σ H _ I h) fun u s1 hh => ?_)
  obtain ⟨x, H1, I1, rx, ex, ec, dd, v, ed, ea, q⟩ := hh
  subst ex
  obtain rfl : u = Value.ref a := rx
  subst ec
  subst ed
  obtain ⟨ha, _⟩ := I1.pin (a, oe) (List.mem_append_left _ List.mem_cons_self)
  obtain ⟨vs, hd⟩ := hf
  have hx : ObjOk X.prog X.w H1 s1.heap dd (.xd [(("at" : Str), v)]) := I1.hok dd _ ea
  obtain ⟨mA, hns, hr⟩ := hx
  obtain ⟨od, ho, hl⟩ := lookIn_ns hns
  have l : List.lookup ("at" : Str) [(("at" : Str), v)] = some v := by simp [List.lookup]
  obtain ⟨u, hu, ru⟩ := RelO.some_of (v := v) (o := mA "at") (by rw [← l]; exact hr "at")
  have J : PySem.W.InstAt s1.heap a oe C (some od) := ⟨ha, hz.1, by unfold PySem.W.notCls; rw [hd] <;> rfl, by rw [hz.2]; exact ho⟩
  exact PySem.HandSPX.exc_get I1.kIn J T.ga T.gg T.exC (PySem.W.findObj_own T.hdC T.noN rfl (by rw [hl, hu])) (handed_of ru) ⟨v, H1, I1.tok _, ru, q⟩
end
end Own

namespace Own
open PySem PySem.Spec PyProof.Rows L2 Evl
/-! ### a def of the text and its promise, by its name -/
def Fn (P : Program) (w : World) (K : PySem.W.Frag) (mg : Str → Option Value) (base : Heap) (CX : CXT) (k : Nat) (x : Str) (st : Stmt) (ps : List Str) (sp : Sp) : Prop :=
  ∃ f fd, mg x = some (.ref f) ∧ FunD K x x (defArgs st) (defBody st) (defScope st) [] [] f fd ∧ Binds K fd ps [] ∧ FnOk P w K mg base CX k f fd ps sp
section
variable {X : Cx} {CX : CXT} {k : Nat} {ps ks : List Str} {sp : Sp} {E : XK} {x : Str} {st : Stmt} {p pos : Pos} {e : Expr} {es : List Expr} {t tk : TA}
theorem Fn.imp {P : Program} {w : World} {K : PySem.W.Frag} {mg : Str → Option Value} {base : Heap} {sp' : Sp} (F : Fn P w K mg base CX k x st ps sp) (h : ∀ vs H Q E, sp' vs H Q E → sp vs H Q E) : Fn P w K mg base CX k x st ps sp' := by
  obtain ⟨f, fd, h1, h2, h3, h4⟩ := F
  exact ⟨f, fd, h1, h2, h3, h4.imp h⟩
theorem Fn.mono {P : Program} {w : World} {K : PySem.W.Frag} {mg : Str → Option Value} {base : Heap} {j : Nat} (F : Fn P w K mg base CX j x st ps sp) (h : j ≤ k) : Fn P w K mg base CX k x st ps sp := by
  obtain ⟨f, fd, h1, h2, h3, h4⟩ := F
  exact ⟨f, fd, h1, h2, h3, h4.mono h⟩
theorem pe_callF (F : Fn X.prog X.w X.K X.mg X.base CX k x st ps sp) (hr : Room k X.A) (hg : Gl X x) (hx : Passes CX X E) (ha : PA X (e :: es) t) (hdb : (x == ("__debug__" : Str)) = false := by decide)
    (he : starEach (e :: es) X.env = (false, eval e X.env) :: starEach es X.env := by rfl) (hpl : (backTo pos (starEach es X.env)).any (·.1) = false := by rfl) :
    PE X (.Call (.Name x p) (e :: es) [] pos) (tCall sp [] E t) := by
  obtain ⟨f, fd, h1, h2, h3, h4⟩ := F
  exact pe_call h4 hr hg h1 h2.kp h3 .nil hx ha hdb he hpl
theorem pe_call0F (F : Fn X.prog X.w X.K X.mg X.base CX k x st ps sp) (hr : Room k X.A) (hg : Gl X x) (hx : Passes CX X E) (hdb : (x == ("__debug__" : Str)) = false := by decide) : PE X (.Call (.Name x p) [] [] pos) (tCall sp [] E tNil) := by
  obtain ⟨f, fd, h1, h2, h3, h4⟩ := F
  exact pe_call0 h4 hr hg h1 h2.kp h3 .nil hx hdb
/-- the values in the parameters' order -/
def pick {α : Type} (n : Nat) (ix : List Nat) (us ws : List α) : List α := match us with
  | [] => if ws.length = n then ix.filterMap fun i => ws[i]? else []
  | _ :: _ => []
theorem pick_rel {n : Nat} {ix : List Nat} {vs : List V} {us : List Value} {zs : List V} {ws : List Value} (r1 : Vals vs us) (r2 : Vals zs ws) : Vals (pick n ix vs zs) (pick n ix us ws) := by
  cases r1 with
  | cons a b => exact .nil
  | nil =>
    show Vals (if zs.length = n then ix.filterMap fun i => zs[i]? else []) (if ws.length = n then ix.filterMap fun i => ws[i]? else [])
    rw [← r2.length]
    by_cases h : zs.length = n
    · rw [if_pos h, if_pos h]
      clear h
      induction ix with
      | nil => exact .nil
      | cons i r ih =>
        rw [List.filterMap_cons, List.filterMap_cons]
        cases e : zs[i]? with
        | none =>
          rw [r2.none_of e]
          exact ih
        | some v =>
          obtain ⟨u, hu, ru⟩ := r2.get e
          rw [hu]
          exact .cons ru ih
    · rw [if_neg h, if_neg h]
      exact .nil
theorem kb_of {K : PySem.W.Frag} {qual : Str} {params : Arguments} {body : List Stmt} {scope : Scope} {f : Addr} {fd : FuncData} (n : Nat) (ix : List Nat) (F : FunD K x qual params body scope [] [] f fd) (hps : ps ≠ [])
    (h : ∀ (kV doc pm : Value) (an : Option Addr) (cdv ct : Value) (ws : List Value), ws.length = n → bindArgs (PySem.W.fnOf x qual params body scope .none kV doc pm an cdv ct) ⟨[], ks.zip ws⟩ = pure (ps.zip (ix.filterMap fun i => ws[i]?))) :
    KBinds K fd ps ks (pick n ix) (pick n ix) := by
  refine ⟨fun s us ws _ hl => ?_, fun r1 r2 => pick_rel r1 r2⟩
  obtain ⟨oc, od, dV, kV, doc, pm, an, cdv, ct, osl, rfl, lk, hcd, hD, hK⟩ := F.ex
  have no : ¬ (([] : List Value).length = ps.length) := fun e => hps (List.eq_nil_of_length_eq_zero e.symm)
  rcases hD with ⟨_, rfl⟩ | ⟨e, _⟩
  · cases us with
    | cons a b => exact absurd hl no
    | nil =>
      by_cases hw : ws.length = n
      · have e : pick n ix ([] : List Value) ws = ix.filterMap fun i => ws[i]? := if_pos hw
        rw [e]
        exact .of_eq (h kV doc pm an cdv ct ws hw)
      · have e : pick n ix ([] : List Value) ws = [] := if_neg hw
        rw [e] at hl
        exact absurd hl no
  · exact absurd rfl e
theorem pe_call0KF {n : Nat} {ix : List Nat} {kws : List Keyword} (F : Fn X.prog X.w X.K X.mg X.base CX k x st ps sp) (hr : Room k X.A) (hb : ∀ {f : Addr} {fd : FuncData}, FunD X.K x x (defArgs st) (defBody st) (defScope st) [] [] f fd → KBinds X.K fd ps ks (pick n ix) (pick n ix)) (hx : Passes CX X E)
    (hkw : PK X kws tk) (hg : Gl X x := by rfl) (hall : (backToKw pos (keywordEach kws X.env)).all (·.1.isSome) = true := by rfl) (hks : (backToKw pos (keywordEach kws X.env)).filterMap (·.1) = ks := by rfl)
    (hdb : (x == ("__debug__" : Str)) = false := by decide) (hpl : ((backTo pos (starEach [] X.env)).any (·.1) || (backToKw pos (keywordEach kws X.env)).any (·.1.isNone)) = false := by rfl) : PE X (.Call (.Name x p) [] kws pos) (tCall0K sp (pick n ix) E tk) := by
  obtain ⟨f, fd, h1, h2, h3, h4⟩ := F
  exact pe_call0K h4 hr hg h1 h2.kp (hb h2) hx hkw hall hks hdb hpl
end
/-! ### promises that leave all that was known -/
/-- a new tuple -/
def RetU (K : PySem.W.Frag) (xs : List V) (H : Hp) (Q : VK) : Prop := ∀ p H2, Ex H H2 → Tp K H2 p xs → Q (.ref p) H2
theorem RetU.new {K : PySem.W.Frag} {xs : List V} {H H1 : Hp} {Q : VK} (k : RetU K xs H Q) (e : Ex H H1) : NewT xs H1 Q := fun p o hp ho => k p _ (e.trans (Ex.new hp)) (Tp.of ho upd_same)
theorem Tp.ex {K : PySem.W.Frag} {H H1 : Hp} {p : Addr} {xs : List V} (h : Tp K H p xs) (e : Ex H H1) : Tp K H1 p xs := by
  rcases h with ⟨o, h1, h2⟩ | h
  · exact .inl ⟨o, h1, e _ _ h2⟩
  · exact .inr h
theorem NewT.any {xs ys : List V} {H : Hp} {Q : VK} (h : NewT xs H Q) (e : xs = ys) : NewT ys H Q := e ▸ h
/-! ### comprehensions that change nothing that was known -/
section
variable {K : PySem.W.Frag} {J : It} {n : Nat} {G : Hp → Prop} {Y : Nat → Hp → V → Hp → Prop} {g : TG} {tt : TT} {te : TE} {vs : List Nat} {σ : L2.St} {H : Hp}
/-- what a comprehension gives, from the list it walks -/
theorem lcP {Q : Addr → Hp → Prop} (w : Walk J n G Y) (hG : ∀ H', Ex H H' → G H') (hn : n ≤ 40000) (f : Nat → Bool) (v : Nat → V)
    (turn : ∀ i H1 x H2, i < n → Ex H H1 → Y i H1 x H2 → ∀ (K1 : VK) (K0 : Hp → Prop), (f i = true → ∀ H5, Ex H1 H5 → K1 (v i) H5) → (f i = false → ∀ H5, Ex H1 H5 → K0 H5) →
      g x (wipe σ vs) H2 fun σ2 H3 => wipe σ2 vs = wipe σ vs ∧ tt σ2 H3 fun b H4 => if b = true then te σ2 H4 K1 else K0 H4)
    (q : ∀ p H2, H p = none → Ex H H2 → H2 p = some (.lst (given n f v)) → Q p H2) :
    ∀ D, H D = none → ∃ W : Nat → Nat → Hp → Prop, (∃ m, W 0 m (upd H D (.lst []))) ∧ ∀ i m H, W i m H →
      (J.stop i H ∧ Q D H) ∨ (J.go i H ∧ ∃ Nx : Hp → Prop, (∀ H', Nx H' → ∃ m', m' < m ∧ W (i + 1) m' H') ∧ ∀ x H', J.yld i H x H' → g x (wipe σ vs) H' fun σ2 H2 => wipe σ2 vs = wipe σ vs ∧ tt σ2 H2 fun b H3 =>
        if b = true then te σ2 H3 fun y H4 => ∃ acc, H4 D = some (.lst acc) ∧ acc.length < sizeLine ∧ Nx (upd H4 D (.lst (acc ++ [y]))) else Nx H3) := fun D hD =>
  lc_it w (Cw H f v D) ⟨hD, Ex.new hD, upd_same⟩ (fun i H' _ p => hG H' p.2.1) (fun i x H1 H2 hi p y => by
    obtain ⟨p1, p2, p3⟩ := p
    refine turn i H1 x H2 hi p2 y _ _ (fun hf H5 e5 => ?_) (fun hf H5 e5 => ?_)
    · refine ⟨given i f v, e5 D _ p3, sz_lt (by have := given_len i f v; omega), p1, Ex.mut (p2.trans e5) p1, ?_⟩
      rw [given_yes hf]
      exact upd_same
    · refine ⟨p1, p2.trans e5, ?_⟩
      rw [given_no hf]
      exact e5 D _ p3) (fun H' p => q D H' p.1 p.2.1 p.2.2)
end
theorem yes_go {te : TE} {σ : L2.St} {H : Hp} {K1 : VK} {K0 : Hp → Prop} (h : te σ H K1) : tYes σ H (fun b H4 => if b = true then te σ H4 K1 else K0 H4) := by
  show (if true = true then te σ H K1 else K0 H)
  rw [if_pos rfl]
  exact h
theorem given_all (n : Nat) (v : Nat → V) : given n (fun _ => true) v = (List.range n).map v := by
  unfold given
  rw [List.filter_eq_self.mpr (by simp)]
end Own

/-! More rules: int(long text), text * int, list(range(n)), tuple(reversed(list)). -/
namespace PySem
namespace OwI
open PySem PySem.W PySem.Calls PySem.NumText PyProof.Rows
theorem wp_long {M : Model} {A : Around} {E : Value → Shared → Prop} {s : Shared} {Q : Value → Shared → Prop} {v : Value} {text : List Nat} {n : Int}
    (hs : ¬ (text.takeWhile (· != 0)).length ≤ 640) (hr : (int_private% "readNumeral") 4300 10 (text.takeWhile (· != 0)) = (int_private% "Numeral.value") n)
    (ha : ((text.takeWhile (· != 0)).length == text.length) = true) (hk : Looks M s.heap (nsGet cStatics "sys.int_max_str_digits") none) (h : Q (.int n s.toks) { s with toks := s.toks + 1 }) :
    wpAny M A ((int_private% "intFromText") v text 10) Q E s := by
  have hlim : ∀ {Q' : Nat → Shared → Prop}, Q' 4300 s → wpAny M A Builtin.intMaxStrDigits Q' E s := fun {Q'} q => by
    unfold Builtin.intMaxStrDigits
    exact wpAny_bind (hk.at (wpAny_pure q))
  obtain ⟨hp, g, d, tk, os⟩ := s
  repeat (any_goals (first
    | assumption
    | (with_reducible refine wpAny_ite_false (decide_eq_false hs) ?_)
    | (with_reducible refine wpAny_ite_true (decide_eq_true ha) ?_)
    | (with_reducible refine hlim ?_)
    | wp_step))
  all_goals (try rw [hr])
  all_goals (try dsimp only)
  repeat (any_goals (first
    | assumption
    | (with_reducible refine wpAny_ite_false (decide_eq_false hs) ?_)
    | (with_reducible refine wpAny_ite_true (decide_eq_true ha) ?_)
    | wp_step))
structure Hid (p : Prop) : Prop where
  out : p
theorem meets_long {x : PySem.Str} {u : Tok} {n : Int} (hl : x.length ≤ sizeLine) (hl2 : ¬ (numSeenOf x).length ≤ 640) (hn : PySem.intText? x = some n) :
    Meets (Builtin.«int.__new__» ⟨[.type "int", .str x u], []⟩) (fun _ R s => (∀ M : Model, Looks M s.heap (nsGet cStatics "sys.int_max_str_digits") none) ∧ R (.ok (.ret (.int n s.toks))) { s with toks := s.toks + 1 }) :=
  .of_wp fun prog w A R s h => by
    obtain ⟨hk, h⟩ := h
    obtain ⟨hp, g, d, tk, os⟩ := s
    have f1 := F.conv_sub_int
    have f2 := F.madeHere_int
    have f3 := KIN.str_int
    have f4 := KIN.str_idx
    have f5 := KIN.str_trunc
    have f6 : typeOf (.str x u) = pure (.type "str") := rfl
    have hr : (int_private% "readNumeral") 4300 10 (numSeenOf x) = (int_private% "Numeral.value") n ∧ ((numSeenOf x).length == (numTextOf x).length) = true := by
      rcases read4300 x hl with ⟨m, h1, h2, h3⟩ | ⟨h1, _⟩
      · rw [hn] at h1
        injection h1 with h1
        subst h1
        exact ⟨h3, h2⟩
      · rw [hn] at h1
        cases h1
    have hd := Hid.mk (And.intro hl2 hr)
    have hk' := Hid.mk hk
    clear hr hl hl2 hn hk
    repeat (any_goals (first
      | assumption
      | ((with_reducible show wpAny _ _ ((int_private% "intFromText") _ _ _) _ _ _); refine wp_long hd.out.1 hd.out.2.1 hd.out.2.2 (hk'.out _) ?_)
      | wp_step))
    all_goals first | exact ⟨_, rfl, h⟩ | skip
end OwI
end PySem
namespace Own
open PySem PySem.Spec PyProof.Rows L2 Evl
section
variable {X : Cx}
/-- int(text), up to 4,300 figures -/
def rIntS : List V → Hp → VK → Prop := fun xs H Q => ∃ a n, xs = [.str a] ∧ PySem.intText? a = some n ∧ a.length ≤ 4300 ∧ (numSeenOf a).length = a.length ∧ Q (.int n) H
theorem call_intS (hk : PySem.W.nsIn X.K cStatics "sys.int_max_str_digits" = some none) : CallR X (.type "int") rIntS := by
  intro pins s σ H xs us Q I rs h
  obtain ⟨a, n, rfl, hn, hl, hse, h⟩ := h
  cases rs with
  | cons r1 rs =>
    cases rs
    obtain ⟨t, rfl⟩ := r1
    by_cases h6 : (numSeenOf a).length ≤ 640
    · exact PySem.W.KIN.call_text hn (by omega) ⟨.int n, H, I.tok _, ⟨_, rfl⟩, h⟩
    · exact PySem.call_int_1 (PySem.OwI.meets_long (by rw [sizeLine_eq]; omega) h6 hn) ⟨fun M => PySem.W.looks_nsIn I.kIn hk, ⟨rfl, .int n, H, I.tok _, ⟨_, rfl⟩, h⟩⟩
/-- text * k -/
def repS (a : Str) (n : Nat) : Str := ⟨(List.replicate n a.cps).foldl (· ++ ·) #[]⟩
theorem repS_len (a : Str) : ∀ (n : Nat) (acc : Array Nat), ((List.replicate n a.cps).foldl (· ++ ·) acc).size = acc.size + n * a.cps.size
  | 0, acc => by simp
  | n + 1, acc => by
    rw [List.replicate_succ, List.foldl_cons, repS_len a n, Array.size_append, Nat.succ_mul]
    omega
theorem repS_length (a : Str) (n : Nat) : (repS a n).length = n * a.length := by
  show ((List.replicate n a.cps).foldl (· ++ ·) #[]).size = n * a.cps.size
  rw [repS_len]
  simp
theorem repS_mem {a : Str} {c : Nat} : ∀ (n : Nat) (acc : Array Nat), c ∈ ((List.replicate n a.cps).foldl (· ++ ·) acc).toList → c ∈ acc.toList ∨ c ∈ a.cps.toList
  | 0, acc, h => .inl h
  | n + 1, acc, h => by
    rw [List.replicate_succ, List.foldl_cons] at h
    rcases repS_mem n _ h with h | h
    · rw [Array.toList_append, List.mem_append] at h
      exact h
    · exact .inr h
def rRepS : R2 := fun x y H Q => ∃ a k, x = .str a ∧ y = .int k ∧ 0 ≤ k ∧ k ≤ 10000 ∧ a.length ≤ 1000 ∧ Q (.str (repS a k.toNat)) H
theorem op_repS : OpR X (binaryOp .Mult) rRepS := by
  intro pins s σ H x y v u Q I rx ry h
  obtain ⟨a, k, rfl, rfl, h0, h1, hz, q⟩ := h
  obtain ⟨t, rfl⟩ := rx
  obtain ⟨t2, rfl⟩ := ry
  have hm : a.length * k.toNat ≤ 1000 * 10000 := Nat.mul_le_mul hz (by omega)
  refine PySem.P.mul_str (by rw [decide_eq_false (by omega), decide_eq_false (by omega)] <;> rfl) (fun _ _ => ?_) (fun _ _ => ?_) ?_
  · have : (a.length : Int) ≤ 1000 := by omega
    have : (1000 : Int) ≤ (2 ^ 63 - 1) / k := by
      by_cases hk : k = 0
      · omega
      · exact Int.le_ediv_of_mul_le (by omega) (by omega)
    omega
  · unfold Builtin.Str.tooLong
    first
      | exact decide_eq_false (by rw [sizeLine_eq]; omega)
      | exact decide_eq_false (by omega)
  · by_cases h1' : k < 1
    · rw [if_pos h1']
      have e0 : repS a k.toNat = Str.empty := by
        rw [show k.toNat = 0 by omega]
        rfl
      rw [e0] at q
      exact ⟨by decide, .str Str.empty, H, I.tok _, ⟨_, rfl⟩, q⟩
    · rw [if_neg h1']
      by_cases h2 : (k == 1 || a.length == 0) = true
      · rw [if_pos h2]
        have e0 : repS a k.toNat = a := by
          rcases Bool.or_eq_true_iff.mp h2 with h3 | h3
          · have : k.toNat = 1 := by
              have := eq_of_beq h3
              omega
            rw [this]
            show (⟨#[] ++ a.cps⟩ : Str) = a
            rw [Array.empty_append]
          · have h4 : a.cps = #[] := Array.eq_empty_of_size_eq_zero (eq_of_beq h3)
            show (⟨(List.replicate k.toNat a.cps).foldl (· ++ ·) #[]⟩ : Str) = a
            have h5 : (List.replicate k.toNat a.cps).foldl (· ++ ·) #[] = #[] := Array.eq_empty_of_size_eq_zero (by
              rw [repS_len, h4]
              simp)
            rw [h5]
            cases a
            simp only at h4
            rw [h4]
        rw [e0] at q
        exact ⟨.str a, H, I.tok _, ⟨_, rfl⟩, q⟩
      · rw [if_neg h2]
        exact ⟨by
          have := repS_length a k.toNat
          show (repS a k.toNat).length ≤ sizeLine
          rw [this, sizeLine_eq, Nat.mul_comm]
          omega, .str (repS a k.toNat), H, I.tok _, ⟨_, rfl⟩, q⟩
/-- list(range(n)) -/
theorem pe_list_range {e : Expr} {te : TE} {p pos p2 pos2 : Pos} (hm : X.mg "list" = none) (hm2 : X.mg "range" = none) (he : PE X e te) (hc : X.calm = true := by rfl) (hg : Gl X "list" := by rfl) (hg2 : Gl X "range" := by rfl)
    (na : starEach [e] X.env = (false, eval e X.env) :: starEach [] X.env := by rfl) (na2 : starEach [.Call (.Name "range" p2) [e] [] pos2] X.env = (false, eval (.Call (.Name "range" p2) [e] [] pos2) X.env) :: starEach [] X.env := by rfl) :
    PE X (.Call (.Name "list" p) [.Call (.Name "range" p2) [e] [] pos2] [] pos) (tLstRg (tRg1 te)) := pe_listRg hc hg hm (prg_1 hg2 hm2 he na) na2
/-- tuple(reversed(xs)) -/
def tTupRev (K : PySem.W.Frag) (ta : TA) : TE := fun σ H Q => ta σ H fun vs H1 => ∃ (a : Addr) (xs : List V), vs = [.ref a] ∧ SqL K H1 a xs ∧ NewT xs.reverse H1 Q
theorem pe_tuple_reversed {e : Expr} {ta : TA} {p pos p2 pos2 : Pos} (hm : X.mg "tuple" = none) (hm2 : X.mg "reversed" = none) (ha : PA X [e] ta) (hc : X.calm = true := by rfl) (hg : Gl X "tuple" := by rfl) (hg2 : Gl X "reversed" := by rfl)
    (hs : starEach [e] X.env = [(false, eval e X.env)] := by rfl) (na2 : starEach [.Call (.Name "reversed" p2) [e] [] pos2] X.env = (false, eval (.Call (.Name "reversed" p2) [e] [] pos2) X.env) :: starEach [] X.env := by rfl) :
    PE X (.Call (.Name "tuple" p) [.Call (.Name "reversed" p2) [e] [] pos2] [] pos) (tTupRev X.K ta) := by
  refine ⟨fun pins s σ H Q I h => ?_⟩
  refine Call_ (ld_blt I hg hm boot_tuple (PyProof.Rows.callWith_type1 (args_cons (Call_ (ld_blt (I.tok _) hg2 hm2 PyProof.Rows.boot_reversed (PyProof.Rows.callWith_type1 (thn (ha.run pos2 pins _ σ H _ (I.tok _) h) fun us s1 ⟨vs, H1, I1, r1, q1⟩ => ?_) hs rfl))) na2) na2))
  obtain ⟨a, xs, e, hq, q⟩ := q1
  subst e
  cases r1 with
  | cons r rr =>
    cases rr
    cases r
    obtain ⟨its, rv, pl, hz⟩ := I1.list hq
    have hl := rv.length
    refine call_reversed_list pl.isList (args_nil ?_)
    have hlt : a < s1.heap.objs.size := by
      obtain ⟨o, n, e, _⟩ := pl
      exact Heap.lt_size e
    obtain ⟨oL, nL, eL, cL, dL, sL⟩ := id pl
    refine RT.call_tuple_rev (l := a) (items := its.toArray) (I1.ok.hd hc) ⟨_, Heap.get?_push_size _ rfl, rfl, rfl⟩ ?_ (Nat.ne_of_lt hlt) (by rw [List.size_toArray, ← hl]; exact hz) (fun h' tk acc hk hacc => ?_)
    · obtain ⟨n9, h9, h8⟩ := pl.isList
      exact ⟨n9, Heap.get?_push_of_some _ h9, h8⟩
    · have I2 : Inv X pins σ H1 { s1 with heap := h', toks := tk } := I1.kept (fun b o e => hk b o (Nat.ne_of_lt (Heap.lt_size e)) (Heap.get?_push_of_some _ e))
      have rr : Vals xs.reverse acc.toList := by
        obtain ⟨h1, h2⟩ := hacc
        refine vals_of_at (by rw [List.length_reverse, Array.length_toList]; exact hl.trans ((List.size_toArray ..).symm.trans h1.symm)) (fun j x u hx hu => ?_)
        have hj := h2 j u (by simpa using hu)
        have hj2 : j < xs.length := by
          have := (List.getElem?_eq_some_iff.mp hx).1
          rw [List.length_reverse] at this
          exact this
        rw [List.getElem?_reverse hj2] at hx
        obtain ⟨u2, hu2, ru⟩ := rv.get hx
        have : its[xs.length - 1 - j]? = some u := by
          rw [hl]
          simpa using hj
        rw [hu2] at this
        cases this
        exact ru
      have z := newT_end (tk := tk) I2 rr (by rw [List.length_reverse]; exact hz) q
      rw [Array.toArray_toList] at z
      exact z
end
end Own

namespace Own
open PySem PySem.Spec PyProof.Rows L2 Evl
/-! ### data -/
theorem dp_ints {K : PySem.W.Frag} {H : Hp} : ∀ ns : List Int, DpAll K H (ns.map V.int) (ns.map PyData.int)
  | [] => .nil
  | n :: r => .cons (.int n) (dp_ints r)
theorem eqv_ints_nil (ns : List Int) : PyData.eqv (.list (ns.map PyData.int)) (.list []) = ns.isEmpty := by
  cases ns <;> rfl
/-! ### where draws come from: a list [digits, mix, count] at a, the digits at l -/
structure Deal (N : Nat) (H : Hp) (a l : Addr) : Prop where
  ne : a ≠ l
  at_ : ∃ (cs ms : List Int), H a = some (.lst (.ref l :: ms.map V.int)) ∧ H l = some (.lst (cs.map V.int)) ∧ (∀ x ∈ cs, 0 ≤ x) ∧ ms.length = N ∧ cs.length ≤ 100
/-- R: what is known and stays; the deal beside it -/
structure Wl (N : Nat) (a l : Addr) (R H : Hp) : Prop where
  ex : Ex R H
  na : R a = none
  nl : R l = none
  deal : Deal N H a l
section
variable {N : Nat} {a l : Addr} {R R1 H H1 : Hp} {p : Addr} {o o' : HO}
theorem Deal.dom (d : Deal N H a l) : H a ≠ none ∧ H l ≠ none := by
  obtain ⟨_, cs, ms, h1, h2, _⟩ := d
  refine ⟨fun z => ?_, fun z => ?_⟩
  · rw [h1] at z
    cases z
  · rw [h2] at z
    cases z
theorem Deal.upd (d : Deal N H a l) (h1 : p ≠ a) (h2 : p ≠ l) : Deal N (upd H p o) a l := by
  obtain ⟨n, cs, ms, e1, e2, r⟩ := d
  exact ⟨n, cs, ms, by rw [upd_ne h1.symm]; exact e1, by rw [upd_ne h2.symm]; exact e2, r⟩
theorem Deal.ex (d : Deal N H a l) (e : Ex H H1) : Deal N H1 a l := by
  obtain ⟨n, cs, ms, e1, e2, r⟩ := d
  exact ⟨n, cs, ms, e _ _ e1, e _ _ e2, r⟩
/-- what changes nothing -/
theorem Wl.keep (w : Wl N a l R H) (e : Ex H H1) : Wl N a l R H1 := ⟨w.ex.trans e, w.na, w.nl, w.deal.ex e⟩
/-- a new object -/
theorem Wl.new (w : Wl N a l R H) (h : H p = none) : Wl N a l (upd R p o) (upd H p o) := by
  have h1 : p ≠ a := fun e => w.deal.dom.1 (e ▸ h)
  have h2 : p ≠ l := fun e => w.deal.dom.2 (e ▸ h)
  refine ⟨fun b u e => ?_, by rw [upd_ne h1.symm]; exact w.na, by rw [upd_ne h2.symm]; exact w.nl, w.deal.upd h1 h2⟩
  by_cases hb : b = p
  · subst hb
    rw [upd_same] at e ⊢
    exact e
  · rw [upd_ne hb] at e ⊢
    exact w.ex b u e
/-- a known object is changed -/
theorem Wl.mut (w : Wl N a l R H) (h : R p = some o) : Wl N a l (upd R p o') (upd H p o') := by
  have h1 : p ≠ a := fun e => by
    rw [e, w.na] at h
    cases h
  have h2 : p ≠ l := fun e => by
    rw [e, w.nl] at h
    cases h
  refine ⟨fun b u e => ?_, by rw [upd_ne h1.symm]; exact w.na, by rw [upd_ne h2.symm]; exact w.nl, w.deal.upd h1 h2⟩
  by_cases hb : b = p
  · subst hb
    rw [upd_same] at e ⊢
    exact e
  · rw [upd_ne hb] at e ⊢
    exact w.ex b u e
theorem Wl.free (w : Wl N a l R H) (h : H p = none) : R p = none := fresh_back w.ex h
/-- more is known -/
theorem Wl.more (w : Wl N a l R H) (e : Ex H H1) : ∃ R1, Ex R R1 ∧ Wl N a l R1 H1 ∧ ∀ b o, b ≠ a → b ≠ l → H1 b = some o → R1 b = some o := by
  refine ⟨fun b => if b = a ∨ b = l then none else H1 b, fun b o h => ?_, ⟨fun b o h => ?_, if_pos (.inl rfl), if_pos (.inr rfl), w.deal.ex e⟩, fun b o h1 h2 h => ?_⟩
  · have h1 : b ≠ a := fun z => by
      rw [z, w.na] at h
      cases h
    have h2 : b ≠ l := fun z => by
      rw [z, w.nl] at h
      cases h
    show (if b = a ∨ b = l then none else H1 b) = some o
    rw [if_neg (by simp [h1, h2])]
    exact e _ _ (w.ex _ _ h)
  · have h' : (if b = a ∨ b = l then none else H1 b) = some o := h
    by_cases z : b = a ∨ b = l
    · rw [if_pos z] at h'
      cases h'
    · rw [if_neg z] at h'
      exact h'
  · show (if b = a ∨ b = l then none else H1 b) = some o
    rw [if_neg (by simp [h1, h2])]
    exact h
end
/-- the promise of a drawn number below a bound -/
def spAny (N : Nat) : Sp := fun vs H Q _ => ∃ (a l : Addr) (R : Hp) (b : Int), vs = [.ref a, .int b] ∧ Wl N a l R H ∧ 0 < b ∧ b.natAbs.log2 < 9000 ∧ ∀ (r : Int) (H' : Hp), 0 ≤ r → r < b → Wl N a l R H' → Q (.int r) H'
/-- .. of one of some things, that stand in a list -/
def spOf (N : Nat) (K : PySem.W.Frag) : Sp := fun vs H Q _ => ∃ (a l p : Addr) (R : Hp) (xs : List V), vs = [.ref a, .ref p] ∧ Wl N a l R H ∧ SqL K R p xs ∧ xs ≠ [] ∧ xs.length ≤ 100 ∧ ∀ (v : V) (H' : Hp), v ∈ xs → Wl N a l R H' → Q v H'
/-! ### kinds of values -/
inductive Vk (K : PySem.W.Frag) (H : Hp) : V → String → Prop where
  | non : Vk K H .non "NoneType"
  | bl (b : Bool) : Vk K H (.bl b) "bool"
  | int (i : Int) : Vk K H (.int i) "int"
  | str (x : Str) : Vk K H (.str x) "str"
  | tup {p : Addr} {xs : List V} (h : Tp K H p xs) : Vk K H (.ref p) "tuple"
  | lst {p : Addr} {xs : List V} (h : H p = some (.lst xs)) : Vk K H (.ref p) "list"
theorem Vk.ty {K : PySem.W.Frag} {H : Hp} {x : V} {T : String} (h : Vk K H x T) : TyX K H x (.type T) := by
  cases h with
  | non => exact .base .non
  | bl b => exact .base (.bl b)
  | int i => exact .base (.int i)
  | str z => exact .base (.str z)
  | tup h =>
    rcases h with ⟨o, _, h⟩ | ⟨o, its, n, h1, h2, _⟩
    · exact .fTuple h
    · exact .kTuple h1 h2
  | lst h => exact .base (.lst h)
theorem Vk.ex {K : PySem.W.Frag} {H H1 : Hp} {x : V} {T : String} (h : Vk K H x T) (e : Ex H H1) : Vk K H1 x T := by
  cases h with
  | non => exact .non
  | bl b => exact .bl b
  | int i => exact .int i
  | str z => exact .str z
  | tup h => exact .tup (h.ex e)
  | lst h => exact .lst (e _ _ h)
theorem Vk.known {K : PySem.W.Frag} {H : Hp} {x : V} {T : String} (h : Vk K H x T) : T ∈ ["NoneType", "bool", "int", "str", "tuple", "list"] := by
  cases h <;> decide
/-! ### one thing twice: two values of the same data, to a depth -/
def scalV : V → Bool
  | .non => true
  | .bl _ => true
  | .int _ => true
  | .str _ => true
  | _ => false
def Sm (K : PySem.W.Frag) (H : Hp) : Nat → V → V → Prop
  | 0, x, y => x = y ∧ scalV x = true
  | n + 1, x, y => (x = y ∧ scalV x = true) ∨ ∃ p q xs ys, x = .ref p ∧ y = .ref q ∧ Tp K H p xs ∧ Tp K H q ys ∧ xs.length = ys.length ∧ xs.length ≤ 1000 ∧ ∀ (i : Nat) u v, xs[i]? = some u → ys[i]? = some v → Sm K H n u v
theorem Sm.ex {K : PySem.W.Frag} {H H1 : Hp} (e : Ex H H1) : ∀ {n : Nat} {x y : V}, Sm K H n x y → Sm K H1 n x y
  | 0, _, _, h => h
  | n + 1, _, _, h => by
    rcases h with h | ⟨p, q, xs, ys, h1, h2, h3, h4, h5, h6, h7⟩
    · exact .inl h
    · exact .inr ⟨p, q, xs, ys, h1, h2, h3.ex e, h4.ex e, h5, h6, fun i u v hu hv => Sm.ex e (h7 i u v hu hv)⟩
theorem Sm.scal {K : PySem.W.Frag} {H : Hp} {x : V} (h : scalV x = true) : ∀ n : Nat, Sm K H n x x
  | 0 => ⟨rfl, h⟩
  | _ + 1 => .inl ⟨rfl, h⟩
/-- two tuples of the same scalars -/
theorem Sm.tup {K : PySem.W.Frag} {H : Hp} {p q : Addr} {xs : List V} (hp : Tp K H p xs) (hq : Tp K H q xs) (hs : ∀ x ∈ xs, scalV x = true) (hl : xs.length ≤ 1000) (n : Nat) : Sm K H (n + 1) (.ref p) (.ref q) :=
  .inr ⟨p, q, xs, xs, rfl, rfl, hp, hq, rfl, hl, fun i u v hu hv => by
    rw [hu] at hv
    cases hv
    exact Sm.scal (hs u (List.mem_of_getElem? hu)) n⟩
theorem scal_ints (ns : List Int) : ∀ x ∈ ns.map V.int, scalV x = true := fun x h => by
  obtain ⟨n, _, rfl⟩ := List.mem_map.mp h
  rfl
def spSame (K : PySem.W.Frag) (n : Nat) : Sp := fun vs H Q _ => ∃ x y, vs = [x, y] ∧ Sm K H n x y ∧ ∀ H', Ex H H' → Q (.bl true) H'
end Own

namespace Own
open PySem PySem.Spec PyProof.Rows L2 Evl
abbrev FnP (K : PySem.W.Frag) (x : Str) (st : Stmt) (f : Addr) (fd : FuncData) : Prop := FunD K x x (defArgs st) (defBody st) (defScope st) [] [] f fd
/-! ### isinstance of what is known -/
theorem kit_all : ∀ T ∈ ["NoneType", "bool", "int", "str", "tuple", "list"], ∀ c ∈ ["int", "bool", "tuple", "list", "str"], L2.kitB T c = some (decide (T = c) || (decide (T = "bool") && decide (c = "int"))) := by decide +kernel
theorem kit_vk {K : PySem.W.Frag} {H : Hp} {x : V} {T : String} (h : Vk K H x T) (c : String) (hc : c ∈ ["int", "bool", "tuple", "list", "str"] := by decide) : PySem.W.kitOne K (.type T) (.type c) = some (decide (T = c) || (decide (T = "bool") && decide (c = "int"))) := kit_ty (kit_all T h.known c hc)
/-- isinstance(x, c) -/
theorem isi_vk {K : PySem.W.Frag} {H : Hp} {x : V} {T : String} {Q : VK} (h : Vk K H x T) (c : String) (q : Q (.bl (decide (T = c) || (decide (T = "bool") && decide (c = "int")))) H) (hc : c ∈ ["int", "bool", "tuple", "list", "str"] := by decide) : rIsi K [x, .ty c] H Q :=
  ⟨x, .ty c, .type T, .type c, _, rfl, .ty c, h.ty, kit_vk h c hc, q⟩
/-! ### lists by their places -/
theorem range_zip {n : Nat} (f : Int → Int → Int) : ∀ {xs ys : List Int}, xs.length = n → ys.length = n → (List.range n).map (fun i => V.int (f (xs.getD i 0) (ys.getD i 0))) = (List.zipWith f xs ys).map V.int := by
  intro xs ys h1 h2
  apply List.ext_getElem?
  intro i
  rw [List.getElem?_map, List.getElem?_map, List.getElem?_zipWith]
  by_cases hi : i < n
  · rw [List.getElem?_range hi, List.getElem?_eq_getElem (show i < xs.length by omega), List.getElem?_eq_getElem (show i < ys.length by omega)]
    simp [List.getD_eq_getElem?_getD, List.getElem?_eq_getElem (show i < xs.length by omega), List.getElem?_eq_getElem (show i < ys.length by omega)]
  · rw [List.getElem?_eq_none (show (List.range n).length ≤ i by rw [List.length_range]; omega), List.getElem?_eq_none (show xs.length ≤ i by omega)]
    rfl
theorem range_map {α β : Type} (d : α) (f : α → β) (xs : List α) : (List.range xs.length).map (fun i => f (xs.getD i d)) = xs.map f := by
  apply List.ext_getElem?
  intro i
  rw [List.getElem?_map, List.getElem?_map]
  by_cases hi : i < xs.length
  · rw [List.getElem?_range hi, List.getElem?_eq_getElem hi]
    simp [List.getD_eq_getElem?_getD, List.getElem?_eq_getElem hi]
  · rw [List.getElem?_eq_none (show (List.range xs.length).length ≤ i by rw [List.length_range]; omega), List.getElem?_eq_none (show xs.length ≤ i by omega)]
    rfl
theorem int_at {xs : List Int} {i : Nat} {x : V} (h : (xs.map V.int)[i]? = some x) : x = .int (xs.getD i 0) ∧ i < xs.length := by
  rw [List.getElem?_map] at h
  cases e : xs[i]? with
  | none =>
    rw [e] at h
    cases h
  | some n =>
    rw [e] at h
    have h2 := (List.getElem?_eq_some_iff.mp e).1
    refine ⟨?_, h2⟩
    rw [List.getD_eq_getElem?_getD, e]
    exact (Option.some.inj h).symm
theorem at_int {xs : List Int} {i : Nat} (h : i < xs.length) : (xs.map V.int)[i]? = some (.int (xs.getD i 0)) := by
  rw [List.getElem?_map, List.getD_eq_getElem?_getD, List.getElem?_eq_getElem h]
  rfl
theorem atI_int {xs : List Int} {i : Nat} (h : i < xs.length) : atI (xs.map V.int) (i : Int) = some (.int (xs.getD i 0)) := atI_nat (at_int h)
theorem getD_mem {xs : List Int} {i : Nat} (h : i < xs.length) : xs.getD i 0 ∈ xs := by
  rw [List.getD_eq_getElem?_getD, List.getElem?_eq_getElem h]
  exact List.getElem_mem h
/-! ### zip of two tuples -/
theorem walk_zipT {K : PySem.W.Frag} {a b : Addr} {xs ys : List V} {n : Nat} (h1 : xs.length = n) (h2 : ys.length = n) : Walk (RZ.ItzT K a b) n (fun H => SqT K H a xs ∧ SqT K H b ys) (YPair (fun i => xs[i]?) (fun i => ys[i]?)) := by
  subst h1
  refine ⟨fun i _ hi q => ?_, fun _ q => ⟨xs, ys, q.1, q.2, by omega⟩, fun i H v H' _ q y => ?_⟩
  · exact ⟨xs, ys, xs[i], ys[i]'(by omega), q.1, q.2, by simp [hi], by simp [show i < ys.length by omega]⟩
  · obtain ⟨T, x, z, h1, h2, h3, h4, h5⟩ := y
    exact ⟨T, x, z, h1, h2, h3, h4 xs q.1, h5 ys q.2⟩
end Own

/-! The layer's rules with the written part named apart: their readings then hang on no context. -/
namespace Own
open PySem PySem.Spec PyProof.Rows L2 Evl
section
variable {X : Cx} {K : PySem.W.Frag}
theorem kx_list (h : X.K = K := by rfl) : IxR X (rIxL K) := by subst h; exact ix_list
theorem kx_tup (h : X.K = K := by rfl) : IxR X (rIxT K) := by subst h; exact ix_tup
theorem ksl_list (h : X.K = K := by rfl) : SlR X (rSlL K) := by subst h; exact sl_list
theorem ksl_tup (h : X.K = K := by rfl) : SlR X (rSlF K) := by subst h; exact sl_tupF
def rLenK (K : PySem.W.Frag) : List V → Hp → VK → Prop := fun xs H Q => ∃ p ys, xs = [.ref p] ∧ (SqL K H p ys ∨ SqT K H p ys) ∧ Q (.int ys.length) H
theorem kc_len (h : X.K = K := by rfl) : CallR X (.builtin "len") (rLenK K) := by subst h; exact call_len_seq
theorem kc_tuple (h : X.K = K := by rfl) : CallR X (.type "tuple") (rTupF K) := by subst h; exact call_tupF
def rListK (K : PySem.W.Frag) : List V → Hp → VK → Prop := fun xs H Q => ∃ p ys, xs = [.ref p] ∧ (SqL K H p ys ∨ SqT K H p ys) ∧ ∀ l, H l = none → Q (.ref l) (upd H l (.lst ys))
theorem kc_list (h : X.K = K := by rfl) : CallR X (.type "list") (rListK K) := by
  subst h
  intro pins s σ H xs us Q I r hh
  exact call_list_of pins s σ H xs us Q I r hh
theorem kc_isi (h : X.K = K := by rfl) : CallR X (.builtin "isinstance") (rIsi K) := by subst h; exact call_isi
theorem kc_sum (hc : X.calm = true) (h : X.K = K := by rfl) : CallR X (.builtin "sum") (rSum K) := by subst h; exact cr_sum hc
theorem kc_min (hc : X.calm = true) (h : X.K = K := by rfl) : CallR X (.builtin "min") (rMin K) := by subst h; exact cr_min hc
theorem kc_max (hc : X.calm = true) (h : X.K = K := by rfl) : CallR X (.builtin "max") (rMax K) := by subst h; exact cr_max hc
theorem ko_eq (hu : X.A.units + 64 < cLine) (h : X.K = K := by rfl) : OpR X (compareOp .Eq) (rEqD K) := by subst h; exact op_eqD hu
theorem ko_ne (hu : X.A.units + 64 < cLine) (h : X.K = K := by rfl) : OpR X (compareOp .NotEq) (rNeD K) := by subst h; exact op_neD hu
theorem ko_in (h : X.K = K := by rfl) : OpR X (compareOp .In) (rIn K false) := by subst h; exact op_in_seq
theorem ko_notIn (h : X.K = K := by rfl) : OpR X (compareOp .NotIn) (rIn K true) := by subst h; exact op_notIn_seq
theorem ko_cat (h : X.K = K := by rfl) : OpR X (binaryOp .Add) (rCatF K) := by subst h; exact op_catF
theorem ko_rep (h : X.K = K := by rfl) : OpR X (binaryOp .Mult) (rRepF K) := by subst h; exact op_repF
variable {o e : Expr} {es : List Expr} {to : TE} {t : TA} {name : Str} {apos cpos : Pos} {T id : String} {r : V → List V → Hp → VK → Prop}
theorem km_bm0 (pa : PlainAttrs T) (slot : Slot T name id) (hty : typeOf (.builtin id) = pure (.type "method_descriptor")) (hm : MtR X id r) (ho : PE X o to)
    (hbase : attributeBase o name X.env (eval o X.env) = eval o X.env := by rfl) (hline : (apos.endLine == cpos.line) = true := by rfl) (h : X.K = K := by rfl) : PE X (.Call (.Attribute o name apos) [] [] cpos) (tBM0 K T r to) := by
  subst h
  exact pe_bm0 pa slot hty hm ho hbase hline
theorem km_bm (pa : PlainAttrs T) (slot : Slot T name id) (hty : typeOf (.builtin id) = pure (.type "method_descriptor")) (hm : MtR X id r) (ho : PE X o to) (ha : PA X (e :: es) t)
    (hbase : attributeBase o name X.env (eval o X.env) = eval o X.env := by rfl)
    (hfew : ((backTo cpos (starEach (e :: es) X.env)).all (fun x => !x.1) && (backToKw cpos (keywordEach [] X.env)).all (fun x => x.1.isSome)
      && decide ((e :: es).length + ([] : List Keyword).length + (if ([] : List Keyword).isEmpty then 0 else 1) < 30)) = true := by rfl)
    (hline : (apos.endLine == cpos.line) = true := by rfl) (hs : starEach (e :: es) X.env = (false, eval e X.env) :: starEach es X.env := by rfl) (hplain : (backTo cpos (starEach es X.env)).any (·.1) = false := by rfl) (h : X.K = K := by rfl) :
    PE X (.Call (.Attribute o name apos) (e :: es) [] cpos) (tBM K T r to t) := by
  subst h
  exact pe_bm pa slot hty hm ho ha hbase hfew hline hs hplain
theorem km_count (ho : PE X o to) (ha : PA X (e :: es) t)
    (hbase : attributeBase o "count" X.env (eval o X.env) = eval o X.env := by rfl)
    (hfew : ((backTo cpos (starEach (e :: es) X.env)).all (fun x => !x.1) && (backToKw cpos (keywordEach [] X.env)).all (fun x => x.1.isSome)
      && decide ((e :: es).length + ([] : List Keyword).length + (if ([] : List Keyword).isEmpty then 0 else 1) < 30)) = true := by rfl)
    (hline : (apos.endLine == cpos.line) = true := by rfl) (hs : starEach (e :: es) X.env = (false, eval e X.env) :: starEach es X.env := by rfl) (hplain : (backTo cpos (starEach es X.env)).any (·.1) = false := by rfl) (h : X.K = K := by rfl) :
    PE X (.Call (.Attribute o "count" apos) (e :: es) [] cpos) (tTM K (rTCnt K) to t) := by
  subst h
  exact pe_tm PySem.F.plainAttrs_tuple PySem.F.slot_tuple_count PySem.F.type_tuple_count mt_tcount ho ha hbase hfew hline hs hplain
end
end Own

/-! Where draws come from, changed. -/
namespace Own
open PySem PySem.Spec PyProof.Rows L2 Evl
section
variable {N : Nat} {a l : Addr} {R H : Hp}
/-- its things -/
structure DealIs (N : Nat) (H : Hp) (a l : Addr) (cs ms : List Int) : Prop where
  ha : H a = some (.lst (.ref l :: ms.map V.int))
  hl : H l = some (.lst (cs.map V.int))
  pos : ∀ x ∈ cs, 0 ≤ x
  mn : ms.length = N
  len : cs.length ≤ 100
theorem DealIs.deal {cs ms : List Int} (d : DealIs N H a l cs ms) (n : a ≠ l) : Deal N H a l := ⟨n, cs, ms, d.ha, d.hl, d.pos, d.mn, d.len⟩
theorem Deal.is (d : Deal N H a l) : ∃ cs ms, DealIs N H a l cs ms := by
  obtain ⟨_, cs, ms, h1, h2, h3, h4, h5⟩ := d
  exact ⟨cs, ms, h1, h2, h3, h4, h5⟩
theorem DealIs.ex {cs ms : List Int} {H1 : Hp} (d : DealIs N H a l cs ms) (e : Ex H H1) : DealIs N H1 a l cs ms := ⟨e _ _ d.ha, e _ _ d.hl, d.pos, d.mn, d.len⟩
/-- the known heap, the deal at a and l as said -/
structure Wd (N : Nat) (a l : Addr) (R H : Hp) (cs ms : List Int) : Prop where
  ex : Ex R H
  na : R a = none
  nl : R l = none
  ne : a ≠ l
  is : DealIs N H a l cs ms
theorem Wd.wl {cs ms : List Int} (w : Wd N a l R H cs ms) : Wl N a l R H := ⟨w.ex, w.na, w.nl, w.is.deal w.ne⟩
theorem Wl.wd (w : Wl N a l R H) : ∃ cs ms, Wd N a l R H cs ms := by
  obtain ⟨cs, ms, d⟩ := w.deal.is
  exact ⟨cs, ms, w.ex, w.na, w.nl, w.deal.ne, d⟩
theorem Wd.keep {cs ms : List Int} {H1 : Hp} (w : Wd N a l R H cs ms) (e : Ex H H1) : Wd N a l R H1 cs ms := ⟨w.ex.trans e, w.na, w.nl, w.ne, w.is.ex e⟩
theorem ex_side {R H : Hp} {p : Addr} {o : HO} (e : Ex R H) (n : R p = none) : Ex R (upd H p o) := fun b u h => by
  have : b ≠ p := fun z => by
    rw [z, n] at h
    cases h
  rw [upd_ne this]
  exact e b u h
theorem Wd.cells {cs ds ms : List Int} (w : Wd N a l R H cs ms) (hp : ∀ x ∈ ds, 0 ≤ x) (hz : ds.length ≤ 100) : Wd N a l R (upd H l (.lst (ds.map V.int))) ds ms :=
  ⟨ex_side w.ex w.nl, w.na, w.nl, w.ne, by rw [upd_ne w.ne]; exact w.is.ha, upd_same, hp, w.is.mn, hz⟩
theorem Wd.nums {cs ms ms' : List Int} (w : Wd N a l R H cs ms) (h : ms'.length = N) : Wd N a l R (upd H a (.lst (.ref l :: ms'.map V.int))) cs ms' :=
  ⟨ex_side w.ex w.na, w.na, w.nl, w.ne, upd_same, by rw [upd_ne w.ne.symm]; exact w.is.hl, w.is.pos, h, w.is.len⟩
/-- the deal as it is made -/
def spDeal (N : Nat) (K : PySem.W.Frag) : Sp := fun vs H Q _ => ∃ (a : Addr) (ns : List Int) (salt : Int), vs = [.ref a, .int salt] ∧ SqL K H a (ns.map V.int) ∧ 0 ≤ salt ∧ salt ≤ 1000 ∧ ∀ (d l : Addr) (H' : Hp), Wl N d l H H' → Q (.ref d) H'
end
theorem cut_ints (ns : List Int) (lo hi : Option Int) : ∃ ms : List Int, cutV (ns.map V.int) lo hi = ms.map V.int ∧ ms.length ≤ ns.length := by
  refine ⟨(ns.drop (HT.sIx (ns.map V.int).length 0 lo)).take (HT.sIx (ns.map V.int).length (ns.map V.int).length hi - HT.sIx (ns.map V.int).length 0 lo), ?_, ?_⟩
  · unfold cutV
    rw [List.map_take, List.map_drop]
  · rw [List.length_take, List.length_drop]
    omega
theorem cut_len63 (ns : List Int) : (cutV (ns.map V.int) none (some 63)).length ≤ 63 := by
  unfold cutV
  rw [List.length_take]
  have : HT.sIx (ns.map V.int).length (ns.map V.int).length (some (63 : Int)) ≤ 63 := by
    rw [show (63 : Int) = ((63 : Nat) : Int) from rfl, HT.sIx_nat]
    exact Nat.min_le_left _ _
  omega
/-- the ints that a condition leaves -/
theorem given_ints (n : Nat) (f : Nat → Bool) (g : Nat → Int) : given n f (fun i => V.int (g i)) = (((List.range n).filter f).map g).map V.int := by
  unfold given
  rw [List.map_map]
  rfl
theorem while_split {c : TT} {tb : TS} {D : Ends} {σ : L2.St} {H : Hp} (W : Nat → L2.St → Hp → Prop) (End : L2.St → Hp → Prop) (h0 : ∃ m, W m σ H) (after : ∀ σ H, End σ H → D.nx σ H)
    (turn : ∀ (nx : L2.St → Hp → Prop), (∀ σ H, End σ H → nx σ H) → ∀ m σ H, W m σ H → c σ H fun b H1 => if b = true then ∃ N : L2.St → Hp → Prop, (∀ σ' H', N σ' H' → ∃ m', m' < m ∧ W m' σ' H') ∧ tb { D with nx := N, ct := N, bk := D.nx } σ H1 else nx σ H1) :
    tWhile c tb D σ H := ⟨W, h0, fun m σ H w => turn D.nx after m σ H w⟩
theorem sh_ints (cs : List Int) : SeqAt.shaped (.list (cs.map PyData.int)) = true := PySem.W.ke_shaped_ints cs
theorem ne_nil {K : PySem.W.Frag} {H : Hp} {l z : Addr} {cs : List Int} {Q : VK} (hl : H l = some (.lst (cs.map V.int))) (hz : H z = some (.lst [])) (q : Q (.bl (!cs.isEmpty)) H) : rNeD K (.ref l) (.ref z) H Q :=
  ⟨.list (cs.map PyData.int), .list [], .lst (sq_of hl) (dp_ints cs), .lst (sq_of hz) .nil, sh_ints cs, rfl, by rw [eqv_ints_nil]; exact q⟩
theorem at_last (ds : List Int) (x : Int) : atI ((ds ++ [x]).map V.int) (-1) = some (.int x) := by
  unfold atI ixN
  rw [if_neg (by decide), List.length_map, List.length_append, if_pos (by rw [List.length_singleton]; omega)]
  show ((ds ++ [x]).map V.int)[(-1 + ((ds.length + [x].length : Nat) : Int)).toNat]? = _
  rw [show (-1 + ((ds.length + [x].length : Nat) : Int)).toNat = ds.length by rw [List.length_singleton]; omega, List.getElem?_map, List.getElem?_append_right (Nat.le_refl _), Nat.sub_self]
  rfl
theorem pop_last (ds : List Int) (x : Int) : ((ds ++ [x]).map V.int)[((ds ++ [x]).map V.int).length - 1]? = some (.int x) ∧ ((ds ++ [x]).map V.int).dropLast = ds.map V.int := by
  constructor
  · rw [List.length_map, List.length_append, List.length_singleton, Nat.add_sub_cancel, List.getElem?_map, List.getElem?_append_right (Nat.le_refl _), Nat.sub_self]
    rfl
  · rw [List.map_append]
    exact List.dropLast_concat
theorem cases_last (cs : List Int) : cs = [] ∨ ∃ ds x, cs = ds ++ [x] := by
  rcases List.eq_nil_or_concat cs with h | ⟨ds, x, h⟩
  · exact .inl h
  · exact .inr ⟨ds, x, by rw [h, List.concat_eq_append]⟩
theorem not_empty (ds : List Int) (x : Int) : (!(ds ++ [x]).isEmpty) = true := by
  cases ds <;> rfl
/-- recursion of a def: what it promises at a depth; at none nothing -/
def spSameR (K : PySem.W.Frag) : Nat → Sp
  | 0 => fun _ _ _ _ => False
  | n + 1 => spSame K n
end Own

/-! What is known and where draws come from, with tuples beside; texts of one figure many times. -/
namespace Own
open PySem PySem.Spec PyProof.Rows L2 Evl
section
variable {N : Nat} {a l p : Addr} {R R1 H H1 : Hp} {K : PySem.W.Frag} {xs : List V} {Q : VK}
/-- less is known -/
theorem Wl.weak (w : Wl N a l R1 H) (e : Ex R R1) : Wl N a l R H := ⟨e.trans w.ex, fresh_back e w.na, fresh_back e w.nl, w.deal⟩
theorem Tp.ne (h : Tp K H p xs) (w : Deal N H a l) : (p ≠ a ∧ p ≠ l) ∨ ∀ H', Tp K H' p xs := by
  rcases h with ⟨o, h1, h2⟩ | h
  · obtain ⟨_, cs, ms, g1, g2, _⟩ := w
    refine .inl ⟨fun e => ?_, fun e => ?_⟩
    · subst e
      rw [h2] at g1
      cases g1
    · subst e
      rw [h2] at g2
      cases g2
  · exact .inr fun _ => .inr h
/-- a tuple that came beside is known from then on -/
theorem Wl.tp (w : Wl N a l R H) (e : Ex H H1) (h : Tp K H1 p xs) : ∃ R1, Ex R R1 ∧ Wl N a l R1 H1 ∧ Tp K R1 p xs := by
  obtain ⟨R1, e1, w1, m⟩ := w.more e
  refine ⟨R1, e1, w1, ?_⟩
  rcases h.ne w1.deal with ⟨n1, n2⟩ | h'
  · rcases h with ⟨o, h1, h2⟩ | h
    · exact .inl ⟨o, h1, m _ _ n1 n2 h2⟩
    · exact .inr h
  · exact h' _
/-- a new tuple, and what was known stays -/
def RetW (N : Nat) (K : PySem.W.Frag) (a l : Addr) (R : Hp) (xs : List V) (Q : VK) : Prop := ∀ p R1 H1, Ex R R1 → Wl N a l R1 H1 → Tp K R1 p xs → Q (.ref p) H1
theorem RetW.ret (k : RetW N K a l R xs Q) (w : Wl N a l R H) : RetU K xs H Q := fun p H2 e h => by
  obtain ⟨R1, e1, w1, t⟩ := w.tp e h
  exact k p R1 H2 e1 w1 t
theorem RetW.more (k : RetW N K a l R xs Q) (e : Ex R R1) : RetW N K a l R1 xs Q := fun p R2 H2 e2 w t => k p R2 H2 (e.trans e2) w t
end
/-! ### (x,) * n and t + u, with what they give -/
theorem rep_flat {α : Type} (n : Nat) (x : α) : (List.replicate n [x]).flatten = List.replicate n x := by
  induction n with
  | zero => rfl
  | succ n ih => rw [List.replicate_succ, List.flatten_cons, ih]; rfl
theorem rep_one {K : PySem.W.Frag} {x : V} {n : Int} {H : Hp} {Q : VK} (h0 : -1000 ≤ n) (h1 : n ≤ 1000) (k : RetU K (List.replicate n.toNat x) H Q) : NewT [x] H (fun v H1 => rRepF K v (.int n) H1 Q) := by
  intro p o hp ho
  refine ⟨p, n, [x], rfl, rfl, (Tp.of ho upd_same).sq, h0, h1, by show 1 ≤ 1000; omega, fun e => ?_, fun _ e => ?_⟩
  · rcases e with e | rfl
    · cases e
    · exact k p _ (Ex.new hp) (Tp.of ho upd_same)
  · rw [rep_flat]
    exact k.new (Ex.new hp)
theorem cat_ret {K : PySem.W.Frag} {a b : Addr} {xs ys : List V} {H H0 : Hp} {Q : VK} (ha : Tp K H a xs) (hb : Tp K H b ys) (hz : xs.length + ys.length ≤ sizeLine) (e : Ex H0 H) (k : RetU K (xs ++ ys) H0 Q) : rCatF K (.ref a) (.ref b) H Q :=
  ⟨a, b, xs, ys, rfl, rfl, ha.sq, hb.sq, hz, fun h => by
    subst h
    exact k b H e hb, fun _ h => by
    subst h
    rw [List.append_nil] at k
    exact k a H e ha, fun _ _ => k.new e⟩
/-! ### a figure many times -/
theorem rep_arr (a : Array Nat) : ∀ (n : Nat) (acc : Array Nat), ((List.replicate n a).foldl (· ++ ·) acc).toList = acc.toList ++ (List.replicate n a.toList).flatten
  | 0, acc => by simp
  | n + 1, acc => by
    rw [List.replicate_succ, List.foldl_cons, rep_arr a n, List.replicate_succ, List.flatten_cons, Array.toList_append, List.append_assoc]
theorem repS_list (a : Str) (n : Nat) : (repS a n).cps.toList = (List.replicate n a.cps.toList).flatten := by
  have := rep_arr a.cps n #[]
  exact this
theorem fig_int {a : Str} {c n : Nat} (ha : a.cps.toList = [c]) (h0 : 48 ≤ c) (h1 : c ≤ 57) (hn : 0 < n) (hz : n ≤ 4300) : ∃ z : Int, PySem.intText? (repS a n) = some z ∧ (repS a n).length ≤ 4300 ∧ (numSeenOf (repS a n)).length = (repS a n).length := by
  have e : (repS a n).cps.toList = List.replicate n c := by rw [repS_list, ha, rep_flat]
  have el : (repS a n).length = n := by
    have := congrArg List.length e
    rw [List.length_replicate] at this
    exact this
  have hd : ∀ x ∈ (repS a n).cps.toList, x = c := fun x hx => by
    rw [e] at hx
    exact List.eq_of_mem_replicate hx
  refine ⟨_, intText_digits ?_ ?_ (by omega), by omega, ?_⟩
  · intro x hx
    rw [hd x hx]
    exact ⟨h0, h1⟩
  · rw [e]
    intro h
    have := congrArg List.length h
    rw [List.length_replicate] at this
    simp at this
    omega
  · rw [(numText_signs (x := repS a n) fun x hx => .inr (by rw [hd x hx]; exact ⟨h0, h1⟩)).2]
    rfl
end Own

/-! range(n) as a list; tuples that a comprehension makes; plain laws of rows. -/
namespace Own
open PySem PySem.Spec PyProof.Rows L2 Evl
theorem newL {H : Hp} {xs : List V} {Q : VK} (k : ∀ m H1, Ex H H1 → H m = none → H1 m = some (.lst xs) → Q (.ref m) H1) : ∀ m, H m = none → Q (.ref m) (upd H m (.lst xs)) := fun m hm => k m _ (Ex.new hm) hm upd_same
theorem rg_len (n : Nat) : (rgV 0 (n : Int)).length = n := by
  rw [rgV_length]
  omega
theorem rg_at {n i : Nat} {x : V} (h : (rgV 0 (n : Int))[i]? = some x) : x = .int (i : Int) ∧ i < n := by
  unfold rgV at h
  rw [List.getElem?_map] at h
  by_cases hi : i < ((n : Int) - 0).toNat
  · rw [List.getElem?_range hi] at h
    have := Option.some.inj h
    refine ⟨?_, by omega⟩
    rw [← this]
    exact congrArg V.int (by omega)
  · rw [List.getElem?_eq_none (by rw [List.length_range]; omega)] at h
    cases h
theorem rg_ok {n : Nat} (h : n ≤ 10000) : RgOk 0 (n : Int) := RgOk.of_le (by decide) (by omega) (by decide) (by omega)
/-- ints made from ints, place by place -/
theorem range_of {n : Nat} (f : Nat → Int) {ys : List Int} (h1 : ys.length = n) (h : ∀ i, i < n → f i = ys.getD i 0) : (List.range n).map (fun i => V.int (f i)) = ys.map V.int := by
  subst h1
  rw [← range_map 0 V.int ys]
  apply List.map_congr_left
  intro i hi
  rw [h i (List.mem_range.mp hi)]
theorem getD_zip {f : Int → Int → Int} {xs ys : List Int} {i : Nat} (h1 : i < xs.length) (h2 : i < ys.length) : (List.zipWith f xs ys).getD i 0 = f (xs.getD i 0) (ys.getD i 0) := by
  simp only [List.getD_eq_getElem?_getD, List.getElem?_zipWith, List.getElem?_eq_getElem h1, List.getElem?_eq_getElem h2]
  rfl
theorem getD_map {f : Int → Int} {xs : List Int} {i : Nat} (h1 : i < xs.length) : (xs.map f).getD i 0 = f (xs.getD i 0) := by
  simp only [List.getD_eq_getElem?_getD, List.getElem?_map, List.getElem?_eq_getElem h1]
  rfl
theorem less_is (x y q : Int) : (x + 2 * q - y) % q = (x - y) % q := by
  rw [show x + 2 * q - y = (x - y) + q * 2 by omega, Int.add_mul_emod_self_left]
theorem turned_is (y q : Int) : (q - y) % q = y * (-1 % q) % q := by
  have h : y * (-1 % q) % q = y * -1 % q := by
    rw [Int.mul_emod y (-1 % q) q, Int.emod_emod_of_dvd _ (Int.dvd_refl q), ← Int.mul_emod]
  rw [h, show q - y = y * -1 + q * 1 by omega, Int.add_mul_emod_self_left]
end Own
namespace Own
open PySem PySem.Spec PyProof.Rows L2 Evl
theorem given_congr {n : Nat} {f g : Nat → Bool} {v : Nat → V} (h : ∀ i, i < n → f i = g i) : given n f v = given n g v := by
  unfold given
  rw [List.filter_congr fun i hi => h i (List.mem_range.mp hi)]
theorem range_getD (xs : List Int) : (List.range xs.length).map (fun i => xs.getD i 0) = xs := by
  have := range_map (0 : Int) (id : Int → Int) xs
  rw [List.map_id] at this
  exact this
theorem given_count (xs : List Int) (p : Int → Bool) (v : Nat → V) : (given xs.length (fun i => p (xs.getD i 0)) v).length = xs.countP p := by
  unfold given
  rw [List.length_map, ← List.countP_eq_length_filter]
  conv => rhs; rw [← range_getD xs, List.countP_map]
  rfl
theorem given_weight (xs : List Int) (v : Nat → V) : ((given xs.length (fun i => decide (xs.getD i 0 ≠ 0)) v).length : Int) = (xs.length : Int) - (xs.count 0 : Nat) := by
  rw [given_count xs (fun x => decide (x ≠ 0)) v]
  have h1 := List.length_eq_countP_add_countP (fun x : Int => x == 0) (l := xs)
  have h2 : xs.count 0 = xs.countP (fun x => x == 0) := rfl
  have h3 : xs.countP (fun x => decide (x ≠ 0)) = xs.countP (fun a => decide ¬ (a == 0) = true) := by
    apply List.countP_congr
    intro x _
    simp
  omega
end Own

/-! Calls that may raise, by name; a figure many times, its worth. -/
namespace Own
open PySem PySem.Spec PyProof.Rows L2 Evl
section
variable {X : Cx} {CX : CXT} {k : Nat} {ps ks : List Str} {sp : Sp} {E : L2.St → XK} {x : Str} {st : Stmt} {p pos : Pos} {e : Expr} {es : List Expr} {t tk : TA}
theorem pe_callSF (F : Fn X.prog X.w X.K X.mg X.base CX k x st ps sp) (hr : Room k X.A) (hg : Gl X x) (hx : ∀ σ, PassesAt CX X σ (E σ)) (ha : PA X (e :: es) t) (hdb : (x == ("__debug__" : Str)) = false := by decide)
    (he : starEach (e :: es) X.env = (false, eval e X.env) :: starEach es X.env := by rfl) (hpl : (backTo pos (starEach es X.env)).any (·.1) = false := by rfl) :
    PE X (.Call (.Name x p) (e :: es) [] pos) (tCallS sp E t) := by
  obtain ⟨f, fd, h1, h2, h3, h4⟩ := F
  exact pe_callS h4 hr hg h1 h2.kp h3 hx ha hdb he hpl
end
theorem fig_val {a : Str} {c n : Nat} (ha : a.cps.toList = [c]) (h0 : 48 ≤ c) (h1 : c ≤ 57) (hn : 0 < n) (hz : n ≤ 4300) : PySem.intText? (repS a n) = some ((NumText.digitsVal (List.replicate n c) : Nat) : Int) ∧ (repS a n).length ≤ 4300 ∧ (numSeenOf (repS a n)).length = (repS a n).length := by
  have e : (repS a n).cps.toList = List.replicate n c := by rw [repS_list, ha, rep_flat]
  obtain ⟨z, z1, z2, z3⟩ := fig_int ha h0 h1 hn hz
  refine ⟨?_, z2, z3⟩
  rw [← e]
  refine intText_digits ?_ ?_ z2
  · intro x hx
    rw [e] at hx
    rw [List.eq_of_mem_replicate hx]
    exact ⟨h0, h1⟩
  · rw [e]
    intro h
    have := congrArg List.length h
    rw [List.length_replicate] at this
    simp at this
    omega
theorem fold_le : ∀ (l : List Nat) (acc : Nat), acc ≤ l.foldl (fun acc c => acc * 10 + (c - 48)) acc
  | [], _ => Nat.le_refl _
  | c :: r, acc => Nat.le_trans (by omega) (fold_le r (acc * 10 + (c - 48)))
theorem threes (n : Nat) : 3333 ≤ NumText.digitsVal (List.replicate (n + 4) 51) := fold_le (List.replicate n 51) 3333
theorem fig_three {n : Nat} (h : 4 ≤ n) (hz : n ≤ 4300) : ∃ z : Int, 3333 ≤ z ∧ PySem.intText? (repS "3" n) = some z ∧ (repS "3" n).length ≤ 4300 ∧ (numSeenOf (repS "3" n)).length = (repS "3" n).length := by
  obtain ⟨m, rfl⟩ : ∃ m, n = m + 4 := ⟨n - 4, by omega⟩
  obtain ⟨i1, i2, i3⟩ := fig_val (a := "3") (c := 51) (n := m + 4) (by decide +kernel) (by decide) (by decide) (by omega) hz
  exact ⟨_, Int.ofNat_le.mpr (threes m), i1, i2, i3⟩
end Own

namespace Own
open PySem PySem.Spec PyProof.Rows L2 Evl
section
variable {N : Nat} {K : PySem.W.Frag} {H R : Hp} {Q : VK} {a l p : Addr} {xs : List V}
theorem rep_id {α : Type} (xs : List α) : (List.replicate 1 xs).flatten = xs := by simp
theorem rep_nil {α : Type} (n : Nat) : (List.replicate n ([] : List α)).flatten = [] := by
  induction n with
  | zero => rfl
  | succ n ih => rw [List.replicate_succ, List.flatten_cons, ih]; rfl
theorem rep_ret {k : Int} (h : Tp K H l xs) (h0 : -1000 ≤ k) (h1 : k ≤ 1000) (hz : xs.length ≤ 1000) (q : RetU K (List.replicate k.toNat xs).flatten H Q) : rRepF K (.ref l) (.int k) H Q :=
  ⟨l, k, xs, rfl, rfl, h.sq, h0, h1, hz, fun e => by
    rcases e with rfl | rfl
    · rw [rep_nil] at q
      exact q l H (Ex.refl _) h
    · rw [show (1 : Int).toNat = 1 from rfl, rep_id] at q
      exact q l H (Ex.refl _) h, fun _ _ => q.new (Ex.refl _)⟩
theorem sl_ret {lo hi : Option Int} (h : Tp K H l xs) (q : RetU K (cutV xs lo hi) H Q) : rSlF K (.ref l) lo hi H Q :=
  ⟨l, xs, rfl, h.sq, fun e => by
    have : cutV xs lo hi = xs := by
      unfold cutV
      rw [e.1, e.2, List.drop_zero, Nat.sub_zero, List.take_length]
    rw [this] at q
    exact q l H (Ex.refl _) h, fun _ => q.new (Ex.refl _)⟩
theorem cut_from1 (xs : List V) : cutV xs (some 1) none = xs.drop 1 := by
  unfold cutV
  rw [show (1 : Int) = ((1 : Nat) : Int) from rfl, HT.sIx_nat, HT.sIx_none]
  cases xs with
  | nil => rfl
  | cons x r =>
    rw [show min 1 (x :: r).length = 1 by simp, List.take_of_length_le (by rw [List.length_drop]; omega)]
theorem Deal.off (d : Deal N H a l) (h : H p = none) : p ≠ a ∧ p ≠ l := ⟨fun e => d.dom.1 (e ▸ h), fun e => d.dom.2 (e ▸ h)⟩
theorem Tp.mut {wr : Addr} {ys zs : List V} (h : Tp K R p xs) (hw : R wr = some (.lst ys)) : Tp K (upd R wr (.lst zs)) p xs := by
  rcases h with ⟨o, h1, h2⟩ | h
  · have : p ≠ wr := fun e => by
      rw [e, hw] at h2
      cases h2
    exact .inl ⟨o, h1, by rw [upd_ne this]; exact h2⟩
  · exact .inr h
/-- kinds, when a list is changed -/
theorem Vk.mut {wr : Addr} {ys zs : List V} {v : V} {T : String} (h : Vk K R v T) (hw : R wr = some (.lst ys)) : Vk K (upd R wr (.lst zs)) v T := by
  cases h with
  | non => exact .non
  | bl b => exact .bl b
  | int i => exact .int i
  | str z => exact .str z
  | tup h => exact .tup (h.mut hw)
  | lst h =>
    rename_i p xs
    by_cases e : p = wr
    · subst e
      exact .lst upd_same
    · exact .lst (by rw [upd_ne e]; exact h)
theorem least : ∀ ps : List Int, ps ≠ [] → ∃ m, m ∈ ps ∧ ∀ y, y ∈ ps → m ≤ y
  | [], h => (h rfl).elim
  | [x], _ => ⟨x, by simp, fun y hy => by rw [List.mem_singleton.mp hy]; exact Int.le_refl _⟩
  | x :: z :: r, _ => by
    obtain ⟨m, h1, h2⟩ := least (z :: r) (by simp)
    by_cases c : x ≤ m
    · refine ⟨x, by simp, fun y hy => ?_⟩
      rcases List.mem_cons.mp hy with rfl | h
      · exact Int.le_refl _
      · exact Int.le_trans c (h2 y h)
    · refine ⟨m, List.mem_cons_of_mem _ h1, fun y hy => ?_⟩
      rcases List.mem_cons.mp hy with rfl | h
      · omega
      · exact h2 y h
theorem eqv_tup_nil (ns : List Int) : PyData.eqv (.tuple (ns.map PyData.int)) (.tuple []) = ns.isEmpty := by
  cases ns <;> rfl
theorem sh_tup_ints (ns : List Int) : SeqAt.shaped (.tuple (ns.map PyData.int)) = true := by
  simp [SeqAt.shaped, PyData.canLay0, PyData.depth, PySem.W.ke_canLayAll0, PySem.W.ke_depthAll]
theorem tp_known (h : Tp K H p xs) (d : Deal N H a l) (known : ∀ b o, b ≠ a → b ≠ l → H b = some o → R b = some o) : Tp K R p xs := by
  rcases h.ne d with ⟨n1, n2⟩ | h'
  · rcases h with ⟨o, h1, h2⟩ | h
    · exact .inl ⟨o, h1, known _ _ n1 n2 h2⟩
    · exact .inr h
  · exact h' _
theorem if_skip {c : TT} {t : TS} {D : Ends} {σ : L2.St} (J : Hp → Prop) (after : ∀ H', J H' → D.nx σ H') (h : ∀ nx : Hp → Prop, (∀ H', J H' → nx H') → c σ H fun b H1 => if b = true then t D σ H1 else nx H1) : tIfS c t tNext D σ H := h _ after
theorem if_join {c : TT} {t : TS} {D : Ends} {σ : L2.St} (J : L2.St → Hp → Prop) (after : ∀ σ' H', J σ' H' → D.nx σ' H') (h : ∀ nx : L2.St → Hp → Prop, (∀ σ' H', J σ' H' → nx σ' H') → c σ H fun b H1 => if b = true then t { D with nx := nx } σ H1 else nx σ H1) : tIfS c t tNext D σ H := h _ after
theorem asg_join {te : TE} {i : Nat} {D : Ends} {σ : L2.St} (J : V → Hp → Prop) (after : ∀ v H', J v H' → D.nx (σ.set i (some v)) H') (h : ∀ Qk : VK, (∀ v H', J v H' → Qk v H') → te σ H Qk) : tAsg te (gName i) D σ H := h _ after
/-- both branches written -/
theorem if_both {c : TT} {t u : TS} {D : Ends} {σ : L2.St} (J : L2.St → Hp → Prop) (after : ∀ σ' H', J σ' H' → D.nx σ' H') (h : ∀ nx : L2.St → Hp → Prop, (∀ σ' H', J σ' H' → nx σ' H') → c σ H fun b H1 => if b = true then t { D with nx := nx } σ H1 else u { D with nx := nx } σ H1) : tIfS c t u D σ H := h _ after
end
end Own

/-! The head's facts, with the statics beside, and one's own exceptions. -/
namespace Own
open PySem PySem.Spec PyProof.Rows L2
open He (ga ma fAd eqO eqO_ok ba)
abbrev ExW : Type := Option (Str × Str × Arguments × FuncBody × Scope × Addr × List Str × Addr)
def exW (K : PySem.W.Frag) (x : Str) : ExW := match K.lookup (ma K (ga K x) "__init__") with
  | some ⟨_, _, .func fd, _⟩ => some (fd.name, fd.qualname, fd.params, fd.body, fd.scope, fd.globals, fd.closure.map (·.1), fd.builtins)
  | _ => none
/-- an own exception: its name, its base's name, its field, its __init__ -/
structure ExD where
  name : Str
  base : Str
  field : Str
  qual : Str
  params : Arguments
  body : List Stmt
  scope : Scope
def ExD.val (e : ExD) : ExW := some ("__init__", e.qual, e.params, .stmts e.body, e.scope, mainGlobals, ["__class__"], builtinsNs)
/-- a class one above another, both errors -/
def clsB (K : PySem.W.Frag) (C M : Addr) : Bool := match K.lookup C with
  | some ⟨.type "type", _, .cls cd, sl⟩ => (match sl.toList with
    | [_, _, _, _, some (.builtin n), _] => decide (cd.mro = .ref C :: .ref M :: PySem.OwX.exT) && decide (n = "Exception.__new__") && cd.hasDict && !cd.hasDel
    | _ => false)
  | _ => false
theorem clsB_ok {K : PySem.W.Frag} {C M : Addr} (h : clsB K C M = true) : ∃ nm q N bs sn sub ab col dd k0 k1 k2 k3 k5, K.lookup C = some (excClassObj nm q C N bs (.ref M :: PySem.OwX.exT) true sn sub ab col dd k0 k1 k2 k3 k5 "Exception.__new__") := by
  unfold clsB at h
  split at h
  · rename_i dd cd sl ho
    split at h
    · rename_i k0 k1 k2 k3 n k5 hs
      simp only [Bool.and_eq_true, decide_eq_true_eq, Bool.not_eq_true'] at h
      obtain ⟨⟨⟨hm, rfl⟩, hd⟩, hdel⟩ := h
      obtain ⟨nm, bs, mro, ns, qn, hdd, sn, sub, ab, col, del⟩ := cd
      dsimp only at hm hd hdel
      subst hm hd hdel
      have hsl : sl = #[k0, k1, k2, k3, some (.builtin "Exception.__new__"), k5] := by
        obtain ⟨l⟩ := sl
        simp only at hs
        rw [hs]
      subst hsl
      exact ⟨nm, qn, ns, bs, sn, sub, ab, col, dd, k0, k1, k2, k3, k5, ho⟩
    · cases h
  · cases h
/-- its __init__'s code, its cell -/
def initB (K : PySem.W.Frag) (file qual : Str) (C fI : Addr) : Bool := match K.lookup fI with
  | some ⟨_, _, .func fd, _⟩ => (match fd.defaults, fd.kwdefaults, fd.code, fd.closure with
    | .none, .none, .ref cda, [(_, cc)] => PySem.W.codeIn K (.ref cda) qual && (match K.lookup cda with
      | some ⟨_, _, .fields vs, _⟩ => (match (vs[2]? : Option Value) with
        | some (.str z _) => decide (z = file)
        | _ => false)
      | _ => false) && (match K.lookup cc with
      | some ⟨_, _, .cell (some (.ref D)), _⟩ => decide (D = C)
      | _ => false)
    | _, _, _, _ => false)
  | _ => false
theorem initB_ok {K : PySem.W.Frag} {file : Str} {C : Addr} {x : Str} {e : ExD} (h : initB K file e.qual C (ma K (ga K x) "__init__") = true) (w : exW K x = e.val) :
    ∃ (oc : Value) (od : Option Addr) (doc pm : Value) (an : Option Addr) (cda cc : Addr) (ct : Value) (osl : Array (Option Value)) (ccl cl : Value) (cdd cld : Option Addr) (ccs csl : Array (Option Value)) (vs : Array Value) (tf : Tok),
      K.lookup (ma K (ga K x) "__init__") = some ⟨oc, od, .func (PySem.W.ksFn "__init__" e.qual e.params e.body e.scope .none .none doc pm an (.ref cda) ct cc), osl⟩ ∧ PySem.W.codeIn K (.ref cda) e.qual = true ∧
        K.lookup cda = some ⟨ccl, cdd, .fields vs, ccs⟩ ∧ vs[2]? = some (.str file tf) ∧ K.lookup cc = some ⟨cl, cld, .cell (some (.ref C)), csl⟩ := by
  unfold initB at h
  unfold exW at w
  split at h
  · rename_i oc od fd osl ho
    rw [ho] at w
    have w2 : (some (fd.name, fd.qualname, fd.params, fd.body, fd.scope, fd.globals, fd.closure.map (·.1), fd.builtins) : ExW) = e.val := w
    obtain ⟨n1, n2, n3, n4, n5, n6, n7, n8, n9, n10, n11, n12, n13, n14, n15⟩ := fd
    dsimp only at h w2
    split at h
    · rename_i cda q cc
      rename_i e1 e2 e3 e4
      unfold ExD.val at w2
      simp only [Option.some.injEq, Prod.mk.injEq, List.map_cons, List.map_nil, List.cons.injEq, and_true] at w2
      obtain ⟨rfl, rfl, rfl, rfl, rfl, rfl, rfl, rfl⟩ := w2
      simp only [Bool.and_eq_true] at h
      obtain ⟨⟨h1, h2⟩, h3⟩ := h
      split at h2
      · rename_i ccl cdd vs ccs hc
        split at h2
        · rename_i z tf hz
          obtain rfl := of_decide_eq_true h2
          split at h3
          · rename_i cl cld D csl hcc
            obtain rfl := of_decide_eq_true h3
            exact ⟨oc, od, _, _, _, cda, cc, _, osl, ccl, cl, cdd, cld, ccs, csl, vs, tf, ho, h1, hc, hz, hcc⟩
          · cases h3
        · cases h2
      · cases h2
    · cases h
  · cases h
end Own

/-! .. the Hook, what it says. -/
namespace Own
open PySem PySem.Spec PyProof.Rows L2
open He (ga ma fAd eqO eqO_ok ba)
def ExD.ok (file : Str) (K : PySem.W.Frag) (e : ExD) : Bool :=
  clsB K (ga K e.name) (ga K e.base) && (initB K file e.qual (ga K e.name) (ma K (ga K e.name) "__init__") && (eqO (PySem.W.findIn K (.ref (ga K e.name)) "__setattr__") (some (some (.builtin "object.__setattr__"))) &&
  (eqO (PySem.W.findIn K (.ref (ga K e.name)) "__getattribute__") (some (some (.builtin "BaseException.__getattribute__"))) && (eqO (PySem.W.findIn K (.ref (ga K e.name)) "__getattr__") (some none) &&
  (eqO (PySem.W.findIn K (.ref (ga K e.name)) e.field) (some none) && (eqO (PySem.W.findIn K (.ref (ga K e.name)) "__init__") (some (some (.ref (ma K (ga K e.name) "__init__")))) &&
  (decide (PySem.W.typeIn K (.ref (ma K (ga K e.name) "__init__")) = some (.type "function")) && (PySem.W.keepIn K (.ref (ga K e.name)) && (decide (PySem.W.subIn K (.ref (ga K e.name)) (.type "BaseException") = some true) &&
  (decide (PySem.W.subIn K (.ref (ga K e.name)) (.type "Exception") = some true) && (decide (PySem.W.typeIn K (.ref (ga K e.name)) = some (.type "type")) && (PySem.W.hasDictIn K (ga K e.name) &&
  (decide (PySem.W.exmOne K (.ref (ga K e.name)) (.ref (ga K e.name)) = some true) && (eqO (PySem.W.alongIn K "__init__" (.ref (ga K e.base) :: PySem.OwX.exT)) (some (some (.builtin "Exception.__init__"))) &&
  eqO (PySem.W.nsIn K mainGlobals "super") (some none)))))))))))))))
def statB (K : PySem.W.Frag) : Bool := eqO (PySem.W.nsIn K cStatics "sys.int_max_str_digits") (some none) && eqO (PySem.W.nsIn K cStatics "thirdparty.any") (some none)
abbrev AlE : Type := He.AlD × Bool × List ExW
def obsE (file : Str) (fa : List He.Fa) (fn : List He.DefD) (ex : List ExD) (K : PySem.W.Frag) : AlE := (He.obsD fa fn K, statB K && ex.all (fun e => e.ok file K), ex.map fun e => exW K e.name)
def valE (fn : List He.DefD) (ex : List ExD) : AlE := (He.valD fn, true, ex.map ExD.val)
def SaysE (file : Str) (fa : List He.Fa) (fn : List He.DefD) (ex : List ExD) (K : PySem.W.Frag) : Prop := obsE file fa fn ex K = valE fn ex
def obsEG (file : Str) (n : Nat) (fa : List He.Fa) (fn : List He.DefD) (ex : List ExD) (g : Addr → Option Obj) : AlE := obsE file fa fn ex (He.frG g (cStatics :: He.asD g n))
def hookE (file : Str) (n : Nat) (fa : List He.Fa) (fn : List He.DefD) (ex : List ExD) : PySem.W.Hook where
  α := AlE
  obs := fun s => obsEG file n fa fn ex s.heap.get?
  val := fun _ => valE fn ex
  says := fun _ h => ∃ K : PySem.W.Frag, K.In h ∧ SaysE file fa fn ex K
  of := fun _ _ e => ⟨_, He.frG_in, e⟩
  keeps := fun _ _ _ ⟨K, hK, c⟩ k => ⟨K, PySem.W.Frag.In.keeps hK k, c⟩
theorem obsEG_eq {file : Str} {n : Nat} {fa : List He.Fa} {fn : List He.DefD} {ex : List ExD} {g : Addr → Option Obj} {s : Shared} (h : ∀ a, g a = s.heap.get? a) : obsEG file n fa fn ex g = (hookE file n fa fn ex).obs s := by
  have e : g = s.heap.get? := funext h
  rw [e] <;> rfl
section
variable {file : Str} {fa : List He.Fa} {fn : List He.DefD} {ex : List ExD} {K : PySem.W.Frag}
theorem SaysE.saysD (c : SaysE file fa fn ex K) : He.SaysD fa fn K := congrArg (fun z : AlE => z.1) c
theorem SaysE.st (c : SaysE file fa fn ex K) : statB K = true := (ba (show (statB K && ex.all (fun e => e.ok file K)) = true from congrArg (fun z : AlE => z.2.1) c)).1
theorem SaysE.ex_ (c : SaysE file fa fn ex K) (i : Nat) {e : ExD} (h : ex[i]? = some e := by rfl) : e.ok file K = true ∧ exW K e.name = e.val := by
  have c2 := (ba (show (statB K && ex.all (fun e => e.ok file K)) = true from congrArg (fun z : AlE => z.2.1) c)).2
  have e1 : ex.map (fun e => exW K e.name) = ex.map ExD.val := congrArg (fun z : AlE => z.2.2) c
  have e2 : (ex.map fun e => exW K e.name)[i]? = (ex.map ExD.val)[i]? := by rw [e1]
  rw [List.getElem?_map, List.getElem?_map, h] at e2
  exact ⟨List.all_eq_true.mp c2 e (List.mem_of_getElem? h), Option.some.inj e2⟩
theorem SaysE.digits (c : SaysE file fa fn ex K) : PySem.W.nsIn K cStatics "sys.int_max_str_digits" = some none := eqO_ok (ba c.st).1
/-- one of at -/
def exAt (nm base msg qual : Str) (p1 p2 r0 r1 r2 r3 r4 r5 q1 q2 q3 q4 : Pos) : ExD := ⟨nm, base, "at", qual, PySem.OwXat.iA p1 p2, [PySem.OwXat.sSup msg r0 r1 r2 r3 r4 r5, PySem.OwXat.sStore q1 q2 q3 q4], PySem.OwXat.iS⟩
theorem oex_at {P : Program} {nm base msg qual : Str} {p1 p2 r0 r1 r2 r3 r4 r5 q1 q2 q3 q4 : Pos} (st : statB K = true) (c : (exAt nm base msg qual p1 p2 r0 r1 r2 r3 r4 r5 q1 q2 q3 q4).ok P.main.file K = true ∧ exW K nm = (exAt nm base msg qual p1 p2 r0 r1 r2 r3 r4 r5 q1 q2 q3 q4).val)
    (top : (P.main.scope.names.lookup ("super" : Str)).isSome = false)
    (h1 : ∀ env : Env, ∃ pl : Sem Bool, eval (.Call (.Attribute (.Call (.Name "super" r0) [] [] r1) "__init__" r2) [.Constant (.str msg) 0 r3] [] r4) env = (do
        let ov ← attributeBase (.Call (.Name "super" r0) [] [] r1) "__init__" env (eval (.Call (.Name "super" r0) [] [] r1) env)
        standAt r2.atName
        let (f, first) ← holding [ov] (getMethod ov "__init__" pl)
        callWith r4 f first (backTo r4 (starEach [.Constant (.str msg) 0 r3] env)) []))
    (h2 : ∀ env : Env, swapsWith (.Call (.Attribute (.Call (.Name "super" r0) [] [] r1) "__init__" r2) [.Constant (.str msg) 0 r3] [] r4) none r5.line env = pure false)
    (h3 : ∀ env : Env, swapsWith (.Name "at" q3) (some (.Attribute (.Name "self" q1) "at" q2)) q4.line env = pure false) :
    PySem.OwXat.OexT P K (ga K nm) (ga K base) (ma K (ga K nm) "__init__") := by
  obtain ⟨c, w⟩ := c
  obtain ⟨c1, c⟩ := ba c
  obtain ⟨c2, c⟩ := ba c
  obtain ⟨c3, c⟩ := ba c
  obtain ⟨c4, c⟩ := ba c
  obtain ⟨c5, c⟩ := ba c
  obtain ⟨c6, c⟩ := ba c
  obtain ⟨c7, c⟩ := ba c
  obtain ⟨c8, c⟩ := ba c
  obtain ⟨c9, c⟩ := ba c
  obtain ⟨c10, c⟩ := ba c
  obtain ⟨c11, c⟩ := ba c
  obtain ⟨c12, c⟩ := ba c
  obtain ⟨c13, c⟩ := ba c
  obtain ⟨c14, c⟩ := ba c
  obtain ⟨c15, c16⟩ := ba c
  refine ⟨clsB_ok c1, eqO_ok c3, eqO_ok c4, eqO_ok c5, eqO_ok c6, eqO_ok c7, of_decide_eq_true c8, c9, of_decide_eq_true c10, of_decide_eq_true c11, of_decide_eq_true c12, c13, of_decide_eq_true c14, eqO_ok c15, eqO_ok (ba st).2, eqO_ok c16, top, ?_⟩
  obtain ⟨oc, od, doc, pm, an, cda, cc, ct, osl, ccl, cl, cdd, cld, ccs, csl, vs, tf, g1, g2, g3, g4, g5⟩ := initB_ok c2 w
  exact ⟨_, oc, od, doc, pm, an, cda, cc, ct, osl, msg, p1, p2, r0, r1, r2, r3, r4, r5, q1, q2, q3, q4, ccl, cl, cdd, cld, ccs, csl, vs, tf, g1, g2, g3, g4, g5, h1, h2, h3⟩
end
end Own

/-! tuple(range(n)); comprehensions that draw. -/
namespace Own
open PySem PySem.Spec PyProof.Rows L2 Evl
def tTupRange (te : TE) : TE := fun σ H Q => tRg1 te σ H fun a b H1 => RgOk a b ∧ NewT (rgV a b) H1 Q
section
variable {X : Cx}
theorem pe_tuple_range {e : Expr} {te : TE} {p pos p2 pos2 : Pos} (hm : X.mg "tuple" = none) (hm2 : X.mg "range" = none) (he : PE X e te) (hc : X.calm = true := by rfl) (hg : Gl X "tuple" := by rfl) (hg2 : Gl X "range" := by rfl)
    (na : starEach [e] X.env = (false, eval e X.env) :: starEach [] X.env := by rfl) (na2 : starEach [.Call (.Name "range" p2) [e] [] pos2] X.env = (false, eval (.Call (.Name "range" p2) [e] [] pos2) X.env) :: starEach [] X.env := by rfl) :
    PE X (.Call (.Name "tuple" p) [.Call (.Name "range" p2) [e] [] pos2] [] pos) (tTupRange te) := by
  have hr0 : PRg X (.Call (.Name "range" p2) [e] [] pos2) (tRg1 te) := prg_1 hg2 hm2 he na
  refine ⟨fun pins s σ H Q I h => ?_⟩
  refine Call_ (ld_blt I hg hm boot_tuple (PyProof.Rows.callWith_type1 (args_cons (thn (hr0 pins _ σ H _ (I.tok _) h) fun x s1 ⟨r, a, b, t, u, v, H1, ex, hr, I1, ok, q⟩ => args_nil ?_) na2) na2))
  subst ex
  obtain ⟨b1, b2, b3, b4, b5⟩ := ok
  refine call_tuple_range (n := (b - a).toNat) (I1.ok.hd hc) hr (small_one b1 b2 b3 b4) (rangeSize_nat a b) b5 fun h' tk acc hk hi => ?_
  have I2 : Inv X pins σ H1 { s1 with heap := h', toks := tk } := I1.kept hk
  have z := newT_end (tk := tk) I2 (vals_rg hi) (by rw [rgV_length, sizeLine_eq]; omega) q
  rw [Array.toArray_toList] at z
  exact z
end
section
variable {N : Nat} {a l : Addr} {R H : Hp} {J : It} {n : Nat} {G : Hp → Prop} {Y : Nat → Hp → V → Hp → Prop} {g : TG} {tt : TT} {te : TE} {vs : List Nat} {σ : L2.St}
/-- a comprehension within which draws are made -/
theorem lcW {Q : Addr → Hp → Prop} (S : Nat → List V → Hp → Prop) (w : Walk J n G Y) (hw : Wl N a l R H) (h0 : ∀ D, R D = none → S 0 [] (upd R D (.lst []))) (hG : ∀ Rd H', Ex R Rd → Wl N a l Rd H' → G H') (lenb : ∀ i acc Rd, S i acc Rd → acc.length ≤ 40000)
    (turn : ∀ i D acc Rd H1 x H2, i < n → Ex R Rd → Wl N a l Rd H1 → R D = none → Rd D = some (.lst acc) → S i acc Rd → Y i H1 x H2 → ∀ (K1 : VK) (K0 : Hp → Prop),
      (∀ y R5 H5, Ex R R5 → Wl N a l R5 H5 → R5 D = some (.lst acc) → S (i + 1) (acc ++ [y]) (upd R5 D (.lst (acc ++ [y]))) → K1 y H5) → (∀ R5 H5, Ex R R5 → Wl N a l R5 H5 → R5 D = some (.lst acc) → S (i + 1) acc R5 → K0 H5) →
      g x (wipe σ vs) H2 fun σ2 H3 => wipe σ2 vs = wipe σ vs ∧ tt σ2 H3 fun b H4 => if b = true then te σ2 H4 K1 else K0 H4)
    (q : ∀ D acc Rd H2, R D = none → Ex R Rd → Wl N a l Rd H2 → Rd D = some (.lst acc) → S n acc Rd → Q D H2) :
    ∀ D, H D = none → ∃ W : Nat → Nat → Hp → Prop, (∃ m, W 0 m (upd H D (.lst []))) ∧ ∀ i m H, W i m H →
      (J.stop i H ∧ Q D H) ∨ (J.go i H ∧ ∃ Nx : Hp → Prop, (∀ H', Nx H' → ∃ m', m' < m ∧ W (i + 1) m' H') ∧ ∀ x H', J.yld i H x H' → g x (wipe σ vs) H' fun σ2 H2 => wipe σ2 vs = wipe σ vs ∧ tt σ2 H2 fun b H3 =>
        if b = true then te σ2 H3 fun y H4 => ∃ acc, H4 D = some (.lst acc) ∧ acc.length < sizeLine ∧ Nx (upd H4 D (.lst (acc ++ [y]))) else Nx H3) := fun D hD => by
  have hR := hw.free hD
  refine lc_it w (fun i H' => ∃ acc Rd, Ex R Rd ∧ Wl N a l Rd H' ∧ Rd D = some (.lst acc) ∧ S i acc Rd) ⟨[], _, Ex.new hR, hw.new hD, upd_same, h0 D hR⟩ (fun i H' _ p => ?_) (fun i x H1 H2 hi p y => ?_) (fun H' p => ?_)
  · obtain ⟨acc, Rd, p1, p2, _⟩ := p
    exact hG Rd H' p1 p2
  · obtain ⟨acc, Rd, p1, p2, p3, p4⟩ := p
    refine turn i D acc Rd H1 x H2 hi p1 p2 hR p3 p4 y _ _ (fun z R5 H5 e5 w5 k5 s5 => ?_) (fun R5 H5 e5 w5 k5 s5 => ?_)
    · exact ⟨acc, w5.ex _ _ k5, sz_lt (by have := lenb _ _ _ p4; omega), acc ++ [z], _, ex_side e5 hR, w5.mut k5, upd_same, s5⟩
    · exact ⟨acc, R5, e5, w5, k5, s5⟩
  · obtain ⟨acc, Rd, p1, p2, p3, p4⟩ := p
    exact q D acc Rd H' hR p1 p2 p3 p4
end
/-! ### lists of small numbers -/
def nI (ps : List Nat) : List Int := ps.map fun p : Nat => (p : Int)
theorem nI_len (ps : List Nat) : (nI ps).length = ps.length := List.length_map ..
theorem nI_getD (ps : List Nat) (i : Nat) : (nI ps).getD i 0 = ((ps.getD i 0 : Nat) : Int) := by
  unfold nI
  rw [List.getD_eq_getElem?_getD, List.getElem?_map, List.getD_eq_getElem?_getD]
  cases ps[i]? <;> rfl
theorem at_nI {ps : List Nat} {i : Nat} (h : i < ps.length) : atI ((nI ps).map V.int) (i : Int) = some (.int ((ps.getD i 0 : Nat) : Int)) := by
  rw [← nI_getD]
  exact atI_int (by rw [nI_len]; exact h)
theorem nI_at {ps : List Nat} {i : Nat} {x : V} (h : ((nI ps).map V.int)[i]? = some x) : x = .int ((ps.getD i 0 : Nat) : Int) ∧ i < ps.length := by
  obtain ⟨h1, h2⟩ := int_at h
  rw [nI_getD] at h1
  rw [nI_len] at h2
  exact ⟨h1, h2⟩
theorem rgV_nI (n : Nat) : rgV 0 (n : Int) = (nI (List.range n)).map V.int := by
  unfold rgV nI
  rw [List.map_map, show ((n : Int) - 0).toNat = n by omega]
  apply List.map_congr_left
  intro i _
  show V.int ((0 : Int) + (i : Int)) = V.int (i : Int)
  exact congrArg V.int (by omega)
theorem range_ofN {n : Nat} (f : Nat → Nat) {ys : List Nat} (h1 : ys.length = n) (h : ∀ i, i < n → f i = ys.getD i 0) : (List.range n).map (fun i => V.int ((f i : Nat) : Int)) = (nI ys).map V.int :=
  range_of (fun i => ((f i : Nat) : Int)) (by rw [nI_len]; exact h1) fun i hi => by rw [nI_getD, h i hi]
/-! ### a pair of tuples: places and signs -/
def TpX (K : PySem.W.Frag) (H : Hp) (e : Addr) (ps : List Nat) (ss : List Int) : Prop := ∃ a b, Tp K H e [.ref a, .ref b] ∧ Tp K H a ((nI ps).map V.int) ∧ Tp K H b (ss.map V.int)
theorem TpX.ex {K : PySem.W.Frag} {H H1 : Hp} {e : Addr} {ps : List Nat} {ss : List Int} (t : TpX K H e ps ss) (x : Ex H H1) : TpX K H1 e ps ss := by
  obtain ⟨a, b, h1, h2, h3⟩ := t
  exact ⟨a, b, h1.ex x, h2.ex x, h3.ex x⟩
theorem TpX.mut {K : PySem.W.Frag} {R : Hp} {wr : Addr} {ys zs : List V} {e : Addr} {ps : List Nat} {ss : List Int} (t : TpX K R e ps ss) (hw : R wr = some (.lst ys)) : TpX K (upd R wr (.lst zs)) e ps ss := by
  obtain ⟨a, b, h1, h2, h3⟩ := t
  exact ⟨a, b, h1.mut hw, h2.mut hw, h3.mut hw⟩
theorem Sm.pair {K : PySem.W.Frag} {H : Hp} {p q : Addr} {ps : List Nat} {ss : List Int} (hp : TpX K H p ps ss) (hq : TpX K H q ps ss) (h1 : ps.length ≤ 1000) (h2 : ss.length ≤ 1000) (n : Nat) : Sm K H (n + 2) (.ref p) (.ref q) := by
  obtain ⟨a, b, e1, e2, e3⟩ := hp
  obtain ⟨c, d, f1, f2, f3⟩ := hq
  refine .inr ⟨p, q, _, _, rfl, rfl, e1, f1, rfl, by show 2 ≤ 1000; omega, fun i u v hu hv => ?_⟩
  rcases i with _ | _ | i
  · cases hu
    cases hv
    exact Sm.tup e2 f2 (scal_ints _) (by rw [List.length_map, nI_len]; exact h1) n
  · cases hu
    cases hv
    exact Sm.tup e3 f3 (scal_ints _) (by rw [List.length_map]; exact h2) n
  · cases hu
end Own
namespace Own
open PySem PySem.Spec PyProof.Rows L2 Evl
theorem nI_set (ps : List Nat) (j v : Nat) : ((nI ps).map V.int).set j (.int (v : Int)) = (nI (ps.set j v)).map V.int := by
  unfold nI
  rw [List.map_set, List.map_set]
theorem int_set (ps : List Int) (j : Nat) (v : Int) : (ps.map V.int).set j (.int v) = (ps.set j v).map V.int := by
  rw [List.map_set]
theorem nI_rep (n v : Nat) : List.replicate n (V.int (v : Int)) = (nI (List.replicate n v)).map V.int := by
  unfold nI
  rw [List.map_replicate, List.map_replicate]
/-- [x] * n -/
theorem rep_lst {x : V} {n : Nat} {H : Hp} {Q : VK} {l : Addr} (hl : H l = some (.lst [x])) (hn : n ≤ 10000) (k : ∀ p, H p = none → Q (.ref p) (upd H p (.lst (List.replicate n x)))) : rRep (.ref l) (.int (n : Int)) H Q := by
  refine ⟨l, n, [x], rfl, rfl, hl, by omega, by omega, ?_, ?_⟩
  · show 1 * (n : Int).toNat ≤ sizeLine
    rw [sizeLine_eq]
    omega
  · rw [rep_flat, show ((n : Int)).toNat = n by omega]
    exact k
end Own

/-! math.comb; enumerate(tuple); a pair of names, some of them cells; o[i] += e. -/
namespace PySem
namespace OwU
open PySem PySem.W PySem.Calls PyProof.Rows
set_option maxHeartbeats 4000000 in
theorem meets_enum0 {v : Value} {o : Obj} {H : Heap → Prop} (B : Begins v o H) :
    Meets (Builtin.«enumerate.__new__» ⟨[.type "enumerate", v], []⟩) (fun _ R s => H s.heap ∧
      R (.ok (.ret (.ref (s.heap.push o).objs.size))) { s with heap := (s.heap.push o).push { cls := .type "enumerate", data := .fields #[.none, .bool false, .ref s.heap.objs.size, rawInt 0, .none, .none] } }) :=
  .of_wp fun prog w A R s h => by
    obtain ⟨hp, g, d, tk, os⟩ := s; obtain ⟨h1, h⟩ := h
    have hsub := sub_enumerate
    have q1 : ∀ {A' : Around} {E : Value → Shared → Prop} {Q : Value → Shared → Prop}, Q (.ref hp.objs.size) ⟨hp.push o, g, d, tk, os⟩ → wpAny (model prog w) A' (pyIter v) Q E ⟨hp, g, d, tk, os⟩ :=
      fun q => B.iter prog w _ _ ⟨hp, g, d, tk, os⟩ _ h1 q
    wp_walk using q1
    refine wpAny_stack_any fun st => wpAny_pure ?_
    split
    · rename_i c _ _ _ _ _
      cases (c == Value.type "enumerate")
      · wp_walk using q1
        exact ⟨_, rfl, h⟩
      · wp_walk using q1
        exact ⟨_, rfl, h⟩
    · wp_walk using q1
      exact ⟨_, rfl, h⟩
section
variable {prog : Program} {w : World} {A : Around} {E : Value → Shared → Prop} {s : Shared}
theorem enum_begins0 {v : Value} {o : Obj} {H : Heap → Prop} {Q : Value → Shared → Prop} (B : Begins v o H) (h1 : H s.heap)
    (h : ∀ h', IsEnum h' (s.heap.objs.size + 1) s.heap.objs.size 0 .none → h'.get? s.heap.objs.size = some o → h'.objs.size = s.heap.objs.size + 2 →
      (∀ b o, s.heap.get? b = some o → h'.get? b = some o) → Q (.ref (s.heap.objs.size + 1)) { s with heap := h' }) :
    wpAny (model prog w) A (call (.type "enumerate") [v]) Q E s := by
  refine callType_new F.called_enumerate (by decide) (F.typeCall_enumerate_1 _) (F.newCall_enumerate_1 _) (fun obj => F.args_object_init_2 obj _) F.entry_enumerate_new
    (meets_enum0 B) ⟨h1, ?_⟩
  have hz : (s.heap.push o).objs.size = s.heap.objs.size + 1 := Heap.size_push ..
  show _ ∧ _
  rw [hz]
  have he : IsEnum ((s.heap.push o).push { cls := .type "enumerate", data := .fields #[.none, .bool false, .ref s.heap.objs.size, rawInt 0, .none, .none] }) (s.heap.objs.size + 1) s.heap.objs.size 0 .none := by
    have := Heap.get?_push_size (s.heap.push o) (o := { cls := .type "enumerate", data := .fields #[.none, .bool false, .ref s.heap.objs.size, rawInt 0, .none, .none] }) rfl
    rw [hz] at this; exact this
  refine ⟨⟨_, he, rfl⟩, h _ he (Heap.get?_push_of_some _ (Heap.get?_push_size _ B.free)) (by rw [Heap.size_push, hz]) fun b o x => Heap.get?_push_of_some _ (Heap.get?_push_of_some _ x)⟩
theorem enum_endT {e it l : Addr} {i : Nat} {items : Array Value} {old : Value} {Q : Option Value → Shared → Prop} (hh : A.handled = none)
    (he : IsEnum s.heap e it i old) (hit : s.heap.IsTupleIter it l i) (hl : s.heap.IsTuple l items) (hx : items[i]? = none)
    (hQ : ∀ h', Heap.ExtBut it s.heap h' → Q none { s with heap := h' }) : wpAny (model prog w) A (pyNext (.ref e)) Q E s := by
  have hT : s.TypeIs (.ref e) "enumerate" := ⟨_, he, rfl⟩
  unfold pyNext
  refine wpAny_bind (wpAny_attempt (wpAny_callSpecial?_slot (name := Str.ofString "__next__") hT F.slot_enumerate_next
    (wpAny_call_entry F.slot_enumerate_next hT F.entry_enumerate_next ?_ (F.args_enumerate_next_1 _))))
  show wpAny _ _ (field (.ref e) 2 >>= _) _ _ _
  refine wpAny_bind (wpAny_field he rfl (x := .ref it) rfl ?_)
  refine wpAny_bind (wpAny_nextOf_tuple_end hh hit hl hx fun h' x he' hx' => ?_)
  obtain ⟨o, ho, hc⟩ := hx'
  refine wpAny_bind (wpAny_isInstance (T := "StopIteration") (b := true) ⟨o, ho, hc⟩ isSubtype_stop ?_)
  exact wpAny_pure (hQ _ he')
end
end OwU
end PySem
namespace Own
open PySem PySem.Spec PySem.W PyProof.Rows L2 Evl
section
variable {X : Cx}
def rComb : List V → Hp → VK → Prop := fun vs H Q => ∃ a b : Int, vs = [.int a, .int b] ∧ 0 ≤ a ∧ 0 ≤ b ∧ a ≤ 9000 ∧ Q (.int (PySem.W.mcComb a b)) H
theorem cr_comb : CallR X (.builtin "math.comb") rComb := by
  intro pins s σ H vs us Q I r h
  obtain ⟨a, b, rfl, h0, h1, h2, q⟩ := h
  obtain ⟨t, u, rfl⟩ := Vals.int2 r
  exact PySem.W.mc_comb h0 h1 (by omega) (.inr (by omega)) fun _ => ⟨.int _, H, I.tok _, ⟨_, rfl⟩, q⟩
end
/-- xs[i], as o[i] += e reads it -/
theorem get_list {X : Cx} : PGet X (rIxL X.K) := by
  intro pins s σ H o i ov iv Q I ro ri h
  obtain ⟨p, xs, i, z, rfl, rfl, hq, he, q⟩ := h
  cases ro
  obtain ⟨t, rfl⟩ := ri
  obtain ⟨its, r, pl, hz⟩ := I.list hq
  obtain ⟨j, h1, h2, h3, h4, h5⟩ := atI_get he
  obtain ⟨w, ew, rw'⟩ := r.get h2
  have hl := r.length
  have hn := line63
  have fin : EP X pins σ Q w s := ⟨z, H, I, rw', q⟩
  by_cases h0 : 0 ≤ i
  · have hj : i.toNat = j := by
      rw [seqIndex_of h0 h5] at h1
      exact Option.some.inj h1
    exact wpAny_getItem_list pl.isList h0 (by omega) (by rw [hj]; simpa using ew) fin
  · have hj : (i + (its.toArray.size : Int)).toNat = j := by
      rw [seqIndex_neg (by omega) h4] at h1
      rw [List.size_toArray, ← hl]
      exact Option.some.inj h1
    exact wpAny_getItem_list_neg pl.isList (by omega) (by rw [List.size_toArray] <;> omega) (by omega) (by rw [hj]; simpa using ew) fin
theorem kget_list {X : Cx} {K : PySem.W.Frag} (h : X.K = K := by rfl) : PGet X (rIxL K) := by subst h; exact get_list
/-- sum(t) of a tuple of ints -/
theorem sum_rawT {prog : Program} {w : World} {A : Around} {E : Value → Shared → Prop} {s : Shared} {l : Addr} {its : List Value} {ns : List Int} {Q : Value → Shared → Prop} (hh : A.handled = none) (hl : s.heap.IsTuple l its.toArray) (hi : IntsAre its ns)
    (h : ∀ h' tk t', (∀ b o, s.heap.get? b = some o → h'.get? b = some o) → Q (.int ns.sum t') { s with heap := h', toks := tk }) : wpAny (model prog w) A (call (.builtin "sum") [.ref l]) Q E s := by
  obtain ⟨xs, e⟩ := hi.allInts.items
  have hn : numsOf (intItems xs).toList = ns := by rw [← e]; exact hi.numsOf
  rw [nums_intItems] at hn
  rw [e] at hl
  refine PySem.W.ktm_sumG hh hl fun h' tk t' hk => ?_
  have := h h' tk t' hk
  rw [preSum_eq, List.take_of_length_le (by simp), hn]; exact this
def rSumT (K : PySem.W.Frag) : List V → Hp → VK → Prop := fun vs H Q => ∃ (a : Addr) (ns : List Int), vs = [V.ref a] ∧ SqT K H a (ns.map V.int) ∧ Q (.int ns.sum) H
theorem kc_sumT {X : Cx} {K : PySem.W.Frag} (hc : X.calm = true) (h : X.K = K := by rfl) : CallR X (.builtin "sum") (rSumT K) := by
  subst h
  intro pins s σ H vs us Q I r h
  obtain ⟨a, ns, rfl, hs, q⟩ := h
  obtain ⟨its, rv, hl, _⟩ := I.tuple hs
  rw [Vals.ref1 r]
  exact sum_rawT (I.ok.hd hc) (show s.heap.IsTuple a its.toArray from hl) rv.ints fun h' tk t' hk => ⟨.int _, H, I.kept hk, ⟨_, rfl⟩, q⟩
/-! ### enumerate(tuple) -/
def IteT (K : PySem.W.Frag) (a : Addr) : It :=
  ⟨fun i H => ∃ (xs : List V) (x : V), SqT K H a xs ∧ xs[i]? = some x, fun i H v H' => ∃ T x, v = .ref T ∧ H T = none ∧ H' = upd H T (.tup [.int (i : Nat), x]) ∧ ∀ xs, SqT K H a xs → xs[i]? = some x, fun i H => ∃ xs : List V, SqT K H a xs ∧ xs.length ≤ i⟩
theorem turn_enumT {P : Program} {w : World} {K : PySem.W.Frag} {elts : List Expr} {kk : Nat} {tpos : Pos} (a e it : Addr) :
    Turn P w K (.Tuple elts kk tpos) (IteT K a) [e, it] e (fun i h => (∃ old, IsEnum h e it ((i : Nat) : Int) old) ∧ h.IsTupleIter it a i ∧ e ≠ it) where
  mem := by simp
  obj := fun i h st b hb => by
    obtain ⟨⟨old, he⟩, ⟨o, ho, hc, hd⟩, _⟩ := st
    have e' : b = e ∨ b = it := by simpa using hb
    rcases e' with z | z
    · rw [z]; exact ⟨_, he, fun v q => nomatch q⟩
    · rw [z]; exact ⟨o, ho, fun v q => by rw [hd] at q; cases q⟩
  keep := fun i h h' st k => let ⟨⟨old, he⟩, hi, hne⟩ := st; ⟨⟨old, k e (by simp) _ he⟩, hi.at fun o q => k it (by simp) o q, hne⟩
  item := by
    intro X hP hw hK hc i pins s σ H E I hf st hg
    subst hP hw hK
    obtain ⟨⟨old, he⟩, hit, hne⟩ := st
    obtain ⟨xs, x, hq, hx⟩ := hg
    obtain ⟨its, rv, p, hz⟩ := I.tuple hq
    have pt : s.heap.IsTuple a its.toArray := p
    obtain ⟨u, hu, ru⟩ := rv.get hx
    have hel : e < s.heap.objs.size := Heap.lt_size he
    have hil : it < s.heap.objs.size := by obtain ⟨_, q, _⟩ := hit; exact Heap.lt_size q
    have hea : e ≠ a := fun z => by
      obtain ⟨o, ho, hcl, _⟩ := pt
      rw [← z] at ho
      have he' : s.heap.get? e = some _ := he
      rw [ho] at he'
      cases he'
      exact absurd (show Value.type "enumerate" = Value.type "tuple" from hcl) (by decide)
    have hai : a ≠ it := fun z => by
      obtain ⟨o, ho, hcl, _⟩ := pt
      obtain ⟨o2, ho2, hcl2, _⟩ := hit
      rw [z, ho2] at ho
      cases ho
      rw [hcl2] at hcl
      exact absurd hcl (by decide)
    have D := Draws.tuple (prog := X.prog) (w := X.w) (A := X.A.in1) (show X.A.in1.handled = none from I.ok.hd hc) it a hai its.toArray
    have hlt : i < its.toArray.size := by
      have := (List.getElem?_eq_some_iff.mp hu).1
      simpa using this
    refine wpAny_pyNext_enum_itemD D he ⟨hit, pt⟩ hlt hne (by simp [hne, hea]) fun x' h' tk hP ho hst hT hsz hk => ?_
    have ex : x' = u := by
      have h1 : its.toArray[i]? = some x' := hP
      rw [show its.toArray[i]? = its[i]? by simp, hu] at h1
      exact (Option.some.inj h1).symm
    subst ex
    refine ⟨_, rfl, wpAny_letOwnedTupleGo_enum (s := { s with heap := h', toks := tk + 1 }) ho fun h'' he' sb => ?_⟩
    have hT2 : h''.get? s.heap.objs.size = some { cls := .type "tuple", data := .seq #[.int i tk, x'] } := (sb.2 _ (Nat.ne_of_gt hel)).trans hT
    have new : ObjOk X.prog X.w (upd H s.heap.objs.size (.tup [.int (i : Nat), x])) h'' s.heap.objs.size (.tup [.int (i : Nat), x]) :=
      ⟨by show 2 ≤ sizeLine; decide, [.int i tk, x'], .cons ⟨_, rfl⟩ (.cons ru .nil), ⟨_, hT2, rfl, _, rfl⟩⟩
    have I1 : Inv X pins σ (upd H s.heap.objs.size (.tup [.int (i : Nat), x])) { s with heap := h'', toks := tk + 1 } :=
      I.turnedNew (ch := [e, it]) (fun b ob hb q => (sb.2 b (fun z => hb (by simp [z]))).trans (hk b ob (fun z => hb (by simp [z])) (fun z => hb (by simp [z])) q)) hf (Nat.le_refl _) new
    refine ⟨.ref s.heap.objs.size, _, I1, rfl, ⟨_, x, rfl, I.hok.fresh (Nat.le_refl _), rfl, fun ys hy => by rw [I.tuple_inj hy hq]; exact hx⟩, ⟨⟨x', ?_⟩, hst.1.at fun o q => (sb.2 it (Ne.symm hne)).trans q, hne⟩, fun b hb => ?_⟩
    · have e1 : ((i + 1 : Nat) : Int) = (i : Int) + 1 := by omega
      rw [e1]; exact he'
    · have hb' : b < s.heap.objs.size := by
        have e' : b = e ∨ b = it := by simpa using hb
        rcases e' with z | z
        · rw [z]; exact hel
        · rw [z]; exact hil
      rw [upd_ne (Nat.ne_of_lt hb')]
      exact (hf b hb).1
  done := by
    intro X hP hw hK hc i pins s σ H E I hf st hg
    subst hP hw hK
    obtain ⟨⟨old, he⟩, hit, hne⟩ := st
    obtain ⟨xs, hq, hx⟩ := hg
    obtain ⟨its, rv, p, hz⟩ := I.tuple hq
    have pt : s.heap.IsTuple a its.toArray := p
    obtain ⟨f0, f1, f2, f3, f4, f5⟩ := hf it (by simp)
    have hl := rv.length
    exact PySem.OwU.enum_endT (I.ok.hd hc) he hit pt (by simp; omega) fun h' eb => ⟨rfl, I.turned (t' := s.toks) (fun b o hb q => eb b o hb q) f0 f1 f3 f4 f5⟩
  self := fun A i s Q E st h => let ⟨⟨_, he⟩, _⟩ := st; wpAny_pyIter_enum he h
/-- a, b = x, y, not both plain locals -/
theorem walk_enumT {K : PySem.W.Frag} {a : Addr} {xs : List V} : Walk (IteT K a) xs.length (fun H => SqT K H a xs) (fun i H v H' => ∃ T x, v = .ref T ∧ H T = none ∧ H' = upd H T (.tup [.int (i : Nat), x]) ∧ xs[i]? = some x) := by
  refine ⟨fun i _ hi q => ⟨xs, xs[i], q, by simp [hi]⟩, fun _ q => ⟨xs, q, Nat.le_refl _⟩, fun i H v H' _ q y => ?_⟩
  obtain ⟨T, x, h1, h2, h3, h4⟩ := y
  exact ⟨T, x, h1, h2, h3, h4 xs q⟩
theorem walk_enumL {K : PySem.W.Frag} {a : Addr} {xs : List V} : Walk (Ite K a) xs.length (fun H => SqL K H a xs) (fun i H v H' => ∃ T x, v = .ref T ∧ H T = none ∧ H' = upd H T (.tup [.int (i : Nat), x]) ∧ xs[i]? = some x) := by
  refine ⟨fun i _ hi q => ⟨xs, xs[i], q, by simp [hi]⟩, fun _ q => ⟨xs, q, Nat.le_refl _⟩, fun i H v H' _ q y => ?_⟩
  obtain ⟨T, x, h1, h2, h3, h4⟩ := y
  exact ⟨T, x, h1, h2, h3, h4 xs q⟩
def iEnumT (K : PySem.W.Frag) (ta : TA) : TI := fun σ H R => ta σ H fun vs H1 => ∃ a xs, vs = [.ref a] ∧ SqT K H1 a xs ∧ R (IteT K a) H1
theorem pi_enumT {X : Cx} {e : Expr} {ta : TA} {p pos tpos : Pos} {elts : List Expr} {kk : Nat} (hg : Gl X "enumerate") (hm : X.mg "enumerate" = none) (ha : PA X [e] ta) (hs : starEach [e] X.env = [(false, eval e X.env)] := by rfl) :
    PI X (.Tuple elts kk tpos) (.Call (.Name "enumerate" p) [e] [] pos) (iEnumT X.K ta) := by
  refine ⟨fun pins s σ H R I h => ?_⟩
  refine Call_ (ld_blt I hg hm boot_enumerate (PyProof.Rows.callWith_type1 (thn (ha.run pos pins s σ H _ I h) fun us s1 ⟨vs, H1, I1, r1, q1⟩ => ?_) hs rfl))
  obtain ⟨a, xs, ex, hq, q⟩ := q1
  subst ex
  cases r1 with
  | cons r rr =>
    cases rr
    cases r
    obtain ⟨its, rv, p', hz⟩ := I1.tuple hq
    have pt : s1.heap.IsTuple a its.toArray := p'
    refine PySem.OwU.enum_begins0 (begins_tuple a its.toArray) pt fun h' he hit hsz hk => wpAny_pyIter_enum he ?_
    have I2 : Inv X pins σ H1 { s1 with heap := h' } := I1.kept (t' := s1.toks) hk
    refine ⟨s1.heap.objs.size + 1, [s1.heap.objs.size + 1, s1.heap.objs.size], _, _, H1, rfl, I2, turn_enumT a (s1.heap.objs.size + 1) s1.heap.objs.size, ⟨⟨.none, he⟩, ⟨_, hit, rfl, rfl⟩, Nat.succ_ne_self _⟩, fun b hb => ?_, q⟩
    have e' : b = s1.heap.objs.size + 1 ∨ b = s1.heap.objs.size := by simpa using hb
    have hle : s1.heap.objs.size ≤ b := by
      rcases e' with z | z
      · rw [z]; exact Nat.le_add_right _ _
      · rw [z]; exact Nat.le_refl _
    exact I1.fpOk hle (I1.hok.fresh hle)
end Own

/-! Comprehensions whose items are new objects. -/
namespace Own
open PySem PySem.Spec PyProof.Rows L2 Evl
section
variable {H : Hp} {J : It} {n : Nat} {G : Hp → Prop} {Y : Nat → Hp → V → Hp → Prop} {g : TG} {tt : TT} {te : TE} {vs : List Nat} {σ : L2.St}
theorem lcX {Q : Addr → Hp → Prop} (S : Nat → List V → Hp → Prop) (w : Walk J n G Y) (h0 : ∀ D, H D = none → S 0 [] (upd H D (.lst []))) (hG : ∀ H', Ex H H' → G H') (lenb : ∀ i acc H', S i acc H' → acc.length ≤ 40000)
    (turn : ∀ i D acc H1 x H2, i < n → Ex H H1 → H D = none → H1 D = some (.lst acc) → S i acc H1 → Y i H1 x H2 → ∀ (K1 : VK) (K0 : Hp → Prop),
      (∀ y H5, Ex H1 H5 → S (i + 1) (acc ++ [y]) (upd H5 D (.lst (acc ++ [y]))) → K1 y H5) → (∀ H5, Ex H1 H5 → S (i + 1) acc H5 → K0 H5) →
      g x (wipe σ vs) H2 fun σ2 H3 => wipe σ2 vs = wipe σ vs ∧ tt σ2 H3 fun b H4 => if b = true then te σ2 H4 K1 else K0 H4)
    (q : ∀ D acc H2, H D = none → Ex H H2 → H2 D = some (.lst acc) → S n acc H2 → Q D H2) :
    ∀ D, H D = none → ∃ W : Nat → Nat → Hp → Prop, (∃ m, W 0 m (upd H D (.lst []))) ∧ ∀ i m H, W i m H →
      (J.stop i H ∧ Q D H) ∨ (J.go i H ∧ ∃ Nx : Hp → Prop, (∀ H', Nx H' → ∃ m', m' < m ∧ W (i + 1) m' H') ∧ ∀ x H', J.yld i H x H' → g x (wipe σ vs) H' fun σ2 H2 => wipe σ2 vs = wipe σ vs ∧ tt σ2 H2 fun b H3 =>
        if b = true then te σ2 H3 fun y H4 => ∃ acc, H4 D = some (.lst acc) ∧ acc.length < sizeLine ∧ Nx (upd H4 D (.lst (acc ++ [y]))) else Nx H3) := fun D hD => by
  refine lc_it w (fun i H' => Ex H H' ∧ ∃ acc, H' D = some (.lst acc) ∧ S i acc H') ⟨Ex.new hD, [], upd_same, h0 D hD⟩ (fun i H' _ p => hG H' p.1) (fun i x H1 H2 hi p y => ?_) (fun H' p => ?_)
  · obtain ⟨p1, acc, p2, p3⟩ := p
    refine turn i D acc H1 x H2 hi p1 hD p2 p3 y _ _ (fun z H5 e5 s5 => ?_) (fun H5 e5 s5 => ?_)
    · exact ⟨acc, e5 _ _ p2, sz_lt (by have := lenb _ _ _ p3; omega), ex_side (p1.trans e5) hD, acc ++ [z], upd_same, s5⟩
    · exact ⟨p1.trans e5, acc, e5 _ _ p2, s5⟩
  · obtain ⟨p1, acc, p2, p3⟩ := p
    exact q D acc H' hD p1 p2 p3
end
/-- x is True, x is False, x a plain value -/
theorem op_isBg {X : Cx} : OpR X (compareOp .Is) (fun x y H Q => ∃ b : Bool, y = .bl b ∧ scalV x = true ∧ Q (.bl (decide (x = .bl b))) H) := by
  intro pins s σ H x y v u Q I rx ry h
  obtain ⟨b, rfl, hs, q⟩ := h
  cases (show u = Value.bool b from ry)
  cases x <;> first | cases hs | skip
  · cases (show v = Value.none from rx)
    exact wpAny_is_other rfl (fun z => by cases z) ⟨.bl false, H, I, rfl, by simpa using q⟩
  · rename_i a
    cases (show v = Value.bool a from rx)
    by_cases e : a = b
    · subst e
      exact wpAny_is_self rfl ⟨.bl true, H, I, rfl, by simpa using q⟩
    · exact wpAny_is_other rfl (fun z => e (Value.bool.inj z)) ⟨.bl false, H, I, rfl, by simpa [e] using q⟩
  · obtain ⟨t, rfl⟩ := rx
    exact wpAny_is_other rfl (fun z => by cases z) ⟨.bl false, H, I, rfl, by simpa using q⟩
  · obtain ⟨t, rfl⟩ := rx
    exact wpAny_is_other rfl (fun z => by cases z) ⟨.bl false, H, I, rfl, by simpa using q⟩
/-! ### a tuple of pairs of ints -/
def pairL (f : Int × Int) : List V := [.int f.1, .int f.2]
structure LstP (K : PySem.W.Frag) (H : Hp) (es : List Addr) (fs : List (Int × Int)) : Prop where
  len : es.length = fs.length
  at_ : ∀ (i : Nat) e f, es[i]? = some e → fs[i]? = some f → Tp K H e (pairL f)
def TpP (K : PySem.W.Frag) (H : Hp) (p : Addr) (fs : List (Int × Int)) : Prop := ∃ es, Tp K H p (es.map V.ref) ∧ LstP K H es fs
section
variable {K : PySem.W.Frag} {H H1 : Hp} {es : List Addr} {fs : List (Int × Int)}
theorem LstP.ex (l : LstP K H es fs) (e : Ex H H1) : LstP K H1 es fs := ⟨l.len, fun i a f h1 h2 => (l.at_ i a f h1 h2).ex e⟩
theorem LstP.mut {wr : Addr} {ys zs : List V} (l : LstP K H es fs) (hw : H wr = some (.lst ys)) : LstP K (upd H wr (.lst zs)) es fs := ⟨l.len, fun i a f h1 h2 => (l.at_ i a f h1 h2).mut hw⟩
theorem LstP.push {e : Addr} {f : Int × Int} (l : LstP K H es fs) (t : Tp K H e (pairL f)) : LstP K H (es ++ [e]) (fs ++ [f]) := by
  refine ⟨by rw [List.length_append, List.length_append, l.len]; rfl, fun i a y h1 h2 => ?_⟩
  by_cases c : i < es.length
  · rw [List.getElem?_append_left c] at h1
    rw [List.getElem?_append_left (by rw [← l.len]; exact c)] at h2
    exact l.at_ i a y h1 h2
  · rw [List.getElem?_append_right (by omega)] at h1
    rw [List.getElem?_append_right (by rw [← l.len]; omega), ← l.len] at h2
    have : i - es.length = 0 := by
      have := (List.getElem?_eq_some_iff.mp h1).1
      simp at this
      omega
    rw [this] at h1 h2
    cases h1
    cases h2
    exact t
theorem TpP.ex {p : Addr} (t : TpP K H p fs) (e : Ex H H1) : TpP K H1 p fs := by
  obtain ⟨es, h1, h2⟩ := t
  exact ⟨es, h1.ex e, h2.ex e⟩
/-- two tuples of the same pairs -/
theorem Sm.pairs {p q : Addr} (hp : TpP K H p fs) (hq : TpP K H q fs) (hl : fs.length ≤ 1000) (n : Nat) : Sm K H (n + 2) (.ref p) (.ref q) := by
  obtain ⟨es, h1, h2⟩ := hp
  obtain ⟨es', g1, g2⟩ := hq
  refine .inr ⟨p, q, _, _, rfl, rfl, h1, g1, by rw [List.length_map, List.length_map, h2.len, g2.len], by rw [List.length_map, h2.len]; exact hl, fun i u v hu hv => ?_⟩
  rw [List.getElem?_map] at hu hv
  cases e : es[i]? with
  | none =>
    rw [e] at hu
    cases hu
  | some a =>
    cases e' : es'[i]? with
    | none =>
      rw [e'] at hv
      cases hv
    | some b =>
      rw [e] at hu
      rw [e'] at hv
      cases hu
      cases hv
      have hi := (List.getElem?_eq_some_iff.mp e).1
      have hf : fs[i]? = some (fs[i]'(by rw [← h2.len]; exact hi)) := List.getElem?_eq_getElem _
      refine Sm.tup (h2.at_ i a _ e hf) (g2.at_ i b _ e' hf) (fun x hx => ?_) (by show 2 ≤ 1000; omega) n
      rcases List.mem_cons.mp hx with rfl | hx
      · rfl
      · rw [List.mem_singleton.mp hx]
        rfl
end
end Own

/-! The Hook with names that stand for built-ins of other modules (math.comb ..). -/
namespace Own
open PySem PySem.Spec PyProof.Rows L2
open He (ga ma fAd eqO eqO_ok ba)
abbrev BiL : Type := List (Str × String)
def biB (K : PySem.W.Frag) (bs : BiL) : Bool := bs.all fun b => eqO (PySem.W.nsIn K mainGlobals b.1) (some (some (.builtin b.2)))
abbrev AlW : Type := AlE × Bool
def obsW (file : Str) (bs : BiL) (fa : List He.Fa) (fn : List He.DefD) (ex : List ExD) (K : PySem.W.Frag) : AlW := (obsE file fa fn ex K, biB K bs)
def valW (fn : List He.DefD) (ex : List ExD) : AlW := (valE fn ex, true)
def SaysW (file : Str) (bs : BiL) (fa : List He.Fa) (fn : List He.DefD) (ex : List ExD) (K : PySem.W.Frag) : Prop := obsW file bs fa fn ex K = valW fn ex
def obsWG (file : Str) (n : Nat) (bs : BiL) (fa : List He.Fa) (fn : List He.DefD) (ex : List ExD) (g : Addr → Option Obj) : AlW := obsW file bs fa fn ex (He.frG g (cStatics :: He.asD g n))
def hookW (file : Str) (n : Nat) (bs : BiL) (fa : List He.Fa) (fn : List He.DefD) (ex : List ExD) : PySem.W.Hook where
  α := AlW
  obs := fun s => obsWG file n bs fa fn ex s.heap.get?
  val := fun _ => valW fn ex
  says := fun _ h => ∃ K : PySem.W.Frag, K.In h ∧ SaysW file bs fa fn ex K
  of := fun _ _ e => ⟨_, He.frG_in, e⟩
  keeps := fun _ _ _ ⟨K, hK, c⟩ k => ⟨K, PySem.W.Frag.In.keeps hK k, c⟩
theorem obsWG_eq {file : Str} {n : Nat} {bs : BiL} {fa : List He.Fa} {fn : List He.DefD} {ex : List ExD} {g : Addr → Option Obj} {s : Shared} (h : ∀ a, g a = s.heap.get? a) : obsWG file n bs fa fn ex g = (hookW file n bs fa fn ex).obs s := by
  have e : g = s.heap.get? := funext h
  rw [e] <;> rfl
section
variable {file : Str} {bs : BiL} {fa : List He.Fa} {fn : List He.DefD} {ex : List ExD} {K : PySem.W.Frag} {h : Heap} {mg : Str → Option Value}
theorem SaysW.e (c : SaysW file bs fa fn ex K) : SaysE file fa fn ex K := congrArg (fun z : AlW => z.1) c
theorem SaysW.saysD (c : SaysW file bs fa fn ex K) : He.SaysD fa fn K := c.e.saysD
theorem SaysW.bi (c : SaysW file bs fa fn ex K) (X : K.In h) (G : h.Ns mainGlobals mg) (i : Nat) {x : Str} {b : String} (e : bs[i]? = some (x, b) := by rfl) : mg x = some (.builtin b) := by
  have c2 : biB K bs = true := congrArg (fun z : AlW => z.2) c
  have := List.all_eq_true.mp c2 (x, b) (List.mem_of_getElem? e)
  exact PySem.W.mg_of X G (eqO_ok this)
end
end Own

/-! What is a list or a tuple: walked, enumerated, zipped, read, measured. -/
namespace Own
open PySem PySem.Spec PySem.W PyProof.Rows L2 Evl
/-- a list (false), a tuple (true) -/
def SqB (K : PySem.W.Frag) (b : Bool) (H : Hp) (a : Addr) (xs : List V) : Prop := match b with
  | true => SqT K H a xs
  | false => SqL K H a xs
def isB (b : Bool) (h : Heap) (l : Addr) (its : Array Value) : Prop := match b with
  | true => h.IsTuple l its
  | false => h.IsList l its
def itB (b : Bool) (h : Heap) (it l : Addr) (i : Nat) : Prop := match b with
  | true => h.IsTupleIter it l i
  | false => h.IsListIter it l i
def obB (b : Bool) (l : Addr) : Obj := { cls := .type (match b with | true => "tuple_iterator" | false => "list_iterator"), data := .fields #[.ref l, .int 0 0] }
theorem itB_ob {b : Bool} {h : Heap} {it l : Addr} {i : Nat} (x : itB b h it l i) : ∃ o vs, h.get? it = some o ∧ o.data = .fields vs := by
  cases b with
  | true =>
    obtain ⟨o, h1, h2, h3⟩ := x
    exact ⟨o, _, h1, h3⟩
  | false =>
    obtain ⟨o, h1, h2, h3⟩ := x
    exact ⟨o, _, h1, h3⟩
theorem itB_at {b : Bool} {h h' : Heap} {it l : Addr} {i : Nat} (x : itB b h it l i) (e : ∀ o, h.get? it = some o → h'.get? it = some o) : itB b h' it l i := by
  cases b with
  | true => exact Heap.IsTupleIter.at x e
  | false => exact Heap.IsListIter.at x e
theorem isB_ne {b : Bool} {h : Heap} {l it l2 : Addr} {i : Nat} {its : Array Value} {b2 : Bool} (x : isB b h l its) (y : itB b2 h it l2 i) : l ≠ it := fun z => by
  subst z
  cases b <;> cases b2 <;>
  · obtain ⟨o, h1, h2, _⟩ := x
    obtain ⟨o', g1, g2, _⟩ := y
    rw [h1] at g1
    cases g1
    rw [h2] at g2
    exact absurd g2 (by decide)
theorem isB_lt {b : Bool} {h : Heap} {l : Addr} {its : Array Value} (x : isB b h l its) : l < h.objs.size := by
  cases b with
  | true =>
    obtain ⟨o, h1, _⟩ := x
    exact Heap.lt_size h1
  | false =>
    obtain ⟨o, h1, _⟩ := x
    exact Heap.lt_size h1
theorem drawsB {P : Program} {w : World} {A : Around} (hh : A.handled = none) : ∀ (b : Bool) (it l : Addr), l ≠ it → ∀ its : Array Value, Draws P w A it [it, l] its.size (fun i v => its[i]? = some v) (fun i h => itB b h it l i ∧ isB b h l its)
  | true, it, l, hne, its => Draws.tuple hh it l hne its
  | false, it, l, hne, its => Draws.list hh it l hne its
theorem beginsB : ∀ (b : Bool) (l : Addr) (its : Array Value), Begins (.ref l) (obB b l) fun h => isB b h l its
  | true, l, its => begins_tuple l its
  | false, l, its => begins_list l its
theorem itB_new : ∀ (b : Bool) {h : Heap} {it l : Addr}, h.get? it = some (obB b l) → itB b h it l 0
  | true, _, _, _, e => ⟨_, e, rfl, rfl⟩
  | false, _, _, _, e => ⟨_, e, rfl, rfl⟩
theorem seqB {X : Cx} {pins : List (Addr × Obj)} {σ : L2.St} {H : Hp} {s : Shared} (I : Inv X pins σ H s) : ∀ {b : Bool} {a : Addr} {xs : List V}, SqB X.K b H a xs → ∃ its : List Value, Vals xs its ∧ isB b s.heap a its.toArray
  | true, _, _, h => by
    obtain ⟨its, r, p, _⟩ := I.tuple h
    exact ⟨its, r, p⟩
  | false, _, _, h => by
    obtain ⟨its, r, p, _⟩ := I.list h
    exact ⟨its, r, p.isList⟩
theorem seqB_inj {X : Cx} {pins : List (Addr × Obj)} {σ : L2.St} {H : Hp} {s : Shared} (I : Inv X pins σ H s) : ∀ {b : Bool} {a : Addr} {xs ys : List V}, SqB X.K b H a xs → SqB X.K b H a ys → xs = ys
  | true, _, _, _, h, h' => I.tuple_inj h h'
  | false, _, _, _, h, h' => I.list_inj h h'
/-! ### zip -/
def ItzB (K : PySem.W.Frag) (b1 b2 : Bool) (a1 a2 : Addr) : It :=
  ⟨fun i H => ∃ (xs ys : List V) (x y : V), SqB K b1 H a1 xs ∧ SqB K b2 H a2 ys ∧ xs[i]? = some x ∧ ys[i]? = some y,
    fun i H v H' => ∃ T x y, v = .ref T ∧ H T = none ∧ H' = upd H T (.tup [x, y]) ∧ (∀ xs, SqB K b1 H a1 xs → xs[i]? = some x) ∧ ∀ ys, SqB K b2 H a2 ys → ys[i]? = some y,
    fun i H => ∃ xs ys : List V, SqB K b1 H a1 xs ∧ SqB K b2 H a2 ys ∧ i ≤ xs.length ∧ i ≤ ys.length ∧ (i = xs.length ∨ i = ys.length)⟩
theorem turn_zipB {P : Program} {w : World} {K : PySem.W.Frag} {elts : List Expr} {kk : Nat} {tpos : Pos} {b1 b2 : Bool} {a1 a2 zz ti tt j1 j2 : Addr} (S : ZipSep2 zz ti tt j1 j2 [j1, a1] [j2, a2]) (n1 : a1 ≠ j1) (n2 : a2 ≠ j2) :
    Turn P w K (.Tuple elts kk tpos) (ItzB K b1 b2 a1 a2) [zz, ti, tt, j1, j2] zz (fun i h => IsZip h zz ti tt .none ∧ IsTupOf2 h ti (.ref j1) (.ref j2) ∧ (∃ x y, IsTupOf2 h tt x y) ∧ itB b1 h j1 a1 i ∧ itB b2 h j2 a2 i) where
  mem := by simp
  obj := fun i h st c hc => by
    obtain ⟨hz, hTI, ⟨x, y, hTO⟩, h1, h2⟩ := st
    have cases5 : c = zz ∨ c = ti ∨ c = tt ∨ c = j1 ∨ c = j2 := by simpa using hc
    rcases cases5 with rfl | rfl | rfl | rfl | rfl
    · exact ⟨_, hz, fun v q => nomatch q⟩
    · exact ⟨_, hTI, fun v q => nomatch q⟩
    · exact ⟨_, hTO, fun v q => nomatch q⟩
    · obtain ⟨o, vs, g1, g2⟩ := itB_ob h1
      exact ⟨o, g1, fun v q => by rw [g2] at q; cases q⟩
    · obtain ⟨o, vs, g1, g2⟩ := itB_ob h2
      exact ⟨o, g1, fun v q => by rw [g2] at q; cases q⟩
  keep := fun i h h' st k => by
    obtain ⟨hz, hTI, ⟨x, y, hTO⟩, h1, h2⟩ := st
    exact ⟨k zz (by simp) _ hz, k ti (by simp) _ hTI, ⟨x, y, k tt (by simp) _ hTO⟩, itB_at h1 fun o q => k j1 (by simp) o q, itB_at h2 fun o q => k j2 (by simp) o q⟩
  item := by
    intro X hP hw hK hc i pins s σ H E I hf st hg
    subst hP hw hK
    obtain ⟨hz, hTI, ⟨x0, y0, hTO⟩, h1, h2⟩ := st
    obtain ⟨xs, ys, x, y, qx, qy, hx, hy⟩ := hg
    obtain ⟨us, r1, p1⟩ := seqB I qx
    obtain ⟨vs, r2, p2⟩ := seqB I qy
    obtain ⟨u, hu, ru⟩ := r1.get hx
    obtain ⟨v, hv, rv⟩ := r2.get hy
    have zlt : zz < s.heap.objs.size := Heap.lt_size hz
    have hh : X.A.in1.handled = none := I.ok.hd hc
    have lu := (List.getElem?_eq_some_iff.mp hu).1
    have lv := (List.getElem?_eq_some_iff.mp hv).1
    refine wpAny_pyNext_zipD2_item S (drawsB hh b1 j1 a1 n1 us.toArray) (drawsB hh b2 j2 a2 n2 vs.toArray) hz hTI hTO ⟨h1, p1⟩ ⟨h2, p2⟩ (by simpa using lu) (by simpa using lv) fun x1 x2 h' tk e1 e2 z' t' s1 s2 hT _ hk => ?_
    have q1 : x1 = u := by
      have e1' : us.toArray[i]? = some x1 := e1
      rw [List.getElem?_toArray, hu] at e1'
      exact (Option.some.inj e1').symm
    have q2 : x2 = v := by
      have e2' : vs.toArray[i]? = some x2 := e2
      rw [List.getElem?_toArray, hv] at e2'
      exact (Option.some.inj e2').symm
    subst q1 q2
    refine ⟨_, rfl, wpAny_letOwnedTupleGo_zip (s := { s with heap := h', toks := tk }) z' fun h'' z'' sb => ?_⟩
    have T2 : h''.get? s.heap.objs.size = some { cls := .type "tuple", data := .seq #[x1, x2] } := (sb.2 _ (Nat.ne_of_gt zlt)).trans hT
    have new : ObjOk X.prog X.w (upd H s.heap.objs.size (.tup [x, y])) h'' s.heap.objs.size (.tup [x, y]) :=
      ⟨by show 2 ≤ sizeLine; decide, [x1, x2], .cons ru (.cons rv .nil), ⟨_, T2, rfl, _, rfl⟩⟩
    have I1 : Inv X pins σ (upd H s.heap.objs.size (.tup [x, y])) { s with heap := h'', toks := tk } :=
      I.turnedNew (ch := [zz, ti, tt, j1, j2]) (fun c o hb q => (sb.2 c (fun q' => hb (by rw [q']; simp))).trans (hk c o (fun q' => hb (by rw [q']; simp)) (fun q' => hb (by rw [q']; simp)) (fun q' => hb (by rw [q']; simp)) (fun q' => hb (by rw [q']; simp)) q)) hf (Nat.le_refl _) new
    have up : ∀ c o, c ≠ zz → h'.get? c = some o → h''.get? c = some o := fun c o hc q => (sb.2 c hc).trans q
    refine ⟨.ref s.heap.objs.size, _, I1, rfl, ⟨_, x, y, rfl, I.hok.fresh (Nat.le_refl _), rfl, fun l hl => by rw [seqB_inj I hl qx]; exact hx, fun l hl => by rw [seqB_inj I hl qy]; exact hy⟩, ⟨z'', ?_, ⟨x1, x2, ?_⟩, ?_, ?_⟩, fun c hcm => ?_⟩
    · exact up _ _ S.TIz (hk _ _ S.TIz S.TITO S.TIi1 S.TIi2 hTI)
    · exact up _ _ S.TOz t'
    · exact itB_at s1.1 fun o q => up _ _ S.zi1.symm q
    · exact itB_at s2.1 fun o q => up _ _ S.zi2.symm q
    · have hlt : c < s.heap.objs.size := by
        have cases5 : c = zz ∨ c = ti ∨ c = tt ∨ c = j1 ∨ c = j2 := by simpa using hcm
        rcases cases5 with rfl | rfl | rfl | rfl | rfl
        · exact zlt
        · exact Heap.lt_size hTI
        · exact Heap.lt_size hTO
        · obtain ⟨_, _, g, _⟩ := itB_ob h1
          exact Heap.lt_size g
        · obtain ⟨_, _, g, _⟩ := itB_ob h2
          exact Heap.lt_size g
      rw [upd_ne (Nat.ne_of_lt hlt)]
      exact (hf c hcm).1
  done := by
    intro X hP hw hK hc i pins s σ H E I hf st hg
    subst hP hw hK
    obtain ⟨hz, hTI, ⟨x0, y0, hTO⟩, h1, h2⟩ := st
    obtain ⟨xs, ys, qx, qy, l1, l2, hend⟩ := hg
    obtain ⟨us, r1, p1⟩ := seqB I qx
    obtain ⟨vs, r2, p2⟩ := seqB I qy
    have hh : X.A.in1.handled = none := I.ok.hd hc
    have e1 : us.toArray.size = xs.length := by rw [List.size_toArray]; exact r1.length.symm
    have e2 : vs.toArray.size = ys.length := by rw [List.size_toArray]; exact r2.length.symm
    refine wpAny_pyNext_zipD2_end S (drawsB hh b1 j1 a1 n1 us.toArray) (drawsB hh b2 j2 a2 n2 vs.toArray) hz hTI hTO ⟨h1, p1⟩ ⟨h2, p2⟩ (by omega) (by omega) (by omega) fun h' tk hk => ⟨rfl, I.turnedL (ch := [zz, ti, tt, j1, j2]) (fun c o hb q =>
      hk c o (fun q' => hb (by rw [q']; simp)) (fun q' => hb (by rw [q']; simp)) (fun q' => hb (by rw [q']; simp)) (fun q' => hb (by rw [q']; simp)) q) hf⟩
  self := fun A i s Q E st h => wpAny_pyIter_zip st.1 h
def iZipB (K : PySem.W.Frag) (ta : TA) : TI := fun σ H R => ta σ H fun vs H1 => ∃ a1 a2 b1 b2 xs ys, vs = [.ref a1, .ref a2] ∧ SqB K b1 H1 a1 xs ∧ SqB K b2 H1 a2 ys ∧ R (ItzB K b1 b2 a1 a2) H1
theorem pi_zipB {X : Cx} {e e2 : Expr} {ta : TA} {p pos tpos : Pos} {elts : List Expr} {kk : Nat} (hg : Gl X "zip") (hm : X.mg "zip" = none) (ha : PA X [e, e2] ta)
    (hs : starEach [e, e2] X.env = (false, eval e X.env) :: starEach [e2] X.env := by rfl) (hpl : (backTo pos (starEach [e2] X.env)).any (·.1) = false := by rfl) :
    PI X (.Tuple elts kk tpos) (.Call (.Name "zip" p) [e, e2] [] pos) (iZipB X.K ta) := by
  refine ⟨fun pins s σ H R I h => ?_⟩
  refine Call_ (ld_blt I hg hm PyProof.Rows.boot_zip (PyProof.Rows.callWith_type1 (thn (ha.run pos pins s σ H _ I h) fun us s1 ⟨vs, H1, I1, r1, q1⟩ => ?_) hs hpl))
  obtain ⟨a1, a2, b1, b2, xs, ys, ex, qx, qy, q⟩ := q1
  subst ex
  obtain ⟨u, v, rfl, ru, rv⟩ : ∃ u v, us = [u, v] ∧ RelV (.ref a1) u ∧ RelV (.ref a2) v := by
    cases r1 with
    | cons r rr =>
      cases rr with
      | cons r' rr =>
        cases rr
        exact ⟨_, _, rfl, r, r'⟩
  cases ru
  cases rv
  obtain ⟨us, r1, p1⟩ := seqB I1 qx
  obtain ⟨vs, r2, p2⟩ := seqB I1 qy
  refine zip_begins2 (beginsB b1 a1 us.toArray) (beginsB b2 a2 vs.toArray) p1 p2 fun h' hz hTI hTO g1 g2 hsz hk => wpAny_pyIter_zip hz ?_
  have I2 : Inv X pins σ H1 { s1 with heap := h' } := I1.kept (t' := s1.toks) hk
  have S := zip_sep2 (N := s1.heap.objs.size) (fp1 := [a1]) (fp2 := [a2]) (fun b hb => by rw [List.mem_singleton.mp hb]; exact isB_lt p1) (fun b hb => by rw [List.mem_singleton.mp hb]; exact isB_lt p2)
  have lt1 := isB_lt p1
  have lt2 := isB_lt p2
  refine ⟨s1.heap.objs.size + 4, [s1.heap.objs.size + 4, s1.heap.objs.size + 2, s1.heap.objs.size + 3, s1.heap.objs.size, s1.heap.objs.size + 1], _, _, H1, rfl, I2, turn_zipB S (Nat.ne_of_lt lt1) (Nat.ne_of_lt (Nat.lt_succ_of_lt lt2)), ⟨hz, hTI, ⟨_, _, hTO⟩, itB_new b1 g1, itB_new b2 g2⟩, fun c hcm => ?_, q⟩
  have hle : s1.heap.objs.size ≤ c := by
    have cases5 : c = s1.heap.objs.size + 4 ∨ c = s1.heap.objs.size + 2 ∨ c = s1.heap.objs.size + 3 ∨ c = s1.heap.objs.size ∨ c = s1.heap.objs.size + 1 := by simpa using hcm
    rcases cases5 with z | z | z | z | z
    · rw [z]; exact Nat.le_add_right _ _
    · rw [z]; exact Nat.le_add_right _ _
    · rw [z]; exact Nat.le_add_right _ _
    · rw [z]; exact Nat.le_refl _
    · rw [z]; exact Nat.le_add_right _ _
  exact I1.fpOk hle (I1.hok.fresh hle)
theorem walk_zipB {K : PySem.W.Frag} {b1 b2 : Bool} {a1 a2 : Addr} {xs ys : List V} {n : Nat} (hn : n = min xs.length ys.length) :
    Walk (ItzB K b1 b2 a1 a2) n (fun H => SqB K b1 H a1 xs ∧ SqB K b2 H a2 ys) (fun i H v H' => ∃ T x y, v = .ref T ∧ H T = none ∧ H' = upd H T (.tup [x, y]) ∧ xs[i]? = some x ∧ ys[i]? = some y) := by
  refine ⟨fun i _ hi q => ?_, fun _ q => ⟨xs, ys, q.1, q.2, by omega, by omega, by omega⟩, fun i H v H' _ q y => ?_⟩
  · have l1 : i < xs.length := by omega
    have l2 : i < ys.length := by omega
    exact ⟨xs, ys, xs[i], ys[i], q.1, q.2, List.getElem?_eq_getElem l1, List.getElem?_eq_getElem l2⟩
  · obtain ⟨T, x, z, h1, h2, h3, h4, h5⟩ := y
    exact ⟨T, x, z, h1, h2, h3, h4 xs q.1, h5 ys q.2⟩
/-! ### enumerate -/
def IteB (K : PySem.W.Frag) (b : Bool) (a : Addr) : It :=
  ⟨fun i H => ∃ (xs : List V) (x : V), SqB K b H a xs ∧ xs[i]? = some x, fun i H v H' => ∃ T x, v = .ref T ∧ H T = none ∧ H' = upd H T (.tup [.int (i : Nat), x]) ∧ ∀ xs, SqB K b H a xs → xs[i]? = some x, fun i H => ∃ xs : List V, SqB K b H a xs ∧ i = xs.length⟩
theorem turn_enumB {P : Program} {w : World} {K : PySem.W.Frag} {elts : List Expr} {kk : Nat} {tpos : Pos} (b : Bool) (a e it : Addr) (ne1 : e ≠ it) (ne2 : a ≠ it) (ne3 : e ≠ a) :
    Turn P w K (.Tuple elts kk tpos) (IteB K b a) [e, it] e (fun i h => (∃ old, IsEnum h e it ((i : Nat) : Int) old) ∧ itB b h it a i) where
  mem := by simp
  obj := fun i h st c hc => by
    obtain ⟨⟨old, he⟩, hi⟩ := st
    have two : c = e ∨ c = it := by simpa using hc
    rcases two with rfl | rfl
    · exact ⟨_, he, fun v q => nomatch q⟩
    · obtain ⟨o, vs, g1, g2⟩ := itB_ob hi
      exact ⟨o, g1, fun v q => by rw [g2] at q; cases q⟩
  keep := fun i h h' st k => by
    obtain ⟨⟨old, he⟩, hi⟩ := st
    exact ⟨⟨old, k e (by simp) _ he⟩, itB_at hi fun o q => k it (by simp) o q⟩
  item := by
    intro X hP hw hK hc i pins s σ H E I hf st hg
    subst hP hw hK
    obtain ⟨⟨old, he⟩, hit⟩ := st
    obtain ⟨xs, x, hq, hx⟩ := hg
    obtain ⟨us, r1, p1⟩ := seqB I hq
    obtain ⟨u, hu, ru⟩ := r1.get hx
    have elt : e < s.heap.objs.size := Heap.lt_size he
    have lu := (List.getElem?_eq_some_iff.mp hu).1
    refine wpAny_pyNext_enum_itemD (drawsB (show X.A.in1.handled = none from I.ok.hd hc) b it a ne2 us.toArray) he ⟨hit, p1⟩ (by simpa using lu) ne1 (by simp [ne1, ne3]) fun x' h' tk hP ho hst hT hsz hk => ?_
    have q1 : x' = u := by
      have e1 : us.toArray[i]? = some x' := hP
      rw [List.getElem?_toArray, hu] at e1
      exact (Option.some.inj e1).symm
    subst q1
    refine ⟨_, rfl, wpAny_letOwnedTupleGo_enum (s := { s with heap := h', toks := tk + 1 }) ho fun h'' he' sb => ?_⟩
    have T2 : h''.get? s.heap.objs.size = some { cls := .type "tuple", data := .seq #[.int i tk, x'] } := (sb.2 _ (Nat.ne_of_gt elt)).trans hT
    have new : ObjOk X.prog X.w (upd H s.heap.objs.size (.tup [.int (i : Nat), x])) h'' s.heap.objs.size (.tup [.int (i : Nat), x]) :=
      ⟨by show 2 ≤ sizeLine; decide, [.int i tk, x'], .cons ⟨_, rfl⟩ (.cons ru .nil), ⟨_, T2, rfl, _, rfl⟩⟩
    have I1 : Inv X pins σ (upd H s.heap.objs.size (.tup [.int (i : Nat), x])) { s with heap := h'', toks := tk + 1 } :=
      I.turnedNew (ch := [e, it]) (fun c ob hb q => (sb.2 c (fun z => hb (by rw [z]; simp))).trans (hk c ob (fun z => hb (by rw [z]; simp)) (fun z => hb (by rw [z]; simp)) q)) hf (Nat.le_refl _) new
    refine ⟨.ref s.heap.objs.size, _, I1, rfl, ⟨_, x, rfl, I.hok.fresh (Nat.le_refl _), rfl, fun ys hy => by rw [seqB_inj I hy hq]; exact hx⟩, ⟨⟨x', ?_⟩, itB_at hst.1 fun o q => (sb.2 it (Ne.symm ne1)).trans q⟩, fun c hb => ?_⟩
    · rw [show ((i + 1 : Nat) : Int) = (i : Int) + 1 by omega]
      exact he'
    · have hlt : c < s.heap.objs.size := by
        have two : c = e ∨ c = it := by simpa using hb
        rcases two with rfl | rfl
        · exact elt
        · obtain ⟨_, _, g, _⟩ := itB_ob hit
          exact Heap.lt_size g
      rw [upd_ne (Nat.ne_of_lt hlt)]
      exact (hf c hb).1
  done := by
    intro X hP hw hK hc i pins s σ H E I hf st hg
    subst hP hw hK
    obtain ⟨⟨old, he⟩, hit⟩ := st
    obtain ⟨xs, hq, rfl⟩ := hg
    obtain ⟨us, r1, p1⟩ := seqB I hq
    have e1 : us.toArray.size = xs.length := by rw [List.size_toArray]; exact r1.length.symm
    rw [← e1] at hit
    obtain ⟨f0, f1, f2, f3, f4, f5⟩ := hf it (by simp)
    exact wpAny_pyNext_enum_endD (drawsB (show X.A.in1.handled = none from I.ok.hd hc) b it a ne2 us.toArray) he ⟨hit, p1⟩ fun h' eb => ⟨rfl, I.turned (t' := s.toks) (fun c o hb q => eb c o hb q) f0 f1 f3 f4 f5⟩
  self := fun A i s Q E st h => let ⟨⟨_, he⟩, _⟩ := st; wpAny_pyIter_enum he h
def iEnumB (K : PySem.W.Frag) (ta : TA) : TI := fun σ H R => ta σ H fun vs H1 => ∃ a b xs, vs = [.ref a] ∧ SqB K b H1 a xs ∧ R (IteB K b a) H1
theorem pi_enumB {X : Cx} {e : Expr} {ta : TA} {p pos tpos : Pos} {elts : List Expr} {kk : Nat} (hg : Gl X "enumerate") (hm : X.mg "enumerate" = none) (ha : PA X [e] ta) (hs : starEach [e] X.env = [(false, eval e X.env)] := by rfl) :
    PI X (.Tuple elts kk tpos) (.Call (.Name "enumerate" p) [e] [] pos) (iEnumB X.K ta) := by
  refine ⟨fun pins s σ H R I h => ?_⟩
  refine Call_ (ld_blt I hg hm boot_enumerate (PyProof.Rows.callWith_type1 (thn (ha.run pos pins s σ H _ I h) fun us s1 ⟨vs, H1, I1, r1, q1⟩ => ?_) hs rfl))
  obtain ⟨a, b, xs, ex, hq, q⟩ := q1
  subst ex
  obtain rfl := Vals.ref1 r1
  obtain ⟨us, r2, p1⟩ := seqB I1 hq
  refine PySem.OwU.enum_begins0 (beginsB b a us.toArray) p1 fun h' he g1 hsz hk => wpAny_pyIter_enum he ?_
  have I2 : Inv X pins σ H1 { s1 with heap := h' } := I1.kept (t' := s1.toks) hk
  have lt1 := isB_lt p1
  refine ⟨s1.heap.objs.size + 1, [s1.heap.objs.size + 1, s1.heap.objs.size], _, _, H1, rfl, I2, turn_enumB b a (s1.heap.objs.size + 1) s1.heap.objs.size (Nat.succ_ne_self _) (Nat.ne_of_lt lt1) (Nat.ne_of_gt (Nat.lt_succ_of_lt lt1)), ⟨⟨.none, he⟩, itB_new b g1⟩, fun c hb => ?_, q⟩
  have hle : s1.heap.objs.size ≤ c := by
    have two : c = s1.heap.objs.size + 1 ∨ c = s1.heap.objs.size := by simpa using hb
    rcases two with z | z
    · rw [z]; exact Nat.le_add_right _ _
    · rw [z]; exact Nat.le_refl _
  exact I1.fpOk hle (I1.hok.fresh hle)
theorem walk_enumB {K : PySem.W.Frag} {b : Bool} {a : Addr} {xs : List V} : Walk (IteB K b a) xs.length (fun H => SqB K b H a xs) (fun i H v H' => ∃ T x, v = .ref T ∧ H T = none ∧ H' = upd H T (.tup [.int (i : Nat), x]) ∧ xs[i]? = some x) := by
  refine ⟨fun i _ hi q => ⟨xs, xs[i], q, by simp [hi]⟩, fun _ q => ⟨xs, q, rfl⟩, fun i H v H' _ q y => ?_⟩
  obtain ⟨T, x, h1, h2, h3, h4⟩ := y
  exact ⟨T, x, h1, h2, h3, h4 xs q⟩
/-! ### for x in it -/
def ItsB (K : PySem.W.Frag) (b : Bool) (a : Addr) : It := match b with
  | true => Itt K a
  | false => Itl K a
def iSeqB (K : PySem.W.Frag) (tl : TE) : TI := fun σ H R => tl σ H fun x H1 => ∃ a b xs, x = .ref a ∧ SqB K b H1 a xs ∧ R (ItsB K b a) H1
theorem pi_seqB {X : Cx} {tg l : Expr} {tl : TE} (hl : PE X l tl) : PI X tg l (iSeqB X.K tl) := by
  refine ⟨fun pins s σ H R I h => ?_⟩
  refine thn (hl.run pins s σ H _ I h) fun v s1 ⟨x, H1, I1, r1, q1⟩ => ?_
  obtain ⟨a, b, xs, rfl, hq, q⟩ := q1
  cases r1
  cases b with
  | true =>
    obtain ⟨its, rv, p, hz⟩ := I1.tuple hq
    exact wpAny_pyIter_tuple (show s1.heap.IsTuple a its.toArray from p) (pi_one (tk := s1.toks) I1 _ (turn_tuple a _) ⟨_, Heap.get?_push_size _ rfl, rfl, rfl⟩ q)
  | false =>
    obtain ⟨its, rv, p, hz⟩ := I1.list hq
    exact wpAny_pyIter_list p.isList (pi_one (tk := s1.toks) I1 _ (turn_list a _) ⟨_, Heap.get?_push_size _ rfl, rfl, rfl⟩ q)
theorem walk_seqB {K : PySem.W.Frag} : ∀ {b : Bool} {a : Addr} {xs : List V}, Walk (ItsB K b a) xs.length (fun H => SqB K b H a xs) (YAt xs)
  | true, _, _ => walk_tup
  | false, _, _ => walk_list
theorem SqB.ex {K : PySem.W.Frag} {H H1 : Hp} {a : Addr} {xs : List V} (e : Ex H H1) : ∀ {b : Bool}, SqB K b H a xs → SqB K b H1 a xs
  | true, h => ex_t e h
  | false, h => ex_l e h
theorem sqb_l {K : PySem.W.Frag} {H : Hp} {a : Addr} {xs : List V} (h : H a = some (.lst xs)) : SqB K false H a xs := sq_of h
theorem sqb_t {K : PySem.W.Frag} {H : Hp} {a : Addr} {xs : List V} (h : Tp K H a xs) : SqB K true H a xs := h.sq
theorem SqB.or {K : PySem.W.Frag} {H : Hp} {a : Addr} {xs : List V} : ∀ {b : Bool}, SqB K b H a xs → SqL K H a xs ∨ SqT K H a xs
  | true, h => .inr h
  | false, h => .inl h
end Own

/-! Written data of the module: tables from texts to ints, texts, tuples of such; the Hook that tells them. -/
namespace Own
open PySem PySem.Spec PyProof.Rows L2
open He (ga ma fAd eqO eqO_ok ba)
inductive Dat where
  | int (i : Int)
  | str (x : Str)
  | tup (ds : List Dat)
mutual
def datB (K : PySem.W.Frag) : Dat → Value → Bool
  | .int i, u => (match u with
    | .int j _ => decide (i = j)
    | _ => false)
  | .str x, u => (match u with
    | .str y _ => decide (x = y)
    | _ => false)
  | .tup ds, u => (match u with
    | .ref a => (match K.lookup a with
      | some ⟨.type c, none, .seq its _, _⟩ => decide (c = "tuple") && (Nat.ble its.size 1000 && datAll K ds its.toList)
      | _ => false)
    | _ => false)
def datAll (K : PySem.W.Frag) : List Dat → List Value → Bool
  | [], us => us.isEmpty
  | d :: ds, us => (match us with
    | u :: r => datB K d u && datAll K ds r
    | [] => false)
end
mutual
def IsDat (K : PySem.W.Frag) : Dat → V → Prop
  | .int i, v => v = .int i
  | .str x, v => v = .str x
  | .tup ds, v => ∃ (p : Addr) (xs : List V), v = .ref p ∧ (∀ H : Hp, Tp K H p xs) ∧ AllDat K ds xs
def AllDat (K : PySem.W.Frag) : List Dat → List V → Prop
  | [], xs => xs = []
  | d :: ds, xs => ∃ x r, xs = x :: r ∧ IsDat K d x ∧ AllDat K ds r
end
mutual
theorem datB_ok {K : PySem.W.Frag} : ∀ (d : Dat) (u : Value), datB K d u = true → ∃ v, RelV v u ∧ IsDat K d v
  | .int i, u, h => by
    unfold datB at h
    split at h
    · obtain rfl := of_decide_eq_true h
      exact ⟨.int i, ⟨_, rfl⟩, rfl⟩
    · cases h
  | .str x, u, h => by
    unfold datB at h
    split at h
    · obtain rfl := of_decide_eq_true h
      exact ⟨.str x, ⟨_, rfl⟩, rfl⟩
    · cases h
  | .tup ds, u, h => by
    unfold datB at h
    split at h
    · rename_i a
      split at h
      · rename_i c its n sl ho
        obtain ⟨h1, h2⟩ := ba h
        obtain ⟨h3, h4⟩ := ba h2
        obtain rfl := of_decide_eq_true h1
        obtain ⟨xs, rx, ix⟩ := datAll_ok ds its.toList h4
        have hz : its.size ≤ sizeLine := by
          rw [sizeLine_eq]
          have := Nat.le_of_ble_eq_true h3
          omega
        exact ⟨.ref a, rfl, a, xs, rfl, fun H => .inr ⟨_, its, n, ho, rfl, rfl, rfl, hz, rx⟩, ix⟩
      · cases h
    · cases h
theorem datAll_ok {K : PySem.W.Frag} : ∀ (ds : List Dat) (us : List Value), datAll K ds us = true → ∃ xs, Vals xs us ∧ AllDat K ds xs
  | [], us, h => by
    unfold datAll at h
    cases us with
    | nil => exact ⟨[], .nil, rfl⟩
    | cons u r => cases h
  | d :: ds, us, h => by
    unfold datAll at h
    cases us with
    | nil => cases h
    | cons u r =>
      obtain ⟨h1, h2⟩ := ba h
      obtain ⟨v, rv, iv⟩ := datB_ok d u h1
      obtain ⟨xs, rx, ix⟩ := datAll_ok ds r h2
      exact ⟨v :: xs, .cons rv rx, v, xs, rfl, iv, ix⟩
end
theorem IsDat.ints {K : PySem.W.Frag} {ns : List Int} {v : V} (h : IsDat K (.tup (ns.map .int)) v) : ∃ p, v = .ref p ∧ ∀ H : Hp, Tp K H p (ns.map V.int) := by
  unfold IsDat at h
  obtain ⟨p, xs, rfl, h1, h2⟩ := h
  have e : ∀ (ns : List Int) (xs : List V), AllDat K (ns.map .int) xs → xs = ns.map V.int := by
    intro ns
    induction ns with
    | nil =>
      intro xs h
      unfold AllDat at h
      exact h
    | cons n r ih =>
      intro xs h
      unfold AllDat at h
      obtain ⟨x, r', rfl, g1, g2⟩ := h
      unfold IsDat at g1
      rw [g1, ih r' g2]
      rfl
  rw [e ns xs h2] at h1
  exact ⟨p, rfl, h1⟩
/-- a table of the module -/
def DicK (K : PySem.W.Frag) (w : World) (mg : Str → Option Value) (x : Str) (kvs : List (Str × Dat)) : Prop := ∃ a, mg x = some (.ref a) ∧ ∀ q ∈ kvs, ∃ v, KDct K w a q.1 v ∧ IsDat K q.2 v
/-- NAME[k] -/
def tKD (K : PySem.W.Frag) (kvs : List (Str × Dat)) (te : TE) : TE := fun σ H Q => te σ H fun y H1 => ∃ z d, y = .str z ∧ (z, d) ∈ kvs ∧ ∀ v, IsDat K d v → Q v H1
section
variable {X : Cx} {K : PySem.W.Frag} {w : World}
theorem PE_imp {e : Expr} {t t' : TE} (h : PE X e t) (i : ∀ σ H Q, t' σ H Q → t σ H Q) : PE X e t' := ⟨fun pins s σ H Q I q => h.run pins s σ H Q I (i σ H Q q)⟩
theorem pe_kd {x : Str} {kvs : List (Str × Dat)} {e : Expr} {te : TE} {p pos : Pos} (D : DicK K w X.mg x kvs) (hg : Gl X x) (he : PE X e te) (hs : PlainIx e) (hK : X.K = K := by rfl) (hw : X.w = w := by rfl)
    (hd : (x == ("__debug__" : Str)) = false := by decide) : PE X (.Subscript (.Name x p) e pos) (tKD K kvs te) := by
  subst hK hw
  obtain ⟨a, ha, hv⟩ := D
  refine ⟨fun pins s σ H Q I h => ?_⟩
  refine Subscript_ (ld_glob I hg ha (thn (he.run pins s σ H _ I h) fun u s2 ⟨y, H2, I2, ry, q⟩ => ?_) hd)
  obtain ⟨z, d, rfl, hm, q⟩ := q
  obtain ⟨v, hk, hi⟩ := hv _ hm
  exact ix_kdict (.Name x p) e pins s2 σ H2 (.ref a) (.str z) (.ref a) u Q I2 rfl ry ⟨a, z, v, rfl, rfl, hk, q v hi⟩ (hs _ _)
/-- NAME, a constant of the module -/
def ConK (K : PySem.W.Frag) (mg : Str → Option Value) (x : Str) (d : Dat) : Prop := ∃ u v, mg x = some u ∧ RelV v u ∧ IsDat K d v
def tCon (K : PySem.W.Frag) (d : Dat) : TE := fun σ H Q => ∀ v, IsDat K d v → Q v H
theorem pe_konst {x : Str} {d : Dat} {p : Pos} (D : ConK K X.mg x d) (hg : Gl X x) (hd : (x == ("__debug__" : Str)) = false := by decide) : PE X (.Name x p) (tCon K d) := by
  obtain ⟨u, v, h1, h2, h3⟩ := D
  exact ⟨fun _ _ _ H _ I h => ld_glob I hg h1 ⟨v, H, I, h2, h v h3⟩ hd⟩
end
/-! ### the Hook -/
structure KoD where
  bs : BiL := []
  dics : List (Str × List (Str × Dat)) := []
  cons : List (Str × Dat) := []
def koB (K : PySem.W.Frag) (k : KoD) : Bool := biB K k.bs && ((k.dics.all fun d => eqO (PySem.W.nsIn K mainGlobals d.1) (some (some (.ref (ga K d.1)))) && d.2.all fun q => match PySem.W.nsIn K (ga K d.1) q.1 with
    | some (some u) => datB K q.2 u
    | _ => false) && k.cons.all fun d => match PySem.W.nsIn K mainGlobals d.1 with
    | some (some u) => datB K d.2 u
    | _ => false)
abbrev AlK : Type := AlE × Bool × List (Option (List (Option (Str × Int))))
def obsK (file : Str) (k : KoD) (fa : List He.Fa) (fn : List He.DefD) (ex : List ExD) (K : PySem.W.Frag) : AlK := (obsE file fa fn ex K, koB K k, k.dics.map fun d => He.dicW K (ga K d.1))
def valK (k : KoD) (fn : List He.DefD) (ex : List ExD) (w : World) : AlK := (valE fn ex, true, k.dics.map fun d => some (He.keysIn w.params (d.2.map (·.1))))
def SaysK (file : Str) (k : KoD) (fa : List He.Fa) (fn : List He.DefD) (ex : List ExD) (w : World) (K : PySem.W.Frag) : Prop := obsK file k fa fn ex K = valK k fn ex w
def obsKG (file : Str) (n : Nat) (k : KoD) (fa : List He.Fa) (fn : List He.DefD) (ex : List ExD) (g : Addr → Option Obj) : AlK := obsK file k fa fn ex (He.frG g (cStatics :: He.asD g n))
def hookK (file : Str) (n : Nat) (k : KoD) (fa : List He.Fa) (fn : List He.DefD) (ex : List ExD) : PySem.W.Hook where
  α := AlK
  obs := fun s => obsKG file n k fa fn ex s.heap.get?
  val := fun w => valK k fn ex w
  says := fun w h => ∃ K : PySem.W.Frag, K.In h ∧ SaysK file k fa fn ex w K
  of := fun _ _ e => ⟨_, He.frG_in, e⟩
  keeps := fun _ _ _ ⟨K, hK, c⟩ q => ⟨K, PySem.W.Frag.In.keeps hK q, c⟩
theorem obsKG_eq {file : Str} {n : Nat} {k : KoD} {fa : List He.Fa} {fn : List He.DefD} {ex : List ExD} {g : Addr → Option Obj} {s : Shared} (h : ∀ a, g a = s.heap.get? a) : obsKG file n k fa fn ex g = (hookK file n k fa fn ex).obs s := by
  have e : g = s.heap.get? := funext h
  rw [e] <;> rfl
section
variable {file : Str} {k : KoD} {fa : List He.Fa} {fn : List He.DefD} {ex : List ExD} {w : World} {K : PySem.W.Frag} {h : Heap} {mg : Str → Option Value}
theorem SaysK.e (c : SaysK file k fa fn ex w K) : SaysE file fa fn ex K := congrArg (fun z : AlK => z.1) c
theorem SaysK.saysD (c : SaysK file k fa fn ex w K) : He.SaysD fa fn K := c.e.saysD
theorem SaysK.ko (c : SaysK file k fa fn ex w K) : koB K k = true := congrArg (fun z : AlK => z.2.1) c
theorem SaysK.bi (c : SaysK file k fa fn ex w K) (X : K.In h) (G : h.Ns mainGlobals mg) (i : Nat) {x : Str} {b : String} (e : k.bs[i]? = some (x, b) := by rfl) : mg x = some (.builtin b) := by
  have := List.all_eq_true.mp (ba c.ko).1 (x, b) (List.mem_of_getElem? e)
  exact PySem.W.mg_of X G (eqO_ok this)
theorem SaysK.dic (c : SaysK file k fa fn ex w K) (X : K.In h) (G : h.Ns mainGlobals mg) (i : Nat) {x : Str} {kvs : List (Str × Dat)} (e : k.dics[i]? = some (x, kvs) := by rfl) : DicK K w mg x kvs := by
  obtain ⟨c1, c2⟩ := ba (List.all_eq_true.mp (ba (ba c.ko).2).1 (x, kvs) (List.mem_of_getElem? e))
  have t1 : k.dics.map (fun d => He.dicW K (ga K d.1)) = k.dics.map fun d => some (He.keysIn w.params (d.2.map (·.1))) := congrArg (fun z : AlK => z.2.2) c
  have t2 : (k.dics.map fun d => He.dicW K (ga K d.1))[i]? = (k.dics.map fun d => some (He.keysIn w.params (d.2.map (·.1))))[i]? := by rw [t1]
  rw [List.getElem?_map, List.getElem?_map, e] at t2
  obtain ⟨es, n, D⟩ := He.dicW_ok (Option.some.inj t2)
  refine ⟨_, PySem.W.mg_of X G (eqO_ok c1), fun q hq => ?_⟩
  have c3 := List.all_eq_true.mp c2 q hq
  cases z : PySem.W.nsIn K (ga K x) q.1 with
  | none =>
    rw [z] at c3
    cases c3
  | some r =>
    rw [z] at c3
    cases r with
    | none => cases c3
    | some u =>
      obtain ⟨v, rv, iv⟩ := datB_ok q.2 u c3
      exact ⟨v, ⟨es, n, u, D.at_, D.lit, z, rv⟩, iv⟩
theorem SaysK.con (c : SaysK file k fa fn ex w K) (X : K.In h) (G : h.Ns mainGlobals mg) (i : Nat) {x : Str} {d : Dat} (e : k.cons[i]? = some (x, d) := by rfl) : ConK K mg x d := by
  have c1 := List.all_eq_true.mp (ba (ba c.ko).2).2 (x, d) (List.mem_of_getElem? e)
  cases z : PySem.W.nsIn K mainGlobals x with
  | none =>
    rw [show (match PySem.W.nsIn K mainGlobals x with
      | some (some u) => datB K d u
      | _ => false) = false by rw [z]] at c1
    cases c1
  | some r =>
    cases r with
    | none =>
      rw [show (match PySem.W.nsIn K mainGlobals x with
        | some (some u) => datB K d u
        | _ => false) = false by rw [z]] at c1
      cases c1
    | some u =>
      have c2 : datB K d u = true := by
        have c1' : (match PySem.W.nsIn K mainGlobals x with
          | some (some u) => datB K d u
          | _ => false) = true := c1
        rw [z] at c1'
        exact c1'
      obtain ⟨v, rv, iv⟩ := datB_ok d u c2
      exact ⟨u, v, PySem.W.mg_of X G z, rv, iv⟩
end
end Own

/-! Tuples by their addresses. -/
namespace Own
open PySem PySem.Spec PyProof.Rows L2 Evl
structure LstG {α : Type} (f : α → List V) (K : PySem.W.Frag) (H : Hp) (es : List Addr) (xs : List α) : Prop where
  len : es.length = xs.length
  at_ : ∀ (i : Nat) e x, es[i]? = some e → xs[i]? = some x → Tp K H e (f x)
section
variable {α : Type} {f : α → List V} {K : PySem.W.Frag} {H H1 : Hp} {es : List Addr} {xs : List α}
theorem LstG.nil : LstG f K H [] [] := ⟨rfl, fun i e x h => by cases h⟩
theorem LstG.ex (l : LstG f K H es xs) (e : Ex H H1) : LstG f K H1 es xs := ⟨l.len, fun i a x h1 h2 => (l.at_ i a x h1 h2).ex e⟩
theorem LstG.mut {wr : Addr} {ys zs : List V} (l : LstG f K H es xs) (hw : H wr = some (.lst ys)) : LstG f K (upd H wr (.lst zs)) es xs := ⟨l.len, fun i a x h1 h2 => (l.at_ i a x h1 h2).mut hw⟩
theorem LstG.push {e : Addr} {x : α} (l : LstG f K H es xs) (t : Tp K H e (f x)) : LstG f K H (es ++ [e]) (xs ++ [x]) := by
  refine ⟨by rw [List.length_append, List.length_append, l.len]; rfl, fun i a y h1 h2 => ?_⟩
  by_cases c : i < es.length
  · rw [List.getElem?_append_left c] at h1
    rw [List.getElem?_append_left (by rw [← l.len]; exact c)] at h2
    exact l.at_ i a y h1 h2
  · rw [List.getElem?_append_right (by omega)] at h1
    rw [List.getElem?_append_right (by rw [← l.len]; omega), ← l.len] at h2
    have : i - es.length = 0 := by
      have := (List.getElem?_eq_some_iff.mp h1).1
      simp at this
      omega
    rw [this] at h1 h2
    cases h1
    cases h2
    exact t
theorem LstG.app {es2 : List Addr} {xs2 : List α} (l : LstG f K H es xs) (l2 : LstG f K H es2 xs2) : LstG f K H (es ++ es2) (xs ++ xs2) := by
  refine ⟨by rw [List.length_append, List.length_append, l.len, l2.len], fun i a y h1 h2 => ?_⟩
  by_cases c : i < es.length
  · rw [List.getElem?_append_left c] at h1
    rw [List.getElem?_append_left (by rw [← l.len]; exact c)] at h2
    exact l.at_ i a y h1 h2
  · rw [List.getElem?_append_right (by omega)] at h1
    rw [List.getElem?_append_right (by rw [← l.len]; omega), ← l.len] at h2
    exact l2.at_ _ a y h1 h2
/-- the i-th -/
theorem LstG.get {i : Nat} {v : V} (l : LstG f K H es xs) (h : (es.map V.ref)[i]? = some v) : ∃ e x, v = .ref e ∧ es[i]? = some e ∧ xs[i]? = some x ∧ Tp K H e (f x) := by
  rw [List.getElem?_map] at h
  cases he : es[i]? with
  | none =>
    rw [he] at h
    cases h
  | some e =>
    rw [he] at h
    cases h
    have hi := (List.getElem?_eq_some_iff.mp he).1
    have hx : xs[i]? = some (xs[i]'(by rw [← l.len]; exact hi)) := List.getElem?_eq_getElem _
    exact ⟨e, _, rfl, rfl, hx, l.at_ i e _ he hx⟩
theorem LstG.known {N : Nat} {a l : Addr} {R : Hp} (t : LstG f K H es xs) (d : Deal N H a l) (m : ∀ b o, b ≠ a → b ≠ l → H b = some o → R b = some o) : LstG f K R es xs := ⟨t.len, fun i e x h1 h2 => tp_known (t.at_ i e x h1 h2) d m⟩
end
/-- ints -/
def iL (ns : List Int) : List V := ns.map V.int
end Own

namespace K60
open PySem PySem.Spec PyProof.Rows L2 Evl Own
/-! ### the text -/
def topS (i : Nat) : Stmt := PySem.Challenge.pw_ownmirrors_k60_told_rows_and_what_is_mad.main.body.getD i (.Pass ⟨0, 0, 0, 0⟩)
abbrev s_fraction_of : Stmt := topS 2
theorem sc_fraction_of : FnScope ["top", "bottom", "common"] ["top", "bottom"] (defScope s_fraction_of) := ⟨rfl, rfl, rfl, by decide +kernel, rfl, by decide +kernel, by decide +kernel⟩
abbrev s_longer : Stmt := topS 4
theorem sc_longer : FnScope ["found", "times", "ahead", "number", "at"] ["found", "times"] (defScope s_longer) := ⟨rfl, rfl, rfl, by decide +kernel, rfl, by decide +kernel, by decide +kernel⟩
abbrev s_step_row : Stmt := topS 5
theorem sc_step_row : FnScope ["letters", "length", "x", "found", "place"] ["letters", "length", "x"] (defScope s_step_row) := ⟨rfl, rfl, rfl, by decide +kernel, rfl, by decide +kernel, by decide +kernel⟩
abbrev s_told_tops : Stmt := topS 6
theorem sc_told_tops : FnScope ["letters", "length", "numbers", "found", "x", "number", "j", "step"] ["letters", "length", "numbers"] (defScope s_told_tops) := ⟨rfl, rfl, rfl, by decide +kernel, rfl, by decide +kernel, by decide +kernel⟩
abbrev s_told_counts : Stmt := topS 7
theorem sc_told_counts : FnScope ["letters", "length", "counts", "size", "top"] ["letters", "length", "counts"] (defScope s_told_counts) := ⟨rfl, rfl, rfl, by decide +kernel, rfl, by decide +kernel, by decide +kernel⟩
abbrev s_nought_counts : Stmt := topS 13
theorem sc_nought_counts : FnScope ["length"] ["length"] (defScope s_nought_counts) := ⟨rfl, rfl, rfl, by decide +kernel, rfl, by decide +kernel, by decide +kernel⟩
abbrev s_times_row : Stmt := topS 14
theorem sc_times_row : FnScope ["one", "other", "found", "at", "number", "place", "factor"] ["one", "other"] (defScope s_times_row) := ⟨rfl, rfl, rfl, by decide +kernel, rfl, by decide +kernel, by decide +kernel⟩
abbrev s_power_row : Stmt := topS 15
theorem sc_power_row : FnScope ["row", "many", "found", "_"] ["row", "many"] (defScope s_power_row) := ⟨rfl, rfl, rfl, by decide +kernel, rfl, by decide +kernel, by decide +kernel⟩
abbrev s_with_times : Stmt := topS 16
theorem sc_with_times : FnScope ["row", "number", "other", "here", "there"] ["row", "number", "other"] (defScope s_with_times) := ⟨rfl, rfl, rfl, by decide +kernel, rfl, by decide +kernel, by decide +kernel⟩
abbrev s_is_nought_row : Stmt := topS 17
theorem sc_is_nought_row : FnScope ["row"] ["row"] (defScope s_is_nought_row) := ⟨rfl, rfl, rfl, by decide +kernel, rfl, by decide +kernel, by decide +kernel⟩
abbrev s_has_length : Stmt := topS 18
theorem sc_has_length : FnScope ["sort", "length"] ["sort", "length"] (defScope s_has_length) := ⟨rfl, rfl, rfl, by decide +kernel, rfl, by decide +kernel, by decide +kernel⟩
abbrev s_told_top : Stmt := topS 19
theorem sc_told_top : FnScope ["sort", "length"] ["sort", "length"] (defScope s_told_top) := ⟨rfl, rfl, rfl, by decide +kernel, rfl, by decide +kernel, by decide +kernel⟩
abbrev s_told_row : Stmt := topS 20
theorem sc_told_row : FnScope ["sort", "length", "j", "small", "great", "many"] ["sort", "length", "j"] (defScope s_told_row) := ⟨rfl, rfl, rfl, by decide +kernel, rfl, by decide +kernel, by decide +kernel⟩
abbrev s_told_rows : Stmt := topS 21
theorem sc_told_rows : FnScope ["sort", "length", "j"] ["sort", "length"] (defScope s_told_rows) := ⟨rfl, rfl, rfl, by decide +kernel, rfl, by decide +kernel, by decide +kernel⟩
abbrev s_made_of_told : Stmt := topS 22
theorem sc_made_of_told : FnScope ["sort", "length", "numbers", "found", "number", "row"] ["sort", "length", "numbers"] (defScope s_made_of_told) := ⟨rfl, rfl, rfl, by decide +kernel, rfl, by decide +kernel, by decide +kernel⟩
abbrev s_told_numbers : Stmt := topS 23
theorem sc_told_numbers : FnScope ["sort", "length", "counts", "left", "numbers", "j", "row", "number"] ["sort", "length", "counts"] (defScope s_told_numbers) := ⟨rfl, rfl, rfl, by decide +kernel, rfl, by decide +kernel, by decide +kernel⟩
abbrev s__law_deal : Stmt := topS 25
theorem sc__law_deal : FnScope ["script", "salt", "cells", "cell", "mix"] ["script", "salt"] (defScope s__law_deal) := ⟨rfl, rfl, rfl, by decide +kernel, rfl, by decide +kernel, by decide +kernel⟩
abbrev s__law_any : Stmt := topS 26
theorem sc__law_any : FnScope ["deal", "bound", "rest"] ["deal", "bound"] (defScope s__law_any) := ⟨rfl, rfl, rfl, by decide +kernel, rfl, by decide +kernel, by decide +kernel⟩
abbrev s__law_of : Stmt := topS 27
theorem sc__law_of : FnScope ["deal", "some"] ["deal", "some"] (defScope s__law_of) := ⟨rfl, rfl, rfl, by decide +kernel, rfl, by decide +kernel, by decide +kernel⟩
abbrev s__law_same : Stmt := topS 28
theorem sc__law_same : FnScope ["told", "due", "at"] ["told", "due"] (defScope s__law_same) := ⟨rfl, rfl, rfl, by decide +kernel, rfl, by decide +kernel, by decide +kernel⟩
abbrev s__law_small : Stmt := topS 29
theorem sc__law_small : FnScope ["sort"] ["sort"] (defScope s__law_small) := ⟨rfl, rfl, rfl, by decide +kernel, rfl, by decide +kernel, by decide +kernel⟩
abbrev s__law_times : Stmt := topS 30
theorem sc__law_times : FnScope ["row", "factor", "found", "at", "number", "place", "one"] ["row", "factor"] (defScope s__law_times) := ⟨rfl, rfl, rfl, by decide +kernel, rfl, by decide +kernel, by decide +kernel⟩
abbrev s__law_top : Stmt := topS 31
theorem sc__law_top : FnScope ["sort", "length", "step", "small", "great", "first", "many"] ["sort", "length"] (defScope s__law_top) := ⟨rfl, rfl, rfl, by decide +kernel, rfl, by decide +kernel, by decide +kernel⟩
abbrev s__law_told : Stmt := topS 32
theorem sc__law_told : FnScope ["sort", "length", "j", "step", "small", "great", "first", "many", "row", "turn", "found", "at", "number"] ["sort", "length", "j"] (defScope s__law_told) := ⟨rfl, rfl, rfl, by decide +kernel, rfl, by decide +kernel, by decide +kernel⟩
abbrev s__law_made : Stmt := topS 33
theorem sc__law_made : FnScope ["sort", "length", "numbers", "found", "j", "number", "here", "there"] ["sort", "length", "numbers"] (defScope s__law_made) := ⟨rfl, rfl, rfl, by decide +kernel, rfl, by decide +kernel, by decide +kernel⟩
abbrev s__law_numbers : Stmt := topS 34
theorem sc__law_numbers : FnScope ["sort", "length", "row", "step", "left", "numbers", "one", "j", "number", "here", "there"] ["sort", "length", "row"] (defScope s__law_numbers) := ⟨rfl, rfl, rfl, by decide +kernel, rfl, by decide +kernel, by decide +kernel⟩
abbrev s__law_lowest : Stmt := topS 35
theorem sc__law_lowest : FnScope ["top", "bottom", "one", "other", "turn"] ["top", "bottom"] (defScope s__law_lowest) := ⟨rfl, rfl, rfl, by decide +kernel, rfl, by decide +kernel, by decide +kernel⟩
abbrev s__law_integer : Stmt := topS 36
theorem sc__law_integer : FnScope ["deal", "number", "turn"] ["deal"] (defScope s__law_integer) := ⟨rfl, rfl, rfl, by decide +kernel, rfl, by decide +kernel, by decide +kernel⟩
abbrev s__law_rows_are_right : Stmt := topS 37
theorem sc__law_rows_are_right : FnScope ["sort", "length", "top", "j", "row"] ["sort", "length"] (defScope s__law_rows_are_right) := ⟨rfl, rfl, rfl, by decide +kernel, rfl, by decide +kernel, by decide +kernel⟩
abbrev s__law_spoilt : Stmt := topS 38
theorem sc__law_spoilt : FnScope ["deal", "sort", "length", "row", "some", "turn", "other", "one", "place", "at", "odd", "more", "j"] ["deal", "sort", "length", "row"] (defScope s__law_spoilt) := ⟨rfl, rfl, rfl, by decide +kernel, rfl, by decide +kernel, by decide +kernel⟩
abbrev s__law_made_is_right : Stmt := topS 39
theorem sc__law_made_is_right : FnScope ["deal", "sort", "length", "numbers", "j", "row", "other", "due"] ["deal", "sort", "length"] (defScope s__law_made_is_right) := ⟨rfl, rfl, rfl, by decide +kernel, rfl, by decide +kernel, by decide +kernel⟩
abbrev s__law_stays : Stmt := topS 40
theorem sc__law_stays : FnScope ["deal", "sort", "length", "letters", "first", "turn", "numbers", "j", "row", "due", "one"] ["deal", "sort", "length"] (defScope s__law_stays) := ⟨rfl, rfl, rfl, by decide +kernel, rfl, by decide +kernel, by decide +kernel⟩
abbrev s_law : Stmt := topS 41
theorem sc_law : FnScope ["script", "deal", "sort", "bound", "small", "with_codes", "length"] ["script"] (defScope s_law) := ⟨rfl, rfl, rfl, by decide +kernel, rfl, by decide +kernel, by decide +kernel⟩
/-- what the module leaves to the built-ins -/
structure Zs (mg : Str → Option Value) : Prop where
  abs : mg "abs" = none
  bool : mg "bool" = none
  enumerate : mg "enumerate" = none
  int : mg "int" = none
  isinstance : mg "isinstance" = none
  len : mg "len" = none
  range : mg "range" = none
  str : mg "str" = none
  sum : mg "sum" = none
  tuple : mg "tuple" = none
  zip : mg "zip" = none
/-- what it takes of math -/
structure Ms (mg : Str → Option Value) : Prop where
  gcd : mg "gcd" = some (.builtin "math.gcd")
def tI (ns : List Int) : Dat := .tup (ns.map .int)
def dSTEPS : List (Str × Dat) := [("two", .int 2), ("twice", .int 4), ("three", .int 3)]
def dLENGTHS : List (Str × Dat) := [("two", tI [2, 8]), ("twice", tI [8, 24]), ("three", tI [4, 12])]
def dFIRST : List (Str × Dat) := [("two", tI [1, 0, 1]), ("twice", tI [1, 0, 0, 0, 14, 0, 0, 0, 1]), ("three", tI [1, 0, 0, 8, 0])]
def dSECOND : List (Str × Dat) := [("two", tI [0, 0, 1, 0, -2, 0, 1, 0, 0]), ("twice", tI [0, 0, 0, 0, 1, 0, 0, 0, -4, 0, 0, 0, 6, 0, 0, 0, -4, 0, 0, 0, 1, 0, 0, 0, 0]), ("three", tI [0, 0, 0, 1, 0, 0, -3, 0, 0, 3, 0, 0, -1])]
structure Cs (K : PySem.W.Frag) (w : World) (mg : Str → Option Value) : Prop where
  STEPS : DicK K w mg "STEPS" dSTEPS
  LENGTHS : DicK K w mg "LENGTHS" dLENGTHS
  FIRST : DicK K w mg "FIRST" dFIRST
  SECOND : DicK K w mg "SECOND" dSECOND
end K60

namespace K60
open PySem PySem.Spec PyProof.Rows L2 Evl Own
def gcdI (a b : Int) : Int := ((Nat.gcd a.natAbs b.natAbs : Nat) : Int)
def spFrac (K : PySem.W.Frag) : Sp := fun vs H Q _ => ∃ t b : Int, vs = [.int t, .int b] ∧ 0 < b ∧ b.natAbs.log2 < 9000 ∧ RetU K ([t / gcdI t b, b / gcdI t b].map V.int) H Q
section
variable {P : Program} {w : World} {K : PySem.W.Frag} {mg : Str → Option Value} {base : Heap} {f : Addr} {fd : FuncData}
theorem gcd_pos {t b : Int} (h : 0 < b) : 0 < gcdI t b ∧ gcdI t b ≤ b := by
  have h1 : 0 < Nat.gcd t.natAbs b.natAbs := Nat.gcd_pos_of_pos_right _ (by omega)
  have h2 : Nat.gcd t.natAbs b.natAbs ≤ b.natAbs := Nat.gcd_le_right _ (by omega)
  unfold gcdI
  omega
theorem log2_mono {a b : Nat} (h : a ≤ b) (hb : b.log2 < 9000) : a.log2 < 9000 := by
  by_cases e : a = 0
  · subst e
    decide
  · refine Nat.lt_of_le_of_lt ?_ hb
    have h1 := Nat.log2_self_le e
    exact (Nat.le_log2 (by omega)).mpr (Nat.le_trans h1 h)
theorem ok_fraction_of (F : FnP K "fraction_of" s_fraction_of f fd) (Z : Zs mg) (M : Ms mg) : FnOk P w K mg base CX0 1 f fd ["top", "bottom"] (spFrac K) := by
  refine F.ok sc_fraction_of (fun vs H Q E h => ?_) (fun cdv A outer s H vs Q E hr h => ⟨_, PSs.nox (pss_cons (ps_set (i := 2) sc_fraction_of.nd rfl (by first | exact Or.inl rfl | exact Or.inr rfl) (pe_callBfun cr_gcd (by rfl) M.gcd (pa_cons (pv 0) (pa_cons (pv 1) pa_nil))))
  (pss_cons (ps_if (pt_cmpR op_lt (pv 1) pe_int (nomark _)) (pss_one (ps_set (i := 2) sc_fraction_of.nd rfl (by first | exact Or.inl rfl | exact Or.inr rfl) (pe_un un_neg (pv 2)))) pss_nil)
  (pss_one (ps_ret (pe_tupF (pa_cons (pe_op op_fdivW (pv 0) (pv 2)) (pa_cons (pe_op op_fdivW (pv 1) (pv 2)) pa_nil))))))), ?_⟩)
  · obtain ⟨t, b, rfl, _⟩ := h
    rfl
  · obtain ⟨t, b, rfl, b0, bl, k⟩ := h
    obtain ⟨g0, g1⟩ := gcd_pos (t := t) b0
    have gl : (gcdI t b).natAbs.log2 < 9000 := log2_mono (show (gcdI t b).natAbs ≤ b.natAbs by omega) bl
    refine ⟨_, rfl, _, rfl, t, b, rfl, ?_⟩
    refine ⟨_, rfl, _, _, rfl, rfl, _, rfl, ?_⟩
    rw [decide_eq_false (show ¬ b < 0 by omega)]
    refine iteF ⟨_, rfl, _, rfl, _, _, rfl, rfl, ⟨g0, gl⟩, _, rfl, _, rfl, _, _, rfl, rfl, ⟨g0, gl⟩, by show 2 ≤ sizeLine; decide, k.new (Ex.refl _)⟩
end
end K60

namespace K60
open PySem PySem.Spec PyProof.Rows L2 Evl Own
def longerL (xs : List Int) (t : Int) : List Int := (List.range (xs.length + 1)).map fun k => (0 :: xs.map fun v => t * v).getD k 0 + (xs ++ [0]).getD k 0
/-- a new list, what was known stays -/
def RetL (xs : List V) (H : Hp) (Q : VK) : Prop := ∀ p H2, H p = none → Ex H H2 → H2 p = some (.lst xs) → Q (.ref p) H2
def spLonger (K : PySem.W.Frag) : Sp := fun vs H Q _ => ∃ (p : Addr) (xs : List Int) (t : Int), vs = [.ref p, .int t] ∧ H p = some (.lst (xs.map V.int)) ∧ -1000 ≤ t ∧ t ≤ 1000 ∧ xs.length ≤ 1000 ∧ RetL ((longerL xs t).map V.int) H Q
def stepRow (q : Int) (x : Nat) : Nat → List Int
  | 0 => [1]
  | p + 1 => longerL (stepRow q x p) (if p < x then -1 else q - 1)
def spStepRow (K : PySem.W.Frag) : Sp := fun vs H Q _ => ∃ (q : Int) (n x : Nat), vs = [.int q, .int n, .int x] ∧ 2 ≤ q ∧ q ≤ 3 ∧ n ≤ 100 ∧ RetU K ((stepRow q x n).map V.int) H Q
theorem longer_len (xs : List Int) (t : Int) : (longerL xs t).length = xs.length + 1 := by
  unfold longerL
  rw [List.length_map, List.length_range]
theorem step_len (q : Int) (x : Nat) : ∀ n, (stepRow q x n).length = n + 1
  | 0 => rfl
  | n + 1 => by
    show (longerL _ _).length = _
    rw [longer_len, step_len q x n]
section
variable {P : Program} {w : World} {K : PySem.W.Frag} {mg : Str → Option Value} {base : Heap} {f : Addr} {fd : FuncData}
theorem ok_longer (F : FnP K "longer" s_longer f fd) (Z : Zs mg) : FnOk P w K mg base CX0 1 f fd ["found", "times"] (spLonger K) := by
  refine F.ok sc_longer (fun vs H Q E h => ?_) (fun cdv A outer s H vs Q E hr h => ⟨_, PSs.nox (pss_cons (ps_set (i := 2) sc_longer.nd rfl (by first | exact Or.inl rfl | exact Or.inr rfl) (pe_op op_cat (pe_lst (pa_cons pe_int pa_nil)) (pe_lc (own := [("number", 3)]) (g := (gName 3)) rfl sc_longer.nd (pi_list (pv 0)) (blkOk_by (own := [("number", 3)]) (N := ["found", "times", "ahead", "number", "at"]) (sc := defScope s_longer) (by decide +kernel)) (fun _ _ _ _ _ => (pg_name (i := 3) sc_longer.nd rfl (Or.inl rfl))) (fun _ _ _ _ _ => pts_nil) (fun _ _ _ _ _ => (pe_op op_mul (pv 1) (pv 3))))))
  (pss_one (ps_ret (pe_lc (own := [("at", 4), ("number", 3)]) (g := (gTup K 2 (gCons (gName 4) (gCons (gName 3) gNil)))) rfl sc_longer.nd (pi_enum (by rfl) Z.enumerate (pa_cons (pe_op op_cat (pv 0) (pe_lst (pa_cons pe_int pa_nil))) pa_nil)) (blkOk_by (own := [("at", 4), ("number", 3)]) (N := ["found", "times", "ahead", "number", "at"]) (sc := defScope s_longer) (by decide +kernel)) (fun _ _ _ _ _ => (pg_tup rfl (pgs_cons (pg_name (i := 4) sc_longer.nd rfl (Or.inl rfl)) (pgs_cons (pg_name (i := 3) sc_longer.nd rfl (Or.inl rfl)) pgs_nil)))) (fun _ _ _ _ _ => pts_nil) (fun _ _ _ _ _ => (pe_op op_add (pe_ix (kx_list (K := K)) (pv 2) (pv 4) (fun _ _ => rfl)) (pv 3))))))), ?_⟩)
  · obtain ⟨p, xs, t, rfl, _⟩ := h
    rfl
  · obtain ⟨p, xs, t, rfl, hp, t0, t1, few, k⟩ := h
    refine ⟨by decide, fun z hz => ?_⟩
    have ez := Ex.new (o := .lst [V.int 0]) hz
    refine ⟨_, rfl, p, rfl, ⟨_, sq_of (ez _ _ hp)⟩, lcP (walk_list (xs := xs.map V.int)) (fun H' e => sq_of (e _ _ (ez _ _ hp))) (by rw [List.length_map]; omega) (fun _ => true) (fun i => V.int (t * xs.getD i 0)) (fun i H1 x H2 hi e y K1 K0 k1 k0 => ?_) (fun d H2 hd e2 h2 => ?_)⟩
    · obtain ⟨rfl, g⟩ := y
      obtain ⟨rfl, _⟩ := int_at g
      exact ⟨rfl, yes_go ⟨_, rfl, _, rfl, _, _, rfl, rfl, .inl ⟨by omega, by omega⟩, k1 rfl _ (Ex.refl _)⟩⟩
    rw [given_all, List.length_map, range_map 0 (fun x => V.int (t * x)), show (xs.map fun x => V.int (t * x)) = (xs.map fun x => t * x).map V.int by rw [List.map_map]; rfl] at h2
    refine ⟨z, d, [V.int 0], (xs.map fun x => t * x).map V.int, rfl, rfl, e2 _ _ upd_same, h2, Nat.le_of_lt (sz_lt (by simp only [List.length_map, List.length_singleton]; omega)), fun a ha => ?_⟩
    have ea := Ex.new (o := .lst ([V.int 0] ++ (xs.map fun x => t * x).map V.int)) ha
    have ha' : upd H2 a (.lst ([V.int 0] ++ (xs.map fun x => t * x).map V.int)) a = some (.lst ((0 :: xs.map fun x => t * x).map V.int)) := upd_same
    generalize upd H2 a (.lst ([V.int 0] ++ (xs.map fun x => t * x).map V.int)) = H3 at ea ha' ⊢
    have e3 := ez.trans (e2.trans ea)
    refine ⟨_, rfl, by decide, fun y hy => ?_⟩
    have ey := Ex.new (o := .lst [V.int 0]) hy
    refine ⟨p, y, _, [V.int 0], rfl, rfl, ey _ _ (e3 _ _ hp), upd_same, Nat.le_of_lt (sz_lt (by simp only [List.length_map, List.length_singleton]; omega)), fun b hb => ?_⟩
    have eb := Ex.new (o := .lst (xs.map V.int ++ [V.int 0])) hb
    have hb' : upd (upd H3 y (.lst [V.int 0])) b (.lst (xs.map V.int ++ [V.int 0])) b = some (.lst ((xs ++ [0]).map V.int)) := by
      rw [upd_same, List.map_append]
      rfl
    generalize upd (upd H3 y (.lst [V.int 0])) b (.lst (xs.map V.int ++ [V.int 0])) = H4 at eb hb' ⊢
    have e34 := ey.trans eb
    have ha4 := e34 _ _ ha'
    refine ⟨b, _, rfl, sq_of hb', lcP walk_enumL (fun H' e => sq_of (e _ _ hb')) (by rw [List.length_map, List.length_append]; simp only [List.length_singleton]; omega) (fun _ => true) (fun i => V.int ((0 :: xs.map fun v => t * v).getD i 0 + (xs ++ [0]).getD i 0)) (fun i H5 x H6 hi e y K1 K0 k1 k0 => ?_) (fun d H6 hd e6 h6 => ?_)⟩
    · obtain ⟨T, x1, rfl, nT, rfl, g⟩ := y
      obtain ⟨rfl, hi'⟩ := int_at g
      have h0 : i < (0 :: xs.map fun v => t * v).length := by
        rw [List.length_append] at hi'
        rw [List.length_cons, List.length_map]
        simpa using hi'
      exact ⟨T, _, rfl, .inl (.inl upd_same), rfl, _, _, rfl, _, _, rfl, rfl, rfl, yes_go ⟨_, rfl, _, rfl, a, _, _, _, rfl, rfl, sq_of ((e.trans (Ex.new nT)) _ _ ha4), atI_int h0, _, rfl, _, _, rfl, rfl, k1 rfl _ (Ex.new nT)⟩⟩
    · rw [given_all, List.length_map, List.length_append] at h6
      have : (List.range (xs.length + [(0 : Int)].length)).map (fun i => V.int ((0 :: xs.map fun v => t * v).getD i 0 + (xs ++ [0]).getD i 0)) = (longerL xs t).map V.int := by
        unfold longerL
        rw [List.map_map]
        rfl
      rw [this] at h6
      exact k d H6 (fresh_back (e3.trans e34) hd) (e3.trans (e34.trans e6)) h6
theorem ok_step_row (F : FnP K "step_row" s_step_row f fd) (Z : Zs mg) (G_longer : Fn P w K mg base CX0 1 "longer" s_longer ["found", "times"] (spLonger K)) : FnOk P w K mg base CX0 2 f fd ["letters", "length", "x"] (spStepRow K) := by
  refine F.ok sc_step_row (fun vs H Q E h => ?_) (fun cdv A outer s H vs Q E hr h => ⟨_, PSs.nox (pss_cons (ps_set (i := 3) sc_step_row.nd rfl (by first | exact Or.inl rfl | exact Or.inr rfl) (pe_lst (pa_cons pe_int pa_nil)))
  (pss_cons (ps_for PassesOwn.never rfl (pi_range1 (by rfl) Z.range (pa_cons (pv 1) pa_nil)) (pg_name (i := 4) sc_step_row.nd rfl (by first | exact Or.inl rfl | exact Or.inr rfl)) (pss_one (ps_set (i := 3) sc_step_row.nd rfl (by first | exact Or.inl rfl | exact Or.inr rfl) (pe_callF G_longer (hr.mono (by decide)) rfl pass0 (pa_cons (pv 3) (pa_cons (pe_ifExp (pt_cmpR op_lt (pv 4) (pv 2) (nomark _)) (pe_un un_neg pe_int) (pe_op op_sub (pv 0) pe_int)) pa_nil))))))
  (pss_one (ps_ret (pe_callTy (kc_tuple (K := K)) (by rfl) Z.tuple (by decide +kernel) (pa_cons (pv 3) pa_nil)))))), ?_⟩)
  · obtain ⟨q, n, x, rfl, _⟩ := h
    rfl
  · obtain ⟨q, n, x, rfl, q0, q1, hn, k⟩ := h
    refine ⟨by decide, fun z hz => ?_⟩
    refine ⟨_, rfl, _, rfl, by omega, by omega, ?_⟩
    rw [show ((n : Nat) : Int).toNat = n by omega]
    refine for_range (lo := 0) (n := n) (fun i σ H' => Ex H H' ∧ ∃ p v, H' p = some (.lst ((stepRow q x i).map V.int)) ∧ σ = [some (.int q), some (.int (n : Int)), some (.int (x : Int)), some (.ref p), v]) ⟨Ex.new hz, z, none, upd_same, rfl⟩ (fun i σ H' hi y => ?_) (fun σ H' y => ?_)
    · obtain ⟨ex, p, v, hp, rfl⟩ := y
      have e0 : (0 : Int) + (i : Int) = (i : Int) := by omega
      show gName _ (V.int ((0 : Int) + (i : Int))) _ _ _
      rw [e0]
      refine ⟨_, rfl, _, rfl, _, rfl, _, _, rfl, rfl, _, rfl, ?_⟩
      by_cases c : i < x
      · rw [decide_eq_true (show (i : Int) < (x : Int) by omega)]
        have e : stepRow q x (i + 1) = longerL (stepRow q x i) (-1) := by
          show longerL _ (if i < x then _ else _) = _
          rw [if_pos c]
        refine iteT ⟨_, rfl, p, stepRow q x i, -1, rfl, hp, by decide, by decide, by rw [step_len]; omega, fun r H2 hr e2 h2 => ⟨ex.trans e2, r, _, ?_, rfl⟩⟩
        rw [e]
        exact h2
      · rw [decide_eq_false (show ¬ (i : Int) < (x : Int) by omega)]
        have e : stepRow q x (i + 1) = longerL (stepRow q x i) (q - 1) := by
          show longerL _ (if i < x then _ else _) = _
          rw [if_neg c]
        refine iteF ⟨_, rfl, _, _, rfl, rfl, p, stepRow q x i, q - 1, rfl, hp, by omega, by omega, by rw [step_len]; omega, fun r H2 hr e2 h2 => ⟨ex.trans e2, r, _, ?_, rfl⟩⟩
        rw [e]
        exact h2
    · obtain ⟨ex, p, v, hp, rfl⟩ := y
      exact ⟨_, rfl, p, _, rfl, .inl ⟨sq_of hp, k.new ex⟩⟩
end
end K60

namespace K60
open PySem PySem.Spec PyProof.Rows L2 Evl Own
theorem getD_rangeMap {α : Type} {d : α} (f : Nat → α) {n i : Nat} (h : i < n) : ((List.range n).map f).getD i d = f i := by
  simp only [List.getD_eq_getElem?_getD, List.getElem?_map, List.getElem?_range h]
  rfl
theorem ext_getD {α : Type} {d : α} {xs ys : List α} (h : xs.length = ys.length) (e : ∀ i, i < xs.length → xs.getD i d = ys.getD i d) : xs = ys := by
  apply List.ext_getElem h
  intro i h1 h2
  have := e i h1
  rw [List.getD_eq_getElem?_getD, List.getD_eq_getElem?_getD, List.getElem?_eq_getElem h1, List.getElem?_eq_getElem h2] at this
  exact this
/-- acc + c * row, its first j places -/
def addTo (acc row : List Int) (c : Int) (j : Nat) : List Int := (List.range acc.length).map fun k => acc.getD k 0 + (if k < j then c * row.getD k 0 else 0)
theorem addTo_len (acc row : List Int) (c : Int) (j : Nat) : (addTo acc row c j).length = acc.length := by
  unfold addTo
  rw [List.length_map, List.length_range]
theorem addTo_at {acc row : List Int} {c : Int} {j k : Nat} (h : k < acc.length) : (addTo acc row c j).getD k 0 = acc.getD k 0 + (if k < j then c * row.getD k 0 else 0) := getD_rangeMap _ h
theorem addTo_zero (acc row : List Int) (c : Int) : addTo acc row c 0 = acc := by
  apply ext_getD (d := 0) (addTo_len ..)
  intro i hi
  rw [addTo_len] at hi
  rw [addTo_at hi, if_neg (by omega), Int.add_zero]
theorem addTo_nil (acc row : List Int) (j : Nat) : addTo acc row 0 j = acc := by
  apply ext_getD (d := 0) (addTo_len ..)
  intro i hi
  rw [addTo_len] at hi
  rw [addTo_at hi]
  by_cases c : i < j
  · rw [if_pos c, Int.zero_mul, Int.add_zero]
  · rw [if_neg c, Int.add_zero]
theorem addTo_succ {acc row : List Int} {c : Int} {j : Nat} (h : j < acc.length) : (addTo acc row c j).set j ((addTo acc row c j).getD j 0 + c * row.getD j 0) = addTo acc row c (j + 1) := by
  apply ext_getD (d := 0)
  · rw [List.length_set, addTo_len, addTo_len]
  · intro i hi
    rw [List.length_set, addTo_len] at hi
    rw [addTo_at hi]
    by_cases e : j = i
    · subst e
      rw [List.getD_eq_getElem?_getD, List.getElem?_set_self (by rw [addTo_len]; exact h)]
      show (addTo acc row c j).getD j 0 + c * row.getD j 0 = _
      rw [addTo_at h, if_neg (by omega), if_pos (by omega), Int.add_zero]
    · rw [List.getD_eq_getElem?_getD, List.getElem?_set_ne e, ← List.getD_eq_getElem?_getD, addTo_at hi]
      by_cases c' : i < j
      · rw [if_pos c', if_pos (by omega)]
      · rw [if_neg c', if_neg (by omega)]
def topsR (q : Int) (n : Nat) (ns : List Int) : Nat → List Int
  | 0 => List.replicate (n + 1) 0
  | x + 1 => addTo (topsR q n ns x) (stepRow q x n) (ns.getD x 0) (n + 1)
theorem tops_len (q : Int) (n : Nat) (ns : List Int) : ∀ x, (topsR q n ns x).length = n + 1
  | 0 => List.length_replicate ..
  | x + 1 => by
    show (addTo _ _ _ _).length = _
    rw [addTo_len, tops_len q n ns x]
theorem longer_small {xs : List Int} {t : Int} {B : Nat} (h : ∀ v ∈ xs, v.natAbs ≤ B) (ht : t.natAbs ≤ 2) : ∀ v ∈ longerL xs t, v.natAbs ≤ 3 * B := by
  intro v hv
  unfold longerL at hv
  obtain ⟨k, hk, rfl⟩ := List.mem_map.mp hv
  have a : ((0 :: xs.map fun v => t * v).getD k 0).natAbs ≤ 2 * B := by
    cases k with
    | zero =>
      show (0 : Int).natAbs ≤ _
      simp
    | succ k =>
      show ((xs.map fun v => t * v).getD k 0).natAbs ≤ _
      rw [List.getD_eq_getElem?_getD, List.getElem?_map]
      cases e : xs[k]? with
      | none => simp
      | some u =>
        show (t * u).natAbs ≤ _
        rw [Int.natAbs_mul]
        exact Nat.mul_le_mul ht (h u (List.mem_of_getElem? e))
  have b : ((xs ++ [0]).getD k 0).natAbs ≤ B := by
    rw [List.getD_eq_getElem?_getD]
    cases e : (xs ++ [0])[k]? with
    | none => simp
    | some u =>
      show u.natAbs ≤ B
      rcases List.mem_append.mp (List.mem_of_getElem? e) with m | m
      · exact h u m
      · rw [List.mem_singleton.mp m]
        simp
  have := Int.natAbs_add_le ((0 :: xs.map fun v => t * v).getD k 0) ((xs ++ [0]).getD k 0)
  omega
theorem row_small {q : Int} (q0 : 2 ≤ q) (q1 : q ≤ 3) (x : Nat) : ∀ n, ∀ v ∈ stepRow q x n, v.natAbs ≤ 3 ^ n
  | 0 => fun v hv => by
    rw [List.mem_singleton.mp hv]
    decide
  | n + 1 => fun v hv => by
    have := longer_small (row_small q0 q1 x n) (t := if n < x then -1 else q - 1) (by split <;> omega) v hv
    rw [Nat.pow_succ, Nat.mul_comm]
    exact this
theorem row_64 {q : Int} (q0 : 2 ≤ q) (q1 : q ≤ 3) {x n : Nat} (hn : n ≤ 24) {v : Int} (hv : v ∈ stepRow q x n) : v.natAbs < 2 ^ 64 := by
  have h1 := row_small q0 q1 x n v hv
  have h2 : 3 ^ n ≤ 3 ^ 24 := Nat.pow_le_pow_right (by decide) hn
  have h3 : (3 : Nat) ^ 24 < 2 ^ 64 := by decide +kernel
  omega
def spTops (K : PySem.W.Frag) : Sp := fun vs H Q _ => ∃ (q : Int) (n : Nat) (p : Addr) (ns : List Int), vs = [.int q, .int n, .ref p] ∧ 2 ≤ q ∧ q ≤ 3 ∧ n ≤ 24 ∧ Tp K H p (ns.map V.int) ∧ ns.length = n + 1 ∧ RetL ((topsR q n ns (n + 1)).map V.int) H Q
section
variable {P : Program} {w : World} {K : PySem.W.Frag} {mg : Str → Option Value} {base : Heap} {f : Addr} {fd : FuncData}
theorem ok_told_tops (F : FnP K "told_tops" s_told_tops f fd) (Z : Zs mg) (G_step_row : Fn P w K mg base CX0 2 "step_row" s_step_row ["letters", "length", "x"] (spStepRow K)) : FnOk P w K mg base CX0 3 f fd ["letters", "length", "numbers"] (spTops K) := by
  refine F.ok sc_told_tops (fun vs H Q E h => ?_) (fun cdv A outer s H vs Q E hr h => ⟨_, PSs.nox (pss_cons (ps_set (i := 3) sc_told_tops.nd rfl (by first | exact Or.inl rfl | exact Or.inr rfl) (pe_op op_rep (pe_lst (pa_cons pe_int pa_nil)) (pe_op op_add (pv 1) pe_int)))
  (pss_cons (ps_for PassesOwn.never rfl (pi_enumT (by rfl) Z.enumerate (pa_cons (pv 2) pa_nil)) (pg_tup rfl (pgs_cons (pg_name (i := 4) sc_told_tops.nd rfl (by first | exact Or.inl rfl | exact Or.inr rfl)) (pgs_cons (pg_name (i := 5) sc_told_tops.nd rfl (by first | exact Or.inl rfl | exact Or.inr rfl)) pgs_nil))) (pss_one (ps_if (pt_cmpR op_ne (pv 5) pe_int (nomark _)) (pss_one (ps_for PassesOwn.never rfl (pi_enumT (by rfl) Z.enumerate (pa_cons (pe_callF G_step_row (hr.mono (by decide)) rfl pass0 (pa_cons (pv 0) (pa_cons (pv 1) (pa_cons (pv 4) pa_nil)))) pa_nil)) (pg_tup rfl (pgs_cons (pg_name (i := 6) sc_told_tops.nd rfl (by first | exact Or.inl rfl | exact Or.inr rfl)) (pgs_cons (pg_name (i := 7) sc_told_tops.nd rfl (by first | exact Or.inl rfl | exact Or.inr rfl)) pgs_nil))) (pss_one (ps_augS (pv 3) (pv 6) (kget_list (K := K)) (pe_op op_mul (pv 5) (pv 7)) ip_add set_list)))) pss_nil)))
  (pss_one (ps_ret (pv 3))))), ?_⟩)
  · obtain ⟨q, n, p, ns, rfl, _⟩ := h
    rfl
  · obtain ⟨q, n, p, ns, rfl, q0, q1, hn, hp, hl, k⟩ := h
    refine ⟨by decide, fun z hz => ⟨_, rfl, _, _, rfl, rfl, ?_⟩⟩
    have ez := Ex.new (o := .lst [V.int 0]) hz
    show rRep (.ref z) (.int (((n + 1 : Nat)) : Int)) _ _
    refine rep_lst upd_same (by omega) fun L hL => ?_
    have HL : H L = none := fresh_back ez hL
    have e1 := ez.trans (Ex.new (o := .lst (List.replicate (n + 1) (V.int 0))) hL)
    have h1 : upd (upd H z (.lst [V.int 0])) L (.lst (List.replicate (n + 1) (V.int 0))) L = some (.lst ((topsR q n ns 0).map V.int)) := by
      rw [upd_same]
      show _ = some (HO.lst ((List.replicate (n + 1) (0 : Int)).map V.int))
      rw [List.map_replicate]
    generalize upd (upd H z (.lst [V.int 0])) L (.lst (List.replicate (n + 1) (V.int 0))) = H1 at e1 h1 ⊢
    refine ⟨_, rfl, p, _, rfl, (hp.ex e1).sq, for_it walk_enumT (fun i σ H' => Ex H H' ∧ ∃ v1 v2 v3 v4, H' L = some (.lst ((topsR q n ns i).map V.int)) ∧ σ = [some (.int q), some (.int (n : Int)), some (.ref p), some (.ref L), v1, v2, v3, v4]) ⟨e1, none, none, none, none, h1, rfl⟩ (fun i σ H' _ h => (hp.ex h.1).sq) (fun i x σ H' H'' hi h y => ?_) (fun σ H' h => ?_)⟩
    · obtain ⟨ex, v1, v2, v3, v4, hL', rfl⟩ := h
      obtain ⟨T, x1, rfl, nT, rfl, g⟩ := y
      obtain ⟨rfl, hi'⟩ := int_at g
      have ex2 := ex.trans (Ex.new (o := .tup [.int (i : Nat), .int (ns.getD i 0)]) nT)
      have hL2 := (Ex.new (o := .tup [.int (i : Nat), .int (ns.getD i 0)]) nT) _ _ hL'
      refine ⟨T, _, rfl, .inl (.inl upd_same), rfl, _, _, rfl, _, _, rfl, rfl, ?_⟩
      generalize upd H' T (.tup [.int (i : Nat), .int (ns.getD i 0)]) = H2 at ex2 hL2 ⊢
      have tn : topsR q n ns (i + 1) = addTo (topsR q n ns i) (stepRow q i n) (ns.getD i 0) (n + 1) := rfl
      have tl := tops_len q n ns i
      have rl := step_len q i n
      rw [tn]
      generalize topsR q n ns i = acc at hL' hL2 tl ⊢
      generalize ns.getD i 0 = c
      refine ⟨_, rfl, rfl, _, rfl, ?_⟩
      rw [dec_int]
      by_cases c0 : c = 0
      · rw [c0, addTo_nil]
        exact iteF ⟨ex2, _, _, _, _, hL2, rfl⟩
      · rw [beq_eq_false_iff_ne.mpr c0]
        refine iteT ⟨_, rfl, _, rfl, _, rfl, q, n, i, rfl, q0, q1, by omega, fun r H3 e3 hr => ?_⟩
        refine ⟨r, _, rfl, hr.sq, for_it walk_enumT (fun j σ H' => Tp K H' r ((stepRow q i n).map V.int) ∧ Ex H H' ∧ ∃ v3 v4, H' L = some (.lst ((addTo acc (stepRow q i n) c j).map V.int)) ∧ σ = [some (.int q), some (.int (n : Int)), some (.ref p), some (.ref L), some (.int (i : Int)), some (.int c), v3, v4]) ⟨hr, ex2.trans e3, v3, v4, by rw [addTo_zero]; exact e3 _ _ hL2, rfl⟩ (fun j σ H' _ h => h.1.sq) (fun j x σ H' H'' hj h y => ?_) (fun σ H' h => ?_)⟩
        · obtain ⟨er, ex4, w3, w4, hL4, rfl⟩ := h
          obtain ⟨T, x1, rfl, nT, rfl, g⟩ := y
          obtain ⟨rfl, hj'⟩ := int_at g
          have eT := Ex.new (o := .tup [.int (j : Nat), .int ((stepRow q i n).getD j 0)]) nT
          have hL5 := eT _ _ hL4
          have er5 := er.ex eT
          have ex5 := ex4.trans eT
          have small := row_64 q0 q1 hn (Own.getD_mem hj')
          refine ⟨T, _, rfl, .inl (.inl upd_same), rfl, _, _, rfl, _, _, rfl, rfl, ?_⟩
          generalize upd H' T (.tup [.int (j : Nat), .int ((stepRow q i n).getD j 0)]) = H5 at hL5 er5 ex5 ⊢
          have ja : j < (addTo acc (stepRow q i n) c j).length := by rw [addTo_len]; omega
          refine ⟨_, rfl, _, rfl, L, _, _, _, rfl, rfl, sq_of hL5, atI_int ja, _, rfl, _, rfl, _, _, rfl, rfl, .inr ⟨by omega, by omega⟩, _, _, rfl, rfl, L, _, _, _, rfl, rfl, hL5, ixN_nat (by rw [List.length_map]; exact ja), ?_⟩
          rw [int_set, addTo_succ (by omega)]
          exact ⟨er5.mut hL5, ex_side ex5 HL, _, _, upd_same, rfl⟩
        · obtain ⟨_, ex4, w3, w4, hL4, rfl⟩ := h
          rw [List.length_map, rl] at hL4
          exact ⟨ex4, _, _, _, _, hL4, rfl⟩
    · obtain ⟨ex, v1, v2, v3, v4, hL', rfl⟩ := h
      rw [List.length_map, hl] at hL'
      exact ⟨_, rfl, k L H' HL ex hL'⟩
end
end K60

namespace K60
open PySem PySem.Spec PyProof.Rows L2 Evl Own
def frac (b t : Int) : Int × Int := (t / gcdI t b, b / gcdI t b)
def spCounts (K : PySem.W.Frag) : Sp := fun vs H Q _ => ∃ (q : Int) (n : Nat) (p : Addr) (ns : List Int), vs = [.int q, .int n, .ref p] ∧ 2 ≤ q ∧ q ≤ 3 ∧ n ≤ 24 ∧ Tp K H p (ns.map V.int) ∧ ns.length = n + 1 ∧ 0 < ns.sum ∧ ns.sum.natAbs.log2 < 9000 ∧
  ∀ e H2, Ex H H2 → TpP K H2 e ((topsR q n ns (n + 1)).map (frac ns.sum)) → Q (.ref e) H2
section
variable {P : Program} {w : World} {K : PySem.W.Frag} {mg : Str → Option Value} {base : Heap} {f : Addr} {fd : FuncData}
theorem ok_told_counts (F : FnP K "told_counts" s_told_counts f fd) (Z : Zs mg) (G_fraction_of : Fn P w K mg base CX0 1 "fraction_of" s_fraction_of ["top", "bottom"] (spFrac K)) (G_told_tops : Fn P w K mg base CX0 3 "told_tops" s_told_tops ["letters", "length", "numbers"] (spTops K)) : FnOk P w K mg base CX0 4 f fd ["letters", "length", "counts"] (spCounts K) := by
  refine F.ok sc_told_counts (fun vs H Q E h => ?_) (fun cdv A outer s H vs Q E hr h => ⟨_, PSs.nox (pss_cons (ps_set (i := 3) sc_told_counts.nd rfl (by first | exact Or.inl rfl | exact Or.inr rfl) (pe_callB (kc_sumT (K := K) rfl) (by rfl) Z.sum (by decide +kernel) (pa_cons (pv 2) pa_nil)))
  (pss_one (ps_ret (pe_callTy (kc_tuple (K := K)) (by rfl) Z.tuple (by decide +kernel) (pa_cons (pe_lc (own := [("top", 4)]) (g := (gName 4)) rfl sc_told_counts.nd (pi_list (pe_callF G_told_tops (hr.mono (by decide)) rfl pass0 (pa_cons (pv 0) (pa_cons (pv 1) (pa_cons (pv 2) pa_nil))))) (blkOk_by (own := [("top", 4)]) (N := ["letters", "length", "counts", "size", "top"]) (sc := defScope s_told_counts) (by decide +kernel)) (fun _ _ _ _ _ => (pg_name (i := 4) sc_told_counts.nd rfl (Or.inl rfl))) (fun _ _ _ _ _ => pts_nil) (fun _ _ _ _ _ => (pe_callF G_fraction_of (hr.mono (by decide)) rfl pass0 (pa_cons (pv 4) (pa_cons (pv 3) pa_nil))))) pa_nil))))), ?_⟩)
  · obtain ⟨q, n, p, ns, rfl, _⟩ := h
    rfl
  · obtain ⟨q, n, p, ns, rfl, q0, q1, hn, hp, hl, s0, sl, k⟩ := h
    refine ⟨_, rfl, p, ns, rfl, hp.sq, ?_⟩
    refine ⟨_, rfl, _, rfl, _, rfl, q, n, p, ns, rfl, q0, q1, hn, hp, hl, fun t H1 ht e1 h1 => ?_⟩
    have tl := tops_len q n ns (n + 1)
    have kk := fun e H2 (ex : Ex H H2) (h : TpP K H2 e ((topsR q n ns (n + 1)).map (frac ns.sum))) => k e H2 ex h
    generalize topsR q n ns (n + 1) = ts at h1 tl kk
    refine ⟨t, rfl, ⟨_, sq_of h1⟩, lcX (fun i acc H' => ∃ es, acc = es.map V.ref ∧ LstP K H' es ((ts.take i).map (frac ns.sum)) ∧ i ≤ ts.length) (walk_list (xs := ts.map V.int)) (fun D _ => ⟨[], rfl, ⟨rfl, fun i e f h => by cases h⟩, by omega⟩) (fun H' e => sq_of (e _ _ h1)) (fun i acc H' s => ?_)
      (fun i D acc H2 x H3 hi ex hD hacc s y K1 K0 k1 k0 => ?_) (fun D acc H2 hD ex hacc s => ?_)⟩
    · obtain ⟨es, rfl, l, hi⟩ := s
      rw [List.length_map, l.len, List.length_map, List.length_take]
      omega
    · obtain ⟨rfl, g⟩ := y
      obtain ⟨rfl, hi'⟩ := int_at g
      obtain ⟨es, rfl, l, _⟩ := s
      refine ⟨rfl, yes_go ⟨_, rfl, _, rfl, ts.getD i 0, ns.sum, rfl, s0, sl, fun e H5 e5 he => ?_⟩⟩
      refine k1 _ H5 e5 ⟨es ++ [e], by rw [List.map_append]; rfl, ?_, by omega⟩
      have tk : (ts.take (i + 1)).map (frac ns.sum) = (ts.take i).map (frac ns.sum) ++ [frac ns.sum (ts.getD i 0)] := by
        rw [List.take_succ, List.getElem?_eq_getElem hi', List.map_append, List.getD_eq_getElem?_getD, List.getElem?_eq_getElem hi']
        rfl
      rw [tk]
      exact ((l.ex e5).push he).mut (e5 _ _ hacc)
    · obtain ⟨es, rfl, l, _⟩ := s
      rw [List.length_map, List.take_length] at l
      refine ⟨D, _, rfl, .inl ⟨sq_of hacc, RetU.new (K := K) (H := H2) (fun e H5 e5 he => ?_) (Ex.refl _)⟩⟩
      exact kk e H5 (e1.trans (ex.trans e5)) ⟨es, he, l.ex e5⟩
end
end K60

namespace K60
open PySem PySem.Spec PyProof.Rows L2 Evl Own
theorem two_of {α : Type} {l : List α} (h : l.length = 2) : ∃ a b, l = [a, b] := by
  match l, h with
  | [a, b], _ => exact ⟨a, b, rfl⟩
section
variable {P : Program} {w : World} {K : PySem.W.Frag} {mg : Str → Option Value} {base : Heap} {f : Addr} {fd : FuncData}
theorem ok__law_deal (F : FnP K "_law_deal" s__law_deal f fd) (Z : Zs mg) : FnOk P w K mg base CX0 1 f fd ["script", "salt"] (spDeal 2 K) := by
  refine F.ok sc__law_deal (fun vs H Q E h => ?_) (fun cdv A outer s H vs Q E hr h => ⟨_, PSs.nox (pss_cons (ps_setLc (i := 2) (own := [("cell", 3)]) (g := (gName 3)) rfl sc__law_deal.nd rfl rfl (sw_true rfl rfl rfl (by decide +kernel)) (pi_list (pe_slice (ksl_list (K := K)) (pv 0) po_none (po_some pe_int))) (blkOk_by (own := [("cell", 3)]) (N := ["script", "salt", "cells", "cell", "mix"]) (sc := defScope s__law_deal) (by decide +kernel)) (fun _ _ _ _ _ => (pg_name (i := 3) sc__law_deal.nd rfl (Or.inl rfl))) (fun _ _ _ _ _ => pts_nil) (fun _ _ _ _ _ => (pe_callB call_abs (by rfl) Z.abs (by decide +kernel) (pa_cons (pe_callTy call_int1 (by rfl) Z.int (by decide +kernel) (pa_cons (pv 3) pa_nil)) pa_nil))))
  (pss_cons (ps_set (i := 4) sc__law_deal.nd rfl (by first | exact Or.inl rfl | exact Or.inr rfl) (pe_op op_add pe_int (pe_op op_mul pe_int (pv 1))))
  (pss_cons (ps_for PassesOwn.never rfl (pi_list (pv 2)) (pg_name (i := 3) sc__law_deal.nd rfl (by first | exact Or.inl rfl | exact Or.inr rfl)) (pss_one (ps_set (i := 4) sc__law_deal.nd rfl (by first | exact Or.inl rfl | exact Or.inr rfl) (pe_op op_mod (pe_callTy call_int1 (by rfl) Z.int (by decide +kernel) (pa_cons (pe_op op_add (pe_op op_add (pe_op op_mul (pv 4) pe_int) (pe_op op_mod (pv 3) pe_int)) pe_int) pa_nil)) pe_int))))
  (pss_one (ps_ret (pe_lst (pa_cons (pe_revL (pe_lc (own := [("cell", 3)]) (g := (gName 3)) rfl sc__law_deal.nd (pi_list (pv 2)) (blkOk_by (own := [("cell", 3)]) (N := ["script", "salt", "cells", "cell", "mix"]) (sc := defScope s__law_deal) (by decide +kernel)) (fun _ _ _ _ _ => (pg_name (i := 3) sc__law_deal.nd rfl (Or.inl rfl))) (fun _ _ _ _ _ => (pts_one (pt_cmpR op_ge (pv 3) (pe_op op_pow pe_int pe_int) (nomark _)))) (fun _ _ _ _ _ => (pv 3)))) (pa_cons (pv 4) (pa_cons pe_int pa_nil))))))))), ?_⟩)
  · obtain ⟨a, ns, salt, rfl, _⟩ := h
    rfl
  · obtain ⟨a, ns, salt, rfl, ha, s0, s1, k⟩ := h
    obtain ⟨ms, hm, hml⟩ := cut_ints ns none (some 63)
    have hm63 := cut_len63 ns
    rw [hm, List.length_map] at hm63
    refine ⟨_, rfl, _, rfl, a, _, rfl, ha, fun p hp => ⟨p, rfl, ⟨_, sq_of upd_same⟩, ?_⟩⟩
    rw [hm]
    have e1 := Ex.new (o := .lst (ms.map V.int)) hp
    refine lcP (Q := fun _ _ => _) (walk_list (xs := ms.map V.int)) (fun H' e => sq_of (e _ _ upd_same)) (by rw [List.length_map]; omega) (fun _ => true) (fun i => V.int (if ms.getD i 0 < 0 then -(ms.getD i 0) else ms.getD i 0)) (fun i H1 x H2 hi e y K1 K0 k1 k0 => ?_) (fun q H2 hq e2 h2 => ?_)
    · obtain ⟨rfl, g⟩ := y
      obtain ⟨rfl, _⟩ := int_at g
      exact ⟨rfl, yes_go ⟨_, rfl, .inl ⟨_, rfl, _, rfl, k1 rfl _ (Ex.refl _)⟩⟩⟩
    · rw [given_all, List.length_map, range_map 0 (fun x => V.int (if x < 0 then -x else x)), show (ms.map fun x => V.int (if x < 0 then -x else x)) = (ms.map fun x => if x < 0 then -x else x).map V.int by rw [List.map_map]; rfl] at h2
      have hpos : ∀ x ∈ ms.map (fun x => if x < 0 then -x else x), 0 ≤ x := fun x hx => by
        obtain ⟨y, _, rfl⟩ := List.mem_map.mp hx
        split <;> omega
      have hlen : (ms.map fun x => if x < 0 then -x else x).length ≤ 63 := by rw [List.length_map]; omega
      generalize (ms.map fun x => if x < 0 then -x else x) = cs at h2 hpos hlen
      have e12 := e1.trans e2
      refine ⟨_, rfl, _, _, rfl, rfl, .inl ⟨by decide, by decide⟩, _, _, rfl, rfl, ?_⟩
      refine ⟨_, rfl, q, rfl, ⟨_, sq_of h2⟩, for_list (xs := cs.map V.int) (fun i σ H' => H' = H2 ∧ ∃ (v : Option V) (mix : Int), 0 ≤ mix ∧ mix < 2147483647 ∧ σ = [some (.ref a), some (.int salt), some (.ref q), v, some (.int mix)]) ⟨rfl, none, _, ?_, ?_, rfl⟩ (fun i σ H' _ h => h.1 ▸ sq_of h2) (fun i x σ H' hx z => ?_) (fun σ H' z => ?_)⟩
      · omega
      · omega
      · obtain ⟨rfl, v, mix, m0, m1, rfl⟩ := z
        obtain ⟨rfl, _⟩ := int_at hx
        refine ⟨_, rfl, _, _, rfl, rfl, .inr ⟨by decide, by decide⟩, _, rfl, _, _, rfl, rfl, (show (0 : Int) < 2147483563 by decide), _, _, rfl, rfl, _, _, rfl, rfl, .inl ⟨_, rfl, _, _, rfl, rfl, (show (0 : Int) < 2147483647 by decide), ?_⟩⟩
        exact ⟨rfl, _, _, Int.emod_nonneg _ (by decide), Int.emod_lt_of_pos _ (by decide), rfl⟩
      · obtain ⟨rfl, v, mix, m0, m1, rfl⟩ := z
        refine ⟨_, rfl, q, rfl, ⟨_, sq_of h2⟩, lcP (walk_list (xs := cs.map V.int)) (fun H' e => sq_of (e _ _ h2)) (by rw [List.length_map]; omega) (fun i => decide (10 ^ 18 ≤ cs.getD i 0)) (fun i => V.int (cs.getD i 0)) (fun i H1 x H3 hi e y K1 K0 k1 k0 => ?_) (fun r H3 hr e3 h3 => ?_)⟩
        · obtain ⟨rfl, g⟩ := y
          obtain ⟨rfl, _⟩ := int_at g
          refine ⟨rfl, _, rfl, _, _, rfl, rfl, ⟨by decide, by decide, by decide⟩, _, _, rfl, rfl, _, rfl, ?_⟩
          by_cases c : (10 : Int) ^ 18 ≤ cs.getD i 0
          · have c' : (10 : Int) ^ (18 : Int).toNat ≤ cs.getD i 0 := c
            rw [decide_eq_true c']
            exact iteT ⟨_, rfl, k1 (decide_eq_true c) _ (Ex.refl _)⟩
          · have c' : ¬ (10 : Int) ^ (18 : Int).toNat ≤ cs.getD i 0 := c
            rw [decide_eq_false c']
            exact iteF (k0 (decide_eq_false c) _ (Ex.refl _))
        · have e13 := e12.trans e3
          rw [given_ints, List.length_map] at h3
          refine ⟨r, _, rfl, sq_of h3, ?_⟩
          rw [← List.map_reverse]
          refine fun t ht => ⟨_, rfl, (by show 3 ≤ sizeLine; decide), fun d hd => k d t _ ?_⟩
          clear h3
          have hlen2 : (((List.range cs.length).filter fun i => decide ((10 : Int) ^ 18 ≤ cs.getD i 0)).map fun i => cs.getD i 0).length ≤ cs.length := by
            rw [List.length_map]
            exact Nat.le_trans (List.length_filter_le _ _) (by rw [List.length_range]; exact Nat.le_refl _)
          have hpos2 : ∀ x ∈ (((List.range cs.length).filter fun i => decide ((10 : Int) ^ 18 ≤ cs.getD i 0)).map fun i => cs.getD i 0), 0 ≤ x := fun x hx => by
            obtain ⟨i, hi, rfl⟩ := List.mem_map.mp hx
            exact hpos _ (Own.getD_mem (List.mem_range.mp (List.mem_filter.mp hi).1))
          generalize (((List.range cs.length).filter fun i => decide ((10 : Int) ^ 18 ≤ cs.getD i 0)).map fun i => cs.getD i 0) = ds at hlen2 hpos2 hd
          have td : t ≠ d := fun e => by
            subst e
            rw [upd_same] at hd
            cases hd
          have hd3 : H3 d = none := by
            rw [upd_ne td.symm] at hd
            exact hd
          refine (Wd.wl (cs := ds.reverse) (ms := [mix, 0]) ⟨e13.trans ((Ex.new ht).trans (Ex.new hd)), fresh_back e13 hd3, fresh_back e13 ht, td.symm, upd_same, by rw [upd_ne td]; exact upd_same, fun x hx => hpos2 x (List.mem_reverse.mp hx), rfl, by rw [List.length_reverse]; omega⟩)
theorem ok__law_any (F : FnP K "_law_any" s__law_any f fd) (Z : Zs mg) : FnOk P w K mg base CX0 1 f fd ["deal", "bound"] (spAny 2) := by
  refine F.ok sc__law_any (fun vs H Q E h => ?_) (fun cdv A outer s H vs Q E hr h => ⟨_, PSs.nox (pss_cons (ps_while PassesOwn.never (PW.pt (pw_and (pt_cmpR (ko_ne (K := K) hr.units) (pe_ix (kx_list (K := K)) (pv 0) pe_int (fun _ _ => rfl)) (pe_lst pa_nil) (nomark _)) (pw_and1 (pt_cmpR op_eq (pe_ix (kx_list (K := K)) (pe_ix (kx_list (K := K)) (pv 0) pe_int (fun _ _ => rfl)) (pe_un un_neg pe_int) (fun _ _ => rfl)) pe_int (nomark _))))) (pss_one (ps_expr (km_bm0 (K := K) PySem.F.plainAttrs_list PySem.F.slot_list_pop PySem.F.type_list_pop mt_pop (pe_ix (kx_list (K := K)) (pv 0) pe_int (fun _ _ => rfl))))))
  (pss_cons (ps_if (pt_cmpR (ko_ne (K := K) hr.units) (pe_ix (kx_list (K := K)) (pv 0) pe_int (fun _ _ => rfl)) (pe_lst pa_nil) (nomark _)) (pss_cons (ps_set (i := 2) sc__law_any.nd rfl (by first | exact Or.inl rfl | exact Or.inr rfl) (pe_callTy call_int1 (by rfl) Z.int (by decide +kernel) (pa_cons (km_bm0 (K := K) PySem.F.plainAttrs_list PySem.F.slot_list_pop PySem.F.type_list_pop mt_pop (pe_ix (kx_list (K := K)) (pv 0) pe_int (fun _ _ => rfl))) pa_nil)))
  (pss_cons (ps_expr (km_bm (K := K) PySem.F.plainAttrs_list PySem.F.slot_list_append PySem.F.type_list_append mt_append (pe_ix (kx_list (K := K)) (pv 0) pe_int (fun _ _ => rfl)) (pa_cons (pe_op op_fdivW (pv 2) (pv 1)) pa_nil)))
  (pss_one (ps_ret (pe_op op_mod (pv 2) (pv 1)))))) pss_nil)
  (pss_cons (ps_asg (pe_op op_add (pe_ix (kx_list (K := K)) (pv 0) pe_int (fun _ _ => rfl)) pe_int) (pg_sub (pv 0) pe_int set_list))
  (pss_cons (ps_asg (pe_op op_mod (pe_callTy call_int1 (by rfl) Z.int (by decide +kernel) (pa_cons (pe_op op_add (pe_op op_add (pe_op op_mul (pe_ix (kx_list (K := K)) (pv 0) pe_int (fun _ _ => rfl)) pe_int) pe_int) (pe_op op_mul pe_int (pe_ix (kx_list (K := K)) (pv 0) pe_int (fun _ _ => rfl)))) pa_nil)) pe_int) (pg_sub (pv 0) pe_int set_list))
  (pss_one (ps_ret (pe_op op_mod (pe_callTy call_int1 (by rfl) Z.int (by decide +kernel) (pa_cons (pe_op op_fdivW (pe_op op_mod (pe_callTy call_int1 (by rfl) Z.int (by decide +kernel) (pa_cons (pe_op op_add (pe_op op_mul (pe_ix (kx_list (K := K)) (pv 0) pe_int (fun _ _ => rfl)) pe_int) (pe_ix (kx_list (K := K)) (pv 0) pe_int (fun _ _ => rfl))) pa_nil)) pe_int) pe_int) pa_nil)) (pv 1)))))))), ?_⟩)
  · obtain ⟨a, l, R, b, rfl, _⟩ := h
    rfl
  · obtain ⟨a, l, R, b, rfl, hw, b0, bl, k⟩ := h
    refine while_split (fun m σ H' => σ = [some (.ref a), some (.int b), none] ∧ ∃ cs ms, Wd 2 a l R H' cs ms ∧ cs.length = m) (fun σ H' => σ = [some (.ref a), some (.int b), none] ∧ ∃ cs ms, Wd 2 a l R H' cs ms) ?_ ?_ ?_
    · obtain ⟨cs, ms, hd⟩ := hw.wd
      exact ⟨_, rfl, cs, ms, hd, rfl⟩
    · rintro σ H' ⟨rfl, cs, ms, hd⟩
      obtain ⟨mx, c, rfl⟩ := two_of hd.is.mn
      refine ⟨_, rfl, a, _, 0, .ref l, rfl, rfl, sq_of hd.is.ha, rfl, by decide, fun z hz => ?_⟩
      have hd1 := hd.keep (Ex.new (o := .lst []) hz)
      refine ne_nil hd1.is.hl upd_same ?_
      rcases cases_last cs with rfl | ⟨ds, x, rfl⟩
      · refine ⟨_, rfl, iteF ?_⟩
        refine ⟨_, rfl, a, _, 2, .int c, rfl, rfl, sq_of hd1.is.ha, rfl, _, _, rfl, rfl, _, rfl, a, _, 2, 2, rfl, rfl, hd1.is.ha, rfl, ?_⟩
        have hd2 := hd1.nums (ms' := [mx, c + 1]) rfl
        refine ⟨_, rfl, a, _, 1, .int mx, rfl, rfl, sq_of hd2.is.ha, rfl, _, _, rfl, rfl, .inr ⟨by decide, by decide⟩, _, _, rfl, rfl, _, rfl, a, _, 2, .int (c + 1), rfl, rfl, sq_of hd2.is.ha, rfl, _, _, rfl, rfl, .inl ⟨by decide, by decide⟩, _, _, rfl, rfl, .inl ⟨_, rfl, _, _, rfl, rfl, (show (0 : Int) < 2147483647 by decide), _, rfl, a, _, 1, 1, rfl, rfl, hd2.is.ha, rfl, ?_⟩⟩
        have hd3 := hd2.nums (ms' := [(mx * 48271 + 41 + 1009 * (c + 1)) % 2147483647, c + 1]) rfl
        refine ⟨_, rfl, a, _, 1, .int _, rfl, rfl, sq_of hd3.is.ha, rfl, _, _, rfl, rfl, .inr ⟨by decide, by decide⟩, _, rfl, a, _, 2, .int (c + 1), rfl, rfl, sq_of hd3.is.ha, rfl, _, _, rfl, rfl, .inl ⟨_, rfl, _, _, rfl, rfl, (show (0 : Int) < 2147483629 by decide), _, _, rfl, rfl, ⟨by decide, by decide⟩, .inl ⟨_, rfl, _, rfl, _, _, rfl, rfl, b0, k _ _ (Int.emod_nonneg _ (by omega)) (Int.emod_lt_of_pos _ b0) hd3.wl⟩⟩⟩
      · rw [not_empty]
        refine ⟨_, rfl, iteT ?_⟩
        refine ⟨_, rfl, a, _, 0, .ref l, rfl, rfl, sq_of hd1.is.ha, rfl, .inl ⟨rfl, _, sq_of hd1.is.hl⟩, l, _, _, rfl, rfl, hd1.is.hl, (pop_last ds x).1, ?_⟩
        rw [(pop_last ds x).2]
        have hx : 0 ≤ x := hd1.is.pos x (by simp)
        have hlen := hd1.is.len
        rw [List.length_append, List.length_singleton] at hlen
        have hd2 := hd1.cells (ds := ds) (fun x hx => hd1.is.pos x (List.mem_append_left _ hx)) (by omega)
        refine .inl ⟨_, rfl, ?_⟩
        refine ⟨_, rfl, a, _, 0, .ref l, rfl, rfl, sq_of hd2.is.ha, rfl, .inl ⟨rfl, _, sq_of hd2.is.hl⟩, _, rfl, _, rfl, _, _, rfl, rfl, ⟨b0, bl⟩, l, _, _, rfl, rfl, hd2.is.hl, sz_lt (by rw [List.length_map]; omega), ?_⟩
        have hd3 := hd2.cells (ds := ds ++ [x / b]) (fun y hy => by
          rcases List.mem_append.mp hy with h | h
          · exact hd1.is.pos y (List.mem_append_left _ h)
          · rw [List.mem_singleton.mp h]
            exact Int.ediv_nonneg hx (by omega)) (by rw [List.length_append, List.length_singleton]; omega)
        rw [List.map_append] at hd3
        exact ⟨_, rfl, _, rfl, _, _, rfl, rfl, b0, k _ _ (Int.emod_nonneg _ (by omega)) (Int.emod_lt_of_pos _ b0) hd3.wl⟩
    · rintro nx hn m σ H' ⟨rfl, cs, ms, hd, rfl⟩
      obtain ⟨mx, c, rfl⟩ := two_of hd.is.mn
      refine ⟨_, rfl, a, _, 0, .ref l, rfl, rfl, sq_of hd.is.ha, rfl, by decide, fun z hz => ?_⟩
      have hd1 := hd.keep (Ex.new (o := .lst []) hz)
      refine ne_nil hd1.is.hl upd_same ?_
      rcases cases_last cs with rfl | ⟨ds, x, rfl⟩
      · exact ⟨_, rfl, iteF (iteF (hn _ _ ⟨rfl, _, _, hd1⟩))⟩
      · rw [not_empty]
        refine ⟨_, rfl, iteT ?_⟩
        refine ⟨_, rfl, a, _, 0, .ref l, rfl, rfl, sq_of hd1.is.ha, rfl, _, rfl, l, _, _, _, rfl, rfl, sq_of hd1.is.hl, at_last ds x, rfl, _, rfl, ?_⟩
        rw [dec_int]
        by_cases hx : x = 0
        · subst hx
          refine iteT ⟨_, fun σ' H' h => h, ⟨_, rfl, a, _, 0, .ref l, rfl, rfl, sq_of hd1.is.ha, rfl, .inl ⟨rfl, _, sq_of hd1.is.hl⟩, l, _, _, rfl, rfl, hd1.is.hl, (pop_last ds 0).1, ?_⟩⟩
          rw [(pop_last ds 0).2]
          exact ⟨ds.length, by rw [List.length_append, List.length_singleton]; omega, rfl, ds, _, hd1.cells (fun x hx => hd1.is.pos x (List.mem_append_left _ hx)) (by have := hd1.is.len; rw [List.length_append] at this; omega), rfl⟩
        · rw [beq_eq_false_iff_ne.mpr hx]
          exact iteF (hn _ _ ⟨rfl, _, _, hd1⟩)
theorem ok__law_of (F : FnP K "_law_of" s__law_of f fd) (Z : Zs mg) (G__law_any : Fn P w K mg base CX0 1 "_law_any" s__law_any ["deal", "bound"] (spAny 2)) : FnOk P w K mg base CX0 2 f fd ["deal", "some"] (spOf 2 K) := by
  refine F.ok sc__law_of (fun vs H Q E h => ?_) (fun cdv A outer s H vs Q E hr h => ⟨_, PSs.nox (pss_one (ps_ret (pe_ix (kx_list (K := K)) (pv 1) (pe_callF G__law_any (hr.mono (by decide)) rfl pass0 (pa_cons (pv 0) (pa_cons (pe_callB (kc_len (K := K)) (by rfl) Z.len PySem.boot_len (pa_cons (pv 1) pa_nil)) pa_nil))) (fun _ _ => rfl)))), ?_⟩)
  · obtain ⟨a, l, p, R, xs, rfl, _⟩ := h
    rfl
  · obtain ⟨a, l, p, R, xs, rfl, hw, hp, hne, hz, k⟩ := h
    have hlen : 0 < xs.length := List.length_pos_iff.mpr hne
    refine ⟨_, rfl, _, rfl, _, rfl, p, _, rfl, .inl (ex_l hw.ex hp), a, l, R, (xs.length : Int), rfl, hw, Int.ofNat_lt.mpr hlen, ?_, fun r H1 h0 h1 hw1 => ?_⟩
    · have := Nat.log2_le_self xs.length
      show xs.length.log2 < 9000
      omega
    · have hi : r.toNat < xs.length := by omega
      have hx : xs[r.toNat]? = some xs[r.toNat] := List.getElem?_eq_getElem hi
      refine ⟨p, _, r, xs[r.toNat], rfl, rfl, ex_l hw1.ex hp, ?_, k _ _ (List.getElem_mem hi) hw1⟩
      have e : r = ((r.toNat : Nat) : Int) := by omega
      have := atI_nat hx
      rw [← e] at this
      exact this
theorem ok__law_same0 (F : FnP K "_law_same" s__law_same f fd) (Z : Zs mg) : FnOk P w K mg base CX0 1 f fd ["told", "due"] (spSameR K 0) :=
  F.ok sc__law_same (fun vs H Q E h => h.elim) (fun cdv A outer s H vs Q E hr h => h.elim)
theorem ok__law_sameS {n : Nat} (F : FnP K "_law_same" s__law_same f fd) (Z : Zs mg) (G__law_same : Fn P w K mg base CX0 (n + 1) "_law_same" s__law_same ["told", "due"] (spSameR K n)) : FnOk P w K mg base CX0 (n + 2) f fd ["told", "due"] (spSame K n) := by
  refine F.ok sc__law_same (fun vs H Q E h => ?_) (fun cdv A outer s H vs Q E hr h => ⟨_, PSs.nox (pss_cons (ps_if (pt_val (pe_callB (kc_isi (K := K)) (by rfl) Z.isinstance (by decide +kernel) (pa_cons (pv 1) (pa_cons (pe_bltn (v := .ty "tuple") (u := .type "tuple") (by rfl) Z.tuple (by decide +kernel) rfl) pa_nil)))) (pss_cons (ps_if (PW.pt (pw_or (pt_not (pt_val (pe_callB (kc_isi (K := K)) (by rfl) Z.isinstance (by decide +kernel) (pa_cons (pv 0) (pa_cons (pe_bltn (v := .ty "tuple") (u := .type "tuple") (by rfl) Z.tuple (by decide +kernel) rfl) pa_nil))))) (pw_or1 (pt_cmpR op_ne (pe_callB (kc_len (K := K)) (by rfl) Z.len PySem.boot_len (pa_cons (pv 0) pa_nil)) (pe_callB (kc_len (K := K)) (by rfl) Z.len PySem.boot_len (pa_cons (pv 1) pa_nil)) (nomark _))))) (pss_one (ps_ret pe_bl)) pss_nil)
  (pss_one (ps_ret (pe_cmpR op_eq (pe_callB (kc_len (K := K)) (by rfl) Z.len PySem.boot_len (pa_cons (pe_lc (own := [("at", 2)]) (g := (gName 2)) rfl sc__law_same.nd (pi_range1 (by rfl) Z.range (pa_cons (pe_callB (kc_len (K := K)) (by rfl) Z.len PySem.boot_len (pa_cons (pv 1) pa_nil)) pa_nil)) (blkOk_by (own := [("at", 2)]) (N := ["told", "due", "at"]) (sc := defScope s__law_same) (by decide +kernel)) (fun _ _ _ _ _ => (pg_name (i := 2) sc__law_same.nd rfl (Or.inl rfl))) (fun _ _ _ _ _ => (pts_one (pt_not (pt_val (pe_callF G__law_same (hr.mono (Nat.le_refl _)) rfl pass0 (pa_cons (pe_ix (kx_tup (K := K)) (pv 0) (pv 2) (fun _ _ => rfl)) (pa_cons (pe_ix (kx_tup (K := K)) (pv 1) (pv 2) (fun _ _ => rfl)) pa_nil))))))) (fun _ _ _ _ _ => (pv 2))) pa_nil)) pe_int (nomark _))))) pss_nil)
  (pss_cons (ps_if (pt_cmpR op_isN (pv 1) pe_non (nomark _)) (pss_one (ps_ret (pe_cmpR op_isN (pv 0) pe_non (nomark _)))) pss_nil)
  (pss_cons (ps_if (pt_val (pe_callB (kc_isi (K := K)) (by rfl) Z.isinstance (by decide +kernel) (pa_cons (pv 1) (pa_cons (pe_bltn (v := .ty "bool") (u := .type "bool") (by rfl) Z.bool (by decide +kernel) rfl) pa_nil)))) (pss_one (ps_ret (pe_ifExp (pt_val (pv 1)) (pe_cmpR op_isBg (pv 0) pe_bl (nomark _)) (pe_cmpR op_isBg (pv 0) pe_bl (nomark _))))) pss_nil)
  (pss_cons (ps_if (pt_val (pe_callB (kc_isi (K := K)) (by rfl) Z.isinstance (by decide +kernel) (pa_cons (pv 1) (pa_cons (pe_bltn (v := .ty "int") (u := .type "int") (by rfl) Z.int (by decide +kernel) rfl) pa_nil)))) (pss_one (ps_ret (pe_and (pe_callB (kc_isi (K := K)) (by rfl) Z.isinstance (by decide +kernel) (pa_cons (pv 0) (pa_cons (pe_bltn (v := .ty "int") (u := .type "int") (by rfl) Z.int (by decide +kernel) rfl) pa_nil))) (pe_and (pe_not (pe_callB (kc_isi (K := K)) (by rfl) Z.isinstance (by decide +kernel) (pa_cons (pv 0) (pa_cons (pe_bltn (v := .ty "bool") (u := .type "bool") (by rfl) Z.bool (by decide +kernel) rfl) pa_nil)))) (pe_one (pe_cmpR op_eq (pv 0) (pv 1) (nomark _))))))) pss_nil)
  (pss_one (ps_ret (pe_and (pe_callB (kc_isi (K := K)) (by rfl) Z.isinstance (by decide +kernel) (pa_cons (pv 0) (pa_cons (pe_bltn (v := .ty "str") (u := .type "str") (by rfl) Z.str (by decide +kernel) rfl) pa_nil))) (pe_one (pe_cmpR op_eq (pv 0) (pv 1) (nomark _)))))))))), ?_⟩)
  · obtain ⟨x, y, rfl, _⟩ := h
    rfl
  · obtain ⟨x, y, rfl, h, k⟩ := h
    have h' : (x = y ∧ scalV x = true) ∨ ∃ m, n = m + 1 ∧ ∃ p q xs ys, x = .ref p ∧ y = .ref q ∧ Tp K H p xs ∧ Tp K H q ys ∧ xs.length = ys.length ∧ xs.length ≤ 1000 ∧ ∀ (i : Nat) u v, xs[i]? = some u → ys[i]? = some v → Sm K H m u v := by
      cases n with
      | zero => exact .inl h
      | succ m =>
        rcases h with h | h
        · exact .inl h
        · exact .inr ⟨m, rfl, h⟩
    rcases h' with ⟨rfl, hs⟩ | ⟨m, rfl, p, q, xs, ys, rfl, rfl, hp, hq, hl, hz, hi⟩
    · cases x <;> first | cases hs | skip
      · refine ⟨_, rfl, _, .ty "tuple", _, .type "tuple", _, rfl, .ty _, ((Vk.non : Vk K H _ _)).ty, kit_vk ((Vk.non : Vk K H _ _)) "tuple", _, rfl, iteF ?_⟩
        exact ⟨_, rfl, rfl, _, rfl, iteT ⟨_, rfl, rfl, k _ (Ex.refl _)⟩⟩
      · rename_i b
        refine ⟨_, rfl, _, .ty "tuple", _, .type "tuple", _, rfl, .ty _, ((Vk.bl b : Vk K H _ _)).ty, kit_vk ((Vk.bl b : Vk K H _ _)) "tuple", _, rfl, iteF ?_⟩
        refine ⟨_, rfl, rfl, _, rfl, iteF ?_⟩
        refine ⟨_, rfl, _, .ty "bool", _, .type "bool", _, rfl, .ty _, ((Vk.bl b : Vk K H _ _)).ty, kit_vk ((Vk.bl b : Vk K H _ _)) "bool", _, rfl, iteT ?_⟩
        cases b
        · exact ⟨_, rfl, _, rfl, iteF ⟨_, rfl, false, rfl, rfl, k _ (Ex.refl _)⟩⟩
        · exact ⟨_, rfl, _, rfl, iteT ⟨_, rfl, true, rfl, rfl, k _ (Ex.refl _)⟩⟩
      · rename_i i
        refine ⟨_, rfl, _, .ty "tuple", _, .type "tuple", _, rfl, .ty _, ((Vk.int i : Vk K H _ _)).ty, kit_vk ((Vk.int i : Vk K H _ _)) "tuple", _, rfl, iteF ?_⟩
        refine ⟨_, rfl, rfl, _, rfl, iteF ?_⟩
        refine ⟨_, rfl, _, .ty "bool", _, .type "bool", _, rfl, .ty _, ((Vk.int i : Vk K H _ _)).ty, kit_vk ((Vk.int i : Vk K H _ _)) "bool", _, rfl, iteF ?_⟩
        refine ⟨_, rfl, _, .ty "int", _, .type "int", _, rfl, .ty _, ((Vk.int i : Vk K H _ _)).ty, kit_vk ((Vk.int i : Vk K H _ _)) "int", _, rfl, iteT ?_⟩
        refine ⟨_, rfl, _, .ty "int", _, .type "int", _, rfl, .ty _, ((Vk.int i : Vk K H _ _)).ty, kit_vk ((Vk.int i : Vk K H _ _)) "int", _, rfl, iteT ⟨_, rfl, _, .ty "bool", _, .type "bool", _, rfl, .ty _, ((Vk.int i : Vk K H _ _)).ty, kit_vk ((Vk.int i : Vk K H _ _)) "bool", _, rfl, _, rfl, iteT ⟨_, rfl, _, rfl, rfl, ?_⟩⟩⟩
        rw [dec_int, beq_self_eq_true]
        exact k _ (Ex.refl _)
      · rename_i z
        refine ⟨_, rfl, _, .ty "tuple", _, .type "tuple", _, rfl, .ty _, ((Vk.str z : Vk K H _ _)).ty, kit_vk ((Vk.str z : Vk K H _ _)) "tuple", _, rfl, iteF ?_⟩
        refine ⟨_, rfl, rfl, _, rfl, iteF ?_⟩
        refine ⟨_, rfl, _, .ty "bool", _, .type "bool", _, rfl, .ty _, ((Vk.str z : Vk K H _ _)).ty, kit_vk ((Vk.str z : Vk K H _ _)) "bool", _, rfl, iteF ?_⟩
        refine ⟨_, rfl, _, .ty "int", _, .type "int", _, rfl, .ty _, ((Vk.str z : Vk K H _ _)).ty, kit_vk ((Vk.str z : Vk K H _ _)) "int", _, rfl, iteF ?_⟩
        refine ⟨_, rfl, _, .ty "str", _, .type "str", _, rfl, .ty _, ((Vk.str z : Vk K H _ _)).ty, kit_vk ((Vk.str z : Vk K H _ _)) "str", _, rfl, iteT ⟨_, rfl, _, rfl, rfl, ?_⟩⟩
        rw [decide_eq_true rfl]
        exact k _ (Ex.refl _)
    · refine ⟨_, rfl, _, .ty "tuple", _, .type "tuple", _, rfl, .ty _, ((Vk.tup hq : Vk K H _ _)).ty, kit_vk ((Vk.tup hq : Vk K H _ _)) "tuple", _, rfl, iteT ?_⟩
      refine ⟨_, rfl, _, .ty "tuple", _, .type "tuple", _, rfl, .ty _, ((Vk.tup hp : Vk K H _ _)).ty, kit_vk ((Vk.tup hp : Vk K H _ _)) "tuple", _, rfl, iteF ⟨_, rfl, p, _, rfl, .inr hp.sq, _, rfl, q, _, rfl, .inr hq.sq, rfl, _, rfl, ?_⟩⟩
      rw [hl, decide_eq_true rfl]
      refine iteF ?_
      refine ⟨_, rfl, q, _, rfl, .inr hq.sq, _, rfl, by omega, by omega, ?_⟩
      rw [show ((ys.length : Nat) : Int).toNat = ys.length by omega]
      refine lcP (walk_range (lo := 0)) (fun _ _ => trivial) (by omega) (fun _ => false) (fun i => V.int (i : Int)) (fun i H1 x H2 hi' e y K1 K0 k1 k0 => ?_) (fun r H2 hr e2 h2 => ?_)
      · obtain ⟨rfl, rfl⟩ := y
        have e0 : (0 : Int) + (i : Int) = (i : Int) := by omega
        show gName _ (V.int ((0 : Int) + (i : Int))) _ _ _
        rw [e0]
        have hx : xs[i]? = some (xs[i]'(by omega)) := List.getElem?_eq_getElem _
        have hy : ys[i]? = some ys[i] := List.getElem?_eq_getElem _
        refine ⟨rfl, _, rfl, _, rfl, p, _, _, _, rfl, rfl, (hp.ex e).sq, atI_nat hx, _, rfl, _, rfl, q, _, _, _, rfl, rfl, (hq.ex e).sq, atI_nat hy, ?_⟩
        exact ⟨_, _, rfl, (hi i _ _ hx hy).ex e, fun H' e' => ⟨_, rfl, iteF (k0 rfl _ e')⟩⟩
      · have h0 : given ys.length (fun _ => false) (fun i => V.int (i : Int)) = [] := by
          unfold given
          simp
        rw [h0] at h2
        exact ⟨r, _, rfl, .inl (sq_of h2), rfl, k _ e2⟩
theorem ok__law_same (F : FnP K "_law_same" s__law_same f fd) (hb : Binds K fd ["told", "due"] []) (hf : mg "_law_same" = some (.ref f)) (Z : Zs mg) : ∀ n : Nat, FnOk P w K mg base CX0 (n + 2) f fd ["told", "due"] (spSame K n)
  | 0 => ok__law_sameS F Z ⟨f, fd, hf, F, hb, ok__law_same0 F Z⟩
  | n + 1 => ok__law_sameS F Z ⟨f, fd, hf, F, hb, ok__law_same F hb hf Z n⟩
end
end K60

namespace K60
open PySem PySem.Spec PyProof.Rows L2 Evl Own
/-! ### products -/
def mulIn (xs ys acc : List Int) (a : Nat) : Nat → List Int
  | 0 => acc
  | j + 1 => (mulIn xs ys acc a j).set (a + j) ((mulIn xs ys acc a j).getD (a + j) 0 + xs.getD a 0 * ys.getD j 0)
def mulUp (xs ys : List Int) : Nat → List Int
  | 0 => List.replicate (xs.length + ys.length - 1) 0
  | i + 1 => mulIn xs ys (mulUp xs ys i) i ys.length
theorem mulIn_len (xs ys acc : List Int) (a : Nat) : ∀ j, (mulIn xs ys acc a j).length = acc.length
  | 0 => rfl
  | j + 1 => by
    show ((mulIn xs ys acc a j).set _ _).length = _
    rw [List.length_set, mulIn_len xs ys acc a j]
theorem mulUp_len (xs ys : List Int) : ∀ i, (mulUp xs ys i).length = xs.length + ys.length - 1
  | 0 => List.length_replicate ..
  | i + 1 => by
    show (mulIn _ _ _ _ _).length = _
    rw [mulIn_len, mulUp_len xs ys i]
theorem set_same (xs : List Int) (i : Nat) (c : Int) : xs.set i (xs.getD i 0 + 0 * c) = xs := by
  rw [Int.zero_mul, Int.add_zero]
  apply List.ext_getElem?
  intro k
  by_cases e : i = k
  · subst e
    by_cases h : i < xs.length
    · rw [List.getElem?_set_self h, List.getD_eq_getElem?_getD, List.getElem?_eq_getElem h]
      rfl
    · rw [List.getElem?_eq_none (by rw [List.length_set]; omega), List.getElem?_eq_none (by omega)]
  · rw [List.getElem?_set_ne e]
theorem mulIn_zero (xs ys acc : List Int) (a : Nat) (h : xs.getD a 0 = 0) : ∀ j, mulIn xs ys acc a j = acc
  | 0 => rfl
  | j + 1 => by
    show (mulIn xs ys acc a j).set _ _ = _
    rw [mulIn_zero xs ys acc a h j, h, set_same]
def tm (xs ys : List Int) : List Int := mulUp xs ys xs.length
theorem tm_len (xs ys : List Int) : (tm xs ys).length = xs.length + ys.length - 1 := mulUp_len xs ys _
def powL (xs : List Int) : Nat → List Int
  | 0 => [1]
  | k + 1 => tm (powL xs k) xs
theorem powL_len (xs : List Int) (h : 0 < xs.length) : ∀ k, (powL xs k).length = 1 + k * (xs.length - 1)
  | 0 => by
    show (1 : Nat) = _
    omega
  | k + 1 => by
    show (tm (powL xs k) xs).length = _
    rw [tm_len, powL_len xs h k, Nat.succ_mul]
    omega
/-! ### sorts -/
inductive Srt | two | twice | three
  deriving DecidableEq
namespace Srt
def s : Srt → Str | two => "two" | twice => "twice" | three => "three"
def step : Srt → Nat | two => 2 | twice => 4 | three => 3
def small : Srt → Nat | two => 2 | twice => 8 | three => 4
def great : Srt → Nat | two => 8 | twice => 24 | three => 12
def bound : Srt → Nat | two => 24 | twice => 24 | three => 16
def first : Srt → List Int | two => [1, 0, 1] | twice => [1, 0, 0, 0, 14, 0, 0, 0, 1] | three => [1, 0, 0, 8, 0]
def second : Srt → List Int | two => [0, 0, 1, 0, -2, 0, 1, 0, 0] | twice => [0, 0, 0, 0, 1, 0, 0, 0, -4, 0, 0, 0, 6, 0, 0, 0, -4, 0, 0, 0, 1, 0, 0, 0, 0] | three => [0, 0, 0, 1, 0, 0, -3, 0, 0, 3, 0, 0, -1]
def fac : Srt → List Int | two => [1, 1] | twice => [1, 14, 1] | three => [1, 8]
def many : Srt → Nat | two => 2 | twice => 4 | three => 3
def q : Srt → Int | two => 2 | twice => 2 | three => 3
theorem small_pos (s : Srt) : 0 < s.small := by cases s <;> decide
theorem great_pos (s : Srt) : 0 < s.great := by cases s <;> decide
theorem step_pos (s : Srt) : 0 < s.step ∧ s.step ≤ 4 := by cases s <;> decide
theorem bound_le (s : Srt) : s.bound ≤ 24 := by cases s <;> decide
theorem small_le (s : Srt) : s.small ≤ 8 ∧ s.great ≤ 24 ∧ s.many ≤ 4 := by cases s <;> decide
theorem inSTEPS (s : Srt) : (s.s, Dat.int s.step) ∈ dSTEPS := by cases s <;> simp [dSTEPS, Srt.s, step]
theorem inLENGTHS (s : Srt) : (s.s, tI [(s.small : Int), (s.great : Int)]) ∈ dLENGTHS := by cases s <;> simp [dLENGTHS, Srt.s, small, great]
theorem inFIRST (s : Srt) : (s.s, tI s.first) ∈ dFIRST := by cases s <;> simp [dFIRST, Srt.s, first]
theorem inSECOND (s : Srt) : (s.s, tI s.second) ∈ dSECOND := by cases s <;> simp [dSECOND, Srt.s, second]
end Srt
/-- how many told rows -/
def cnt (s : Srt) (n : Nat) : Nat := if n % s.small = 0 then n / s.great + 1 else 0
def toldR (s : Srt) (n j : Nat) : List Int := tm (powL s.second j) (powL s.first ((n - j * s.great) / s.small))
theorem Srt.lens (s : Srt) : s.first.length = s.small + 1 ∧ s.second.length = s.great + 1 := by cases s <;> decide
theorem toldR_len (s : Srt) (n j : Nat) (h : n % s.small = 0) (hj : j * s.great ≤ n) : (toldR s n j).length = n + 1 := by
  have l := s.lens
  unfold toldR
  rw [tm_len, powL_len _ (by omega), powL_len _ (by omega), l.1, l.2, Nat.add_sub_cancel, Nat.add_sub_cancel]
  have e : (n - j * s.great) / s.small * s.small = n - j * s.great := by
    have d1 : s.small ∣ n := Nat.dvd_of_mod_eq_zero h
    have d2 : s.small ∣ j * s.great := by
      cases s
      · exact Nat.dvd_trans (show 2 ∣ 8 by decide) (Nat.dvd_mul_left ..)
      · exact Nat.dvd_trans (show 8 ∣ 24 by decide) (Nat.dvd_mul_left ..)
      · exact Nat.dvd_trans (show 4 ∣ 12 by decide) (Nat.dvd_mul_left ..)
    exact Nat.div_mul_cancel (Nat.dvd_sub d1 d2)
  omega
theorem cnt_ok {s : Srt} {n j : Nat} (h : j < cnt s n) : n % s.small = 0 ∧ j * s.great ≤ n := by
  unfold cnt at h
  by_cases c : n % s.small = 0
  · rw [if_pos c] at h
    refine ⟨c, ?_⟩
    have : j * s.great ≤ (n / s.great) * s.great := Nat.mul_le_mul_right _ (by omega)
    have := Nat.div_mul_le_self n s.great
    omega
  · rw [if_neg c] at h
    omega
theorem cnt_le (s : Srt) (n : Nat) (h : n ≤ 24) : cnt s n ≤ 4 := by
  unfold cnt
  split
  · have : n / s.great ≤ 24 / 8 := by
      cases s
      · exact Nat.div_le_div_right h
      · exact Nat.le_trans (Nat.div_le_div_right h) (by decide)
      · exact Nat.le_trans (Nat.div_le_div_right h) (by decide)
    omega
  · omega
/-- here + number * there -/
def adl (xs : List Int) (c : Int) (ys : List Int) : List Int := (List.range xs.length).map fun i => xs.getD i 0 + c * ys.getD i 0
theorem adl_len (xs : List Int) (c : Int) (ys : List Int) : (adl xs c ys).length = xs.length := by
  unfold adl
  rw [List.length_map, List.length_range]
theorem adl_at (xs : List Int) (c : Int) (ys : List Int) {i : Nat} (h : i < xs.length) : (adl xs c ys).getD i 0 = xs.getD i 0 + c * ys.getD i 0 := getD_rangeMap _ h
def smallL (ys : List Int) : Prop := ∀ y ∈ ys, y.natAbs < 2 ^ 64
theorem smallL.at {ys : List Int} (h : smallL ys) (i : Nat) : (ys.getD i 0).natAbs < 2 ^ 64 := by
  rw [List.getD_eq_getElem?_getD]
  cases e : ys[i]? with
  | none => show (0 : Int).natAbs < _; decide
  | some y => exact h y (List.mem_of_getElem? e)
/-! ### promises -/
def spNought (K : PySem.W.Frag) : Sp := fun vs H Q _ => ∃ n : Nat, vs = [.int (n : Int)] ∧ n ≤ 100 ∧ RetU K ((List.replicate (n + 1) (0 : Int)).map V.int) H Q
def spTimesT (K : PySem.W.Frag) : Sp := fun vs H Q _ => ∃ (p r : Addr) (xs ys : List Int), vs = [.ref p, .ref r] ∧ Tp K H p (xs.map V.int) ∧ Tp K H r (ys.map V.int) ∧ 0 < xs.length ∧ xs.length ≤ 1000 ∧ 0 < ys.length ∧ ys.length ≤ 1000 ∧ smallL ys ∧ RetU K ((tm xs ys).map V.int) H Q
def spPowerRow (K : PySem.W.Frag) : Sp := fun vs H Q _ => ∃ (p : Addr) (xs : List Int) (m : Nat), vs = [.ref p, .int (m : Int)] ∧ Tp K H p (xs.map V.int) ∧ 0 < xs.length ∧ xs.length ≤ 30 ∧ smallL xs ∧ m ≤ 30 ∧ RetU K ((powL xs m).map V.int) H Q
def spWith (K : PySem.W.Frag) : Sp := fun vs H Q _ => ∃ (p r : Addr) (xs ys : List Int) (c : Int), vs = [.ref p, .int c, .ref r] ∧ Tp K H p (xs.map V.int) ∧ Tp K H r (ys.map V.int) ∧ xs.length = ys.length ∧ xs.length ≤ 1000 ∧ smallL ys ∧ RetU K ((adl xs c ys).map V.int) H Q
def spIsNought (K : PySem.W.Frag) : Sp := fun vs H Q _ => ∃ (p : Addr) (xs : List Int), vs = [.ref p] ∧ Tp K H p (xs.map V.int) ∧ xs.length ≤ 1000 ∧ ∀ H', Ex H H' → Q (.bl (decide (xs = List.replicate xs.length 0))) H'
section
variable {P : Program} {w : World} {K : PySem.W.Frag} {mg : Str → Option Value} {base : Heap} {f : Addr} {fd : FuncData}
theorem ok_nought_counts (F : FnP K "nought_counts" s_nought_counts f fd) (Z : Zs mg) : FnOk P w K mg base CX0 1 f fd ["length"] (spNought K) := by
  refine F.ok sc_nought_counts (fun vs H Q E h => ?_) (fun cdv A outer s H vs Q E hr h => ⟨_, PSs.nox (pss_one (ps_ret (pe_op (ko_rep (K := K)) (pe_tupF (pa_cons pe_int pa_nil)) (pe_op op_add (pv 0) pe_int)))), ?_⟩)
  · obtain ⟨n, rfl, _⟩ := h
    rfl
  · obtain ⟨n, rfl, hn, k⟩ := h
    refine ⟨by show 1 ≤ sizeLine; decide, fun p o hp ho => ⟨_, rfl, _, _, rfl, rfl, rep_one (by omega) (by omega) ?_ p o hp ho⟩⟩
    rw [show ((n : Int) + 1).toNat = n + 1 by omega]
    rw [List.map_replicate] at k
    exact k
theorem ok_times_row (F : FnP K "times_row" s_times_row f fd) (Z : Zs mg) : FnOk P w K mg base CX0 1 f fd ["one", "other"] (spTimesT K) := by
  refine F.ok sc_times_row (fun vs H Q E h => ?_) (fun cdv A outer s H vs Q E hr h => ⟨_, PSs.nox (pss_cons (ps_set (i := 2) sc_times_row.nd rfl (by first | exact Or.inl rfl | exact Or.inr rfl) (pe_op op_rep (pe_lst (pa_cons pe_int pa_nil)) (pe_op op_sub (pe_op op_add (pe_callB (kc_len (K := K)) (by rfl) Z.len PySem.boot_len (pa_cons (pv 0) pa_nil)) (pe_callB (kc_len (K := K)) (by rfl) Z.len PySem.boot_len (pa_cons (pv 1) pa_nil))) pe_int)))
  (pss_cons (ps_for PassesOwn.never rfl (pi_enumB (by rfl) Z.enumerate (pa_cons (pv 0) pa_nil)) (pg_tup rfl (pgs_cons (pg_name (i := 3) sc_times_row.nd rfl (by first | exact Or.inl rfl | exact Or.inr rfl)) (pgs_cons (pg_name (i := 4) sc_times_row.nd rfl (by first | exact Or.inl rfl | exact Or.inr rfl)) pgs_nil))) (pss_one (ps_if (pt_cmpR op_ne (pv 4) pe_int (nomark _)) (pss_one (ps_for PassesOwn.never rfl (pi_enumB (by rfl) Z.enumerate (pa_cons (pv 1) pa_nil)) (pg_tup rfl (pgs_cons (pg_name (i := 5) sc_times_row.nd rfl (by first | exact Or.inl rfl | exact Or.inr rfl)) (pgs_cons (pg_name (i := 6) sc_times_row.nd rfl (by first | exact Or.inl rfl | exact Or.inr rfl)) pgs_nil))) (pss_one (ps_augS (pv 2) (pe_op op_add (pv 3) (pv 5)) (kget_list (K := K)) (pe_op op_mul (pv 4) (pv 6)) ip_add set_list)))) pss_nil)))
  (pss_one (ps_ret (pe_callTy (kc_tuple (K := K)) (by rfl) Z.tuple (by decide +kernel) (pa_cons (pv 2) pa_nil)))))), ?_⟩)
  · obtain ⟨p, r, xs, ys, rfl, _⟩ := h
    rfl
  · obtain ⟨p, r, xs, ys, rfl, hp, hr', x0, x1, y0, y1, sm, k⟩ := h
    refine ⟨by decide, fun z hz => ?_⟩
    have ez := Ex.new (o := .lst [V.int 0]) hz
    refine ⟨_, rfl, p, _, rfl, .inr (hp.ex ez).sq, _, rfl, r, _, rfl, .inr (hr'.ex ez).sq, _, _, rfl, rfl, _, _, rfl, rfl, ?_⟩
    rw [List.length_map, List.length_map]
    have ln : ((xs.length : Int) + (ys.length : Int)) - 1 = ((xs.length + ys.length - 1 : Nat) : Int) := by omega
    show rRep (.ref z) (.int (((xs.length : Int) + (ys.length : Int)) - 1)) _ _
    rw [ln]
    refine rep_lst upd_same (by omega) fun L hL => ?_
    have HL : H L = none := fresh_back ez hL
    have e1 := ez.trans (Ex.new (o := .lst (List.replicate (xs.length + ys.length - 1) (V.int 0))) hL)
    have h1 : upd (upd H z (.lst [V.int 0])) L (.lst (List.replicate (xs.length + ys.length - 1) (V.int 0))) L = some (.lst ((mulUp xs ys 0).map V.int)) := by
      rw [upd_same]
      show _ = some (HO.lst ((List.replicate (xs.length + ys.length - 1) (0 : Int)).map V.int))
      rw [List.map_replicate]
    generalize upd (upd H z (.lst [V.int 0])) L (.lst (List.replicate (xs.length + ys.length - 1) (V.int 0))) = H1 at e1 h1 ⊢
    refine ⟨_, rfl, p, true, _, rfl, sqb_t (hp.ex e1), for_it walk_enumB (fun i σ H' => Ex H H' ∧ H' L = some (.lst ((mulUp xs ys i).map V.int)) ∧ ∃ v1 v2 v3 v4, σ = [some (.ref p), some (.ref r), some (.ref L), v1, v2, v3, v4]) ⟨e1, h1, none, none, none, none, rfl⟩ (fun i σ H' _ h => sqb_t (hp.ex h.1)) (fun i x σ H' H'' hi h y => ?_) (fun σ H' h => ?_)⟩
    · obtain ⟨ex, hL', v1, v2, v3, v4, rfl⟩ := h
      obtain ⟨T, x1, rfl, nT, rfl, g⟩ := y
      obtain ⟨rfl, hi'⟩ := int_at g
      have eT := Ex.new (o := .tup [.int (i : Nat), .int (xs.getD i 0)]) nT
      have ex2 := ex.trans eT
      have hL2 := eT _ _ hL'
      refine ⟨T, _, rfl, .inl (.inl upd_same), rfl, _, _, rfl, _, _, rfl, rfl, ?_⟩
      generalize upd H' T (.tup [.int (i : Nat), .int (xs.getD i 0)]) = H2 at ex2 hL2 ⊢
      have ul := mulUp_len xs ys i
      refine ⟨_, rfl, rfl, _, rfl, ?_⟩
      rw [dec_int]
      by_cases c : xs.getD i 0 = 0
      · rw [c]
        refine iteF ⟨ex2, ?_, _, _, _, _, rfl⟩
        show _ = some (HO.lst ((mulIn xs ys (mulUp xs ys i) i ys.length).map V.int))
        rw [mulIn_zero xs ys _ i c]
        exact hL2
      · rw [beq_eq_false_iff_ne.mpr c]
        refine iteT ⟨_, rfl, r, true, _, rfl, sqb_t (hr'.ex ex2), for_it walk_enumB (fun j σ H' => Ex H H' ∧ H' L = some (.lst ((mulIn xs ys (mulUp xs ys i) i j).map V.int)) ∧ ∃ v3 v4, σ = [some (.ref p), some (.ref r), some (.ref L), some (.int (i : Int)), some (.int (xs.getD i 0)), v3, v4]) ⟨ex2, hL2, v3, v4, rfl⟩ (fun j σ H' _ h => sqb_t (hr'.ex h.1)) (fun j x σ H' H'' hj h y => ?_) (fun σ H' h => ?_)⟩
        · obtain ⟨ex4, hL4, w3, w4, rfl⟩ := h
          obtain ⟨T, x1, rfl, nT, rfl, g⟩ := y
          obtain ⟨rfl, hj'⟩ := int_at g
          have eT := Ex.new (o := .tup [.int (j : Nat), .int (ys.getD j 0)]) nT
          have ex5 := ex4.trans eT
          have hL5 := eT _ _ hL4
          have small := sm.at j
          refine ⟨T, _, rfl, .inl (.inl upd_same), rfl, _, _, rfl, _, _, rfl, rfl, ?_⟩
          generalize upd H' T (.tup [.int (j : Nat), .int (ys.getD j 0)]) = H5 at hL5 ex5 ⊢
          have ja : i + j < (mulIn xs ys (mulUp xs ys i) i j).length := by rw [mulIn_len]; omega
          have ia : atI ((mulIn xs ys (mulUp xs ys i) i j).map V.int) ((i : Int) + (j : Int)) = some (.int ((mulIn xs ys (mulUp xs ys i) i j).getD (i + j) 0)) := by
            rw [show (i : Int) + (j : Int) = ((i + j : Nat) : Int) by omega]
            exact atI_int ja
          have ib : ixN ((mulIn xs ys (mulUp xs ys i) i j).map V.int).length ((i : Int) + (j : Int)) = some (i + j) := by
            rw [show (i : Int) + (j : Int) = ((i + j : Nat) : Int) by omega]
            exact ixN_nat (by rw [List.length_map]; exact ja)
          refine ⟨_, rfl, _, rfl, _, rfl, _, _, rfl, rfl, L, _, _, _, rfl, rfl, sq_of hL5, ia, _, rfl, _, rfl, _, _, rfl, rfl, .inr ⟨by omega, by omega⟩, _, _, rfl, rfl, L, _, _, _, rfl, rfl, hL5, ib, ?_⟩
          rw [int_set]
          exact ⟨ex_side ex5 HL, upd_same, _, _, rfl⟩
        · obtain ⟨ex4, hL4, w3, w4, rfl⟩ := h
          rw [List.length_map] at hL4
          exact ⟨ex4, hL4, _, _, _, _, rfl⟩
    · obtain ⟨ex, hL', v1, v2, v3, v4, rfl⟩ := h
      rw [List.length_map] at hL'
      exact ⟨_, rfl, L, _, rfl, .inl ⟨sq_of hL', k.new ex⟩⟩
theorem ok_power_row (F : FnP K "power_row" s_power_row f fd) (Z : Zs mg) (G_times_row : Fn P w K mg base CX0 1 "times_row" s_times_row ["one", "other"] (spTimesT K)) : FnOk P w K mg base CX0 2 f fd ["row", "many"] (spPowerRow K) := by
  refine F.ok sc_power_row (fun vs H Q E h => ?_) (fun cdv A outer s H vs Q E hr h => ⟨_, PSs.nox (pss_cons (ps_set (i := 2) sc_power_row.nd rfl (by first | exact Or.inl rfl | exact Or.inr rfl) (pe_tupF (pa_cons pe_int pa_nil)))
  (pss_cons (ps_for PassesOwn.never rfl (pi_range1 (by rfl) Z.range (pa_cons (pv 1) pa_nil)) (pg_name (i := 3) sc_power_row.nd rfl (by first | exact Or.inl rfl | exact Or.inr rfl)) (pss_one (ps_set (i := 2) sc_power_row.nd rfl (by first | exact Or.inl rfl | exact Or.inr rfl) (pe_callF G_times_row (hr.mono (by decide)) rfl pass0 (pa_cons (pv 2) (pa_cons (pv 0) pa_nil))))))
  (pss_one (ps_ret (pv 2))))), ?_⟩)
  · obtain ⟨p, xs, m, rfl, _⟩ := h
    rfl
  · obtain ⟨p, xs, m, rfl, hp, x0, x1, sm, hm, k⟩ := h
    refine ⟨by show 1 ≤ sizeLine; decide, fun z o hz ho => ?_⟩
    have ez := Ex.new (o := .frz o (.tup [V.int 1])) hz
    refine ⟨_, rfl, (m : Int), rfl, by omega, by omega, ?_⟩
    rw [show ((m : Nat) : Int).toNat = m by omega]
    refine for_range (lo := 0) (n := m) (fun i σ H' => Ex H H' ∧ ∃ c v, Tp K H' c ((powL xs i).map V.int) ∧ σ = [some (.ref p), some (.int (m : Int)), some (.ref c), v]) ⟨ez, z, none, Tp.of ho upd_same, rfl⟩ (fun i σ H' hi y => ?_) (fun σ H' y => ?_)
    · obtain ⟨ex, c, v, hc, rfl⟩ := y
      have pl := powL_len xs x0 i
      have : i * (xs.length - 1) ≤ 30 * 29 := Nat.mul_le_mul (by omega) (by omega)
      refine ⟨_, rfl, _, rfl, c, p, powL xs i, xs, rfl, hc, hp.ex ex, by omega, by omega, by omega, by omega, sm, fun d H2 e2 hd => ⟨ex.trans e2, d, _, hd, rfl⟩⟩
    · obtain ⟨ex, c, v, hc, rfl⟩ := y
      exact ⟨_, rfl, k c H' ex hc⟩
theorem ok_with_times (F : FnP K "with_times" s_with_times f fd) (Z : Zs mg) : FnOk P w K mg base CX0 1 f fd ["row", "number", "other"] (spWith K) := by
  refine F.ok sc_with_times (fun vs H Q E h => ?_) (fun cdv A outer s H vs Q E hr h => ⟨_, PSs.nox (pss_one (ps_ret (pe_callTy (kc_tuple (K := K)) (by rfl) Z.tuple (by decide +kernel) (pa_cons (pe_lc (own := [("here", 3), ("there", 4)]) (g := (gTup K 2 (gCons (gName 3) (gCons (gName 4) gNil)))) rfl sc_with_times.nd (pi_zipB (by rfl) Z.zip (pa_cons (pv 0) (pa_cons (pv 2) pa_nil))) (blkOk_by (own := [("here", 3), ("there", 4)]) (N := ["row", "number", "other", "here", "there"]) (sc := defScope s_with_times) (by decide +kernel)) (fun _ _ _ _ _ => (pg_tup rfl (pgs_cons (pg_name (i := 3) sc_with_times.nd rfl (Or.inl rfl)) (pgs_cons (pg_name (i := 4) sc_with_times.nd rfl (Or.inl rfl)) pgs_nil)))) (fun _ _ _ _ _ => pts_nil) (fun _ _ _ _ _ => (pe_op op_add (pv 3) (pe_op op_mul (pv 1) (pv 4))))) pa_nil)))), ?_⟩)
  · obtain ⟨p, r, xs, ys, c, rfl, _⟩ := h
    rfl
  · obtain ⟨p, r, xs, ys, c, rfl, hp, hr', hl, few, sm, k⟩ := h
    refine ⟨_, rfl, _, rfl, p, r, true, true, _, _, rfl, sqb_t hp, sqb_t hr', lcP (walk_zipB (n := xs.length) (by rw [List.length_map, List.length_map]; omega)) (fun H' e => ⟨sqb_t (hp.ex e), sqb_t (hr'.ex e)⟩) (by omega) (fun _ => true) (fun i => V.int (xs.getD i 0 + c * ys.getD i 0)) (fun i H1 x H2 hi e y K1 K0 k1 k0 => ?_) (fun d H2 hd e2 h2 => ?_)⟩
    · obtain ⟨T, x1, y1, rfl, nT, rfl, g1, g2⟩ := y
      obtain ⟨rfl, _⟩ := int_at g1
      obtain ⟨rfl, _⟩ := int_at g2
      have small := sm.at i
      exact ⟨T, _, rfl, .inl (.inl upd_same), rfl, _, _, rfl, _, _, rfl, rfl, rfl, yes_go ⟨_, rfl, _, rfl, _, rfl, _, _, rfl, rfl, .inr ⟨by omega, by omega⟩, _, _, rfl, rfl, k1 rfl _ (Ex.new nT)⟩⟩
    · rw [given_all] at h2
      have : (List.range xs.length).map (fun i => V.int (xs.getD i 0 + c * ys.getD i 0)) = (adl xs c ys).map V.int := by
        unfold adl
        rw [List.map_map]
        rfl
      rw [this] at h2
      exact ⟨d, _, rfl, .inl ⟨sq_of h2, k.new e2⟩⟩
theorem ok_is_nought_row (F : FnP K "is_nought_row" s_is_nought_row f fd) (Z : Zs mg) : FnOk P w K mg base CX0 1 f fd ["row"] (spIsNought K) := by
  refine F.ok sc_is_nought_row (fun vs H Q E h => ?_) (fun cdv A outer s H vs Q E hr h => ⟨_, PSs.nox (pss_one (ps_ret (pe_cmpR (ko_eq (K := K) hr.units) (pv 0) (pe_op (ko_rep (K := K)) (pe_tupF (pa_cons pe_int pa_nil)) (pe_callB (kc_len (K := K)) (by rfl) Z.len PySem.boot_len (pa_cons (pv 0) pa_nil))) (nomark _)))), ?_⟩)
  · obtain ⟨p, xs, rfl, _⟩ := h
    rfl
  · obtain ⟨p, xs, rfl, hp, few, k⟩ := h
    refine ⟨_, rfl, by show 1 ≤ sizeLine; decide, fun z o hz ho => ⟨_, rfl, p, _, rfl, .inr (hp.ex (Ex.new hz)).sq, ?_⟩⟩
    rw [List.length_map]
    refine rep_one (by omega) (by omega) (fun t H2 e2 ht => ?_) z o hz ho
    rw [show ((xs.length : Nat) : Int).toNat = xs.length by omega, ← List.map_replicate] at ht
    refine ⟨.tuple (xs.map PyData.int), .tuple ((List.replicate xs.length (0 : Int)).map PyData.int), .tup (hp.ex e2).sq (dp_ints _), .tup ht.sq (dp_ints _), sh_tup_ints _, sh_tup_ints _, ?_⟩
    have e : PyData.eqv (.tuple (xs.map PyData.int)) (.tuple ((List.replicate xs.length (0 : Int)).map PyData.int)) = decide (xs = List.replicate xs.length 0) := by
      rw [PyData.eqv]
      exact PySem.W.ked_eqvAll _ _
    rw [e]
    exact k _ e2
end
end K60

namespace K60
open PySem PySem.Spec PyProof.Rows L2 Evl Own
def spHas : Sp := fun vs H Q _ => ∃ (s : Srt) (n : Nat), vs = [.str s.s, .int (n : Int)] ∧ Q (.bl (decide (n % s.small = 0))) H
def spTop : Sp := fun vs H Q _ => ∃ (s : Srt) (n : Nat), vs = [.str s.s, .int (n : Int)] ∧ Q (.int ((cnt s n : Int) - 1)) H
def spRow (K : PySem.W.Frag) : Sp := fun vs H Q _ => ∃ (s : Srt) (n j : Nat), vs = [.str s.s, .int (n : Int), .int (j : Int)] ∧ n ≤ 24 ∧ j < cnt s n ∧ RetU K ((toldR s n j).map V.int) H Q
def rowsR (s : Srt) (n k : Nat) : List (List Int) := (List.range k).map (toldR s n)
def spRows (K : PySem.W.Frag) : Sp := fun vs H Q _ => ∃ (s : Srt) (n : Nat), vs = [.str s.s, .int (n : Int)] ∧ n ≤ 24 ∧ ∀ (t : Addr) (es : List Addr) (H2 : Hp), H t = none → Ex H H2 → H2 t = some (.lst (es.map V.ref)) → LstG iL K H2 es (rowsR s n (cnt s n)) → Q (.ref t) H2
def madeF (s : Srt) (n : Nat) (ns : List Int) : Nat → List Int
  | 0 => List.replicate (n + 1) 0
  | k + 1 => adl (madeF s n ns k) (ns.getD k 0) (toldR s n k)
theorem madeF_len (s : Srt) (n : Nat) (ns : List Int) : ∀ k, (madeF s n ns k).length = n + 1
  | 0 => List.length_replicate ..
  | k + 1 => by
    show (adl _ _ _).length = _
    rw [adl_len, madeF_len s n ns k]
/-- what is left, the numbers so far -/
def numF (s : Srt) (n : Nat) (xs : List Int) : Nat → List Int × List Int
  | 0 => (xs, [])
  | k + 1 => (adl (numF s n xs k).1 (-((numF s n xs k).1.getD (k * s.step) 0)) (toldR s n k), (numF s n xs k).2 ++ [(numF s n xs k).1.getD (k * s.step) 0])
theorem numF_len (s : Srt) (n : Nat) (xs : List Int) : ∀ k, (numF s n xs k).1.length = xs.length ∧ (numF s n xs k).2.length = k
  | 0 => ⟨rfl, rfl⟩
  | k + 1 => by
    have := numF_len s n xs k
    refine ⟨?_, ?_⟩
    · show (adl _ _ _).length = _
      rw [adl_len, this.1]
    · show (_ ++ [_]).length = _
      rw [List.length_append, this.2]
      rfl
def spMade (K : PySem.W.Frag) : Sp := fun vs H Q _ => ∃ (s : Srt) (n : Nat) (p : Addr) (ns : List Int), vs = [.str s.s, .int (n : Int), .ref p] ∧ n ≤ 24 ∧ Tp K H p (ns.map V.int) ∧ ns.length = cnt s n ∧ RetU K ((madeF s n ns (cnt s n)).map V.int) H Q
def spNumbers (K : PySem.W.Frag) : Sp := fun vs H Q _ => ∃ (s : Srt) (n : Nat) (p : Addr) (xs : List Int), vs = [.str s.s, .int (n : Int), .ref p] ∧ n ≤ 24 ∧ Tp K H p (xs.map V.int) ∧ xs.length = n + 1 ∧
  ((numF s n xs (cnt s n)).1 = List.replicate (n + 1) 0 → RetU K ((numF s n xs (cnt s n)).2.map V.int) H Q) ∧ ((numF s n xs (cnt s n)).1 ≠ List.replicate (n + 1) 0 → ∀ H', Ex H H' → Q .non H')
theorem small_pow (s : Srt) : ∀ k, k ≤ 12 → smallL (powL s.first k) := by
  have : (List.range 13).all (fun k => ((powL Srt.two.first k).all fun y => decide (y.natAbs < 2 ^ 64)) && ((powL Srt.twice.first k).all fun y => decide (y.natAbs < 2 ^ 64)) && ((powL Srt.three.first k).all fun y => decide (y.natAbs < 2 ^ 64))) = true := by decide +kernel
  intro k hk y hy
  have h1 := List.all_eq_true.mp this k (List.mem_range.mpr (by omega))
  simp only [Bool.and_eq_true] at h1
  cases s
  · exact of_decide_eq_true (List.all_eq_true.mp h1.1.1 y hy)
  · exact of_decide_eq_true (List.all_eq_true.mp h1.1.2 y hy)
  · exact of_decide_eq_true (List.all_eq_true.mp h1.2 y hy)
/-- the finite looks at all told rows -/
def chkR (f : Srt → Nat → Nat → Bool) : Bool := [Srt.two, .twice, .three].all fun s => (List.range 25).all fun n => (List.range (cnt s n)).all fun j => f s n j
theorem chkR_ok {f : Srt → Nat → Nat → Bool} (h : chkR f = true) {s : Srt} {n j : Nat} (hn : n ≤ 24) (hj : j < cnt s n) : f s n j = true := by
  unfold chkR at h
  have h1 := List.all_eq_true.mp h s (by cases s <;> simp)
  have h2 := List.all_eq_true.mp h1 n (List.mem_range.mpr (by omega))
  exact List.all_eq_true.mp h2 j (List.mem_range.mpr hj)
theorem toldR_small {s : Srt} {n j : Nat} (hn : n ≤ 24) (hj : j < cnt s n) : smallL (toldR s n j) := by
  have : chkR (fun s n j => (toldR s n j).all fun y => decide (y.natAbs < 2 ^ 64)) = true := by decide +kernel
  intro y hy
  exact of_decide_eq_true (List.all_eq_true.mp (chkR_ok this hn hj) y hy)
theorem rowsR_at {s : Srt} {n k i : Nat} {x : List Int} (h : (rowsR s n k)[i]? = some x) : x = toldR s n i ∧ i < k := by
  unfold rowsR at h
  rw [List.getElem?_map] at h
  by_cases c : i < k
  · rw [List.getElem?_range c] at h
    exact ⟨(Option.some.inj h).symm, c⟩
  · rw [List.getElem?_eq_none (by rw [List.length_range]; omega)] at h
    cases h
section
variable {P : Program} {w : World} {K : PySem.W.Frag} {mg : Str → Option Value} {base : Heap} {f : Addr} {fd : FuncData}
theorem ok_has_length (F : FnP K "has_length" s_has_length f fd) (Z : Zs mg) (C : Cs K w mg) : FnOk P w K mg base CX0 1 f fd ["sort", "length"] spHas := by
  refine F.ok sc_has_length (fun vs H Q E h => ?_) (fun cdv A outer s H vs Q E hr h => ⟨_, PSs.nox (pss_one (ps_ret (pe_cmpR op_eq (pe_op op_mod (pv 1) (pe_ix (kx_tup (K := K)) (pe_kd C.LENGTHS rfl (pv 0) (fun _ _ => rfl)) pe_int (fun _ _ => rfl))) pe_int (nomark _)))), ?_⟩)
  · obtain ⟨s, n, rfl, _⟩ := h
    rfl
  · obtain ⟨s, n, rfl, k⟩ := h
    have sp := s.small_pos
    refine ⟨_, rfl, _, rfl, s.s, _, rfl, s.inLENGTHS, fun v iv => ?_⟩
    obtain ⟨p, rfl, hp⟩ := IsDat.ints (ns := [(s.small : Int), (s.great : Int)]) iv
    refine ⟨p, _, 0, _, rfl, rfl, (hp _).sq, rfl, _, _, rfl, rfl, by omega, rfl, ?_⟩
    rw [dec_int]
    have e : (((n : Int) % (s.small : Int)) == 0) = decide (n % s.small = 0) := by
      by_cases c : n % s.small = 0
      · rw [decide_eq_true c, beq_iff_eq]
        omega
      · rw [decide_eq_false c, beq_eq_false_iff_ne]
        omega
    rw [e]
    exact k
theorem ok_told_top (F : FnP K "told_top" s_told_top f fd) (Z : Zs mg) (C : Cs K w mg) (G_has_length : Fn P w K mg base CX0 1 "has_length" s_has_length ["sort", "length"] spHas) : FnOk P w K mg base CX0 2 f fd ["sort", "length"] spTop := by
  refine F.ok sc_told_top (fun vs H Q E h => ?_) (fun cdv A outer s H vs Q E hr h => ⟨_, PSs.nox (pss_cons (ps_if (pt_not (pt_val (pe_callF G_has_length (hr.mono (by decide)) rfl pass0 (pa_cons (pv 0) (pa_cons (pv 1) pa_nil))))) (pss_one (ps_ret (pe_un un_neg pe_int))) pss_nil)
  (pss_one (ps_ret (pe_op op_fdivW (pv 1) (pe_ix (kx_tup (K := K)) (pe_kd C.LENGTHS rfl (pv 0) (fun _ _ => rfl)) pe_int (fun _ _ => rfl)))))), ?_⟩)
  · obtain ⟨s, n, rfl, _⟩ := h
    rfl
  · obtain ⟨s, n, rfl, k⟩ := h
    have sp := s.great_pos
    have sl := s.small_le
    refine ⟨_, rfl, _, rfl, s, n, rfl, _, rfl, ?_⟩
    by_cases c : n % s.small = 0
    · rw [decide_eq_true c]
      refine iteF ⟨_, rfl, _, rfl, s.s, _, rfl, s.inLENGTHS, fun v iv => ?_⟩
      obtain ⟨p, rfl, hp⟩ := IsDat.ints (ns := [(s.small : Int), (s.great : Int)]) iv
      refine ⟨p, _, 1, _, rfl, rfl, (hp _).sq, rfl, _, _, rfl, rfl, ⟨by omega, ?_⟩, ?_⟩
      · have := Nat.log2_le_self (s.great)
        show (s.great : Nat).log2 < 9000
        omega
      · unfold cnt at k
        rw [if_pos c] at k
        have e : ((n / s.great + 1 : Nat) : Int) - 1 = (n : Int) / (s.great : Int) := by
          rw [show ((n / s.great + 1 : Nat) : Int) = ((n / s.great : Nat) : Int) + 1 by omega, Int.natCast_ediv]
          omega
        rw [e] at k
        exact k
    · rw [decide_eq_false c]
      unfold cnt at k
      rw [if_neg c] at k
      exact iteT ⟨_, rfl, k⟩
theorem ok_told_row (F : FnP K "told_row" s_told_row f fd) (Z : Zs mg) (C : Cs K w mg) (G_times_row : Fn P w K mg base CX0 1 "times_row" s_times_row ["one", "other"] (spTimesT K)) (G_power_row : Fn P w K mg base CX0 2 "power_row" s_power_row ["row", "many"] (spPowerRow K)) : FnOk P w K mg base CX0 3 f fd ["sort", "length", "j"] (spRow K) := by
  refine F.ok sc_told_row (fun vs H Q E h => ?_) (fun cdv A outer s H vs Q E hr h => ⟨_, PSs.nox (pss_cons (ps_asg (pe_kd C.LENGTHS rfl (pv 0) (fun _ _ => rfl)) (pg_tup rfl (pgs_cons (pg_name (i := 3) sc_told_row.nd rfl (by first | exact Or.inl rfl | exact Or.inr rfl)) (pgs_cons (pg_name (i := 4) sc_told_row.nd rfl (by first | exact Or.inl rfl | exact Or.inr rfl)) pgs_nil))))
  (pss_cons (ps_set (i := 5) sc_told_row.nd rfl (by first | exact Or.inl rfl | exact Or.inr rfl) (pe_op op_fdivW (pe_op op_sub (pv 1) (pe_op op_mul (pv 2) (pv 4))) (pv 3)))
  (pss_one (ps_ret (pe_callF G_times_row (hr.mono (by decide)) rfl pass0 (pa_cons (pe_callF G_power_row (hr.mono (by decide)) rfl pass0 (pa_cons (pe_kd C.SECOND rfl (pv 0) (fun _ _ => rfl)) (pa_cons (pv 2) pa_nil))) (pa_cons (pe_callF G_power_row (hr.mono (by decide)) rfl pass0 (pa_cons (pe_kd C.FIRST rfl (pv 0) (fun _ _ => rfl)) (pa_cons (pv 5) pa_nil))) pa_nil))))))), ?_⟩)
  · obtain ⟨s, n, j, rfl, _⟩ := h
    rfl
  · obtain ⟨s, n, j, rfl, hn, hj, k⟩ := h
    obtain ⟨c, jg⟩ := cnt_ok hj
    have cl := cnt_le s n hn
    have sp := s.small_pos
    have sl := s.small_le
    have ln := s.lens
    refine ⟨_, rfl, s.s, _, rfl, s.inLENGTHS, fun v iv => ?_⟩
    obtain ⟨p, rfl, hp⟩ := IsDat.ints (ns := [(s.small : Int), (s.great : Int)]) iv
    refine ⟨p, _, rfl, (hp _).sq, rfl, _, _, rfl, _, _, rfl, rfl, ?_⟩
    refine ⟨_, rfl, _, rfl, _, rfl, _, _, rfl, rfl, .inl ⟨by omega, by omega⟩, _, _, rfl, rfl, _, rfl, _, _, rfl, rfl, ⟨by omega, ?_⟩, ?_⟩
    · have := Nat.log2_le_self (s.small)
      show (s.small : Nat).log2 < 9000
      omega
    have em : ((n : Int) - (j : Int) * (s.great : Int)) / (s.small : Int) = (((n - j * s.great) / s.small : Nat) : Int) := by
      rw [Int.natCast_ediv, Int.natCast_sub jg, Int.natCast_mul]
    show gName 5 (V.int (((n : Int) - (j : Int) * (s.great : Int)) / (s.small : Int))) _ _ _
    rw [em]
    have m12 : (n - j * s.great) / s.small ≤ 12 := by
      have h1 : (n - j * s.great) / s.small ≤ 24 / s.small := Nat.div_le_div_right (by omega)
      have h2 : 24 / s.small ≤ 12 := by cases s <;> decide
      omega
    refine ⟨_, rfl, s.s, _, rfl, s.inSECOND, fun v2 iv2 => ?_⟩
    obtain ⟨p2, rfl, hp2⟩ := IsDat.ints (ns := s.second) iv2
    refine ⟨_, rfl, p2, s.second, j, rfl, hp2 _, by omega, by omega, by cases s <;> (unfold smallL; decide), by omega, fun a H1 e1 ha => ?_⟩
    refine ⟨_, rfl, s.s, _, rfl, s.inFIRST, fun v3 iv3 => ?_⟩
    obtain ⟨p3, rfl, hp3⟩ := IsDat.ints (ns := s.first) iv3
    refine ⟨_, rfl, p3, s.first, _, rfl, hp3 _, by omega, by omega, by cases s <;> (unfold smallL; decide), by omega, fun b H2 e2 hb => ?_⟩
    have l1 := powL_len s.second (by omega) j
    have l2 := powL_len s.first (by omega) ((n - j * s.great) / s.small)
    rw [ln.2] at l1
    rw [ln.1] at l2
    have b1 : j * (s.great + 1 - 1) ≤ 4 * 24 := Nat.mul_le_mul (by omega) (by omega)
    have b2 : (n - j * s.great) / s.small * (s.small + 1 - 1) ≤ 12 * 8 := Nat.mul_le_mul m12 (by omega)
    exact ⟨a, b, _, _, rfl, ha.ex e2, hb, by omega, by omega, by omega, by omega, small_pow s _ m12, fun d H3 e3 hd => k d H3 (e1.trans (e2.trans e3)) hd⟩
theorem ok_told_rows (F : FnP K "told_rows" s_told_rows f fd) (Z : Zs mg) (G_told_top : Fn P w K mg base CX0 2 "told_top" s_told_top ["sort", "length"] spTop) (G_told_row : Fn P w K mg base CX0 3 "told_row" s_told_row ["sort", "length", "j"] (spRow K)) : FnOk P w K mg base CX0 4 f fd ["sort", "length"] (spRows K) := by
  refine F.ok sc_told_rows (fun vs H Q E h => ?_) (fun cdv A outer s H vs Q E hr h => ⟨_, PSs.nox (pss_one (ps_ret (pe_lc (own := [("j", 2)]) (g := (gName 2)) rfl sc_told_rows.nd (pi_range1 (by rfl) Z.range (pa_cons (pe_op op_add (pe_callF G_told_top (hr.mono (by decide)) rfl pass0 (pa_cons (pv 0) (pa_cons (pv 1) pa_nil))) pe_int) pa_nil)) (blkOk_by (own := [("j", 2)]) (N := ["sort", "length", "j"]) (sc := defScope s_told_rows) (by decide +kernel)) (fun _ _ _ _ _ => (pg_name (i := 2) sc_told_rows.nd rfl (Or.inl rfl))) (fun _ _ _ _ _ => pts_nil) (fun _ _ _ _ _ => (pe_callF G_told_row (hr.mono (by decide)) rfl pass0 (pa_cons (pv 0) (pa_cons (pv 1) (pa_cons (pv 2) pa_nil)))))))), ?_⟩)
  · obtain ⟨s, n, rfl, _⟩ := h
    rfl
  · obtain ⟨s, n, rfl, hn, k⟩ := h
    have cl := cnt_le s n hn
    refine ⟨_, rfl, _, rfl, s, n, rfl, _, _, rfl, rfl, (cnt s n : Int), by simp, by omega, by omega, ?_⟩
    rw [show ((cnt s n : Nat) : Int).toNat = cnt s n by omega]
    refine lcX (fun i acc H' => ∃ es, acc = es.map V.ref ∧ LstG iL K H' es (rowsR s n i) ∧ i ≤ cnt s n) (walk_range (lo := 0)) (fun D _ => ⟨[], rfl, LstG.nil, by omega⟩) (fun _ _ => trivial) (fun i acc H' st => ?_)
      (fun i D acc H2 x H3 hi ex hD hacc st y K1 K0 k1 k0 => ?_) (fun D acc H2 hD ex hacc st => ?_)
    · obtain ⟨es, rfl, l, hi⟩ := st
      rw [List.length_map, l.len]
      unfold rowsR
      rw [List.length_map, List.length_range]
      omega
    · obtain ⟨rfl, rfl⟩ := y
      obtain ⟨es, rfl, l, _⟩ := st
      have e0 : (0 : Int) + (i : Int) = (i : Int) := by omega
      show gName _ (V.int ((0 : Int) + (i : Int))) _ _ _
      rw [e0]
      refine ⟨rfl, yes_go ⟨_, rfl, _, rfl, _, rfl, s, n, i, rfl, hn, hi, fun e H5 e5 he => ?_⟩⟩
      refine k1 _ H5 e5 ⟨es ++ [e], by rw [List.map_append]; rfl, ?_, by omega⟩
      have tk : rowsR s n (i + 1) = rowsR s n i ++ [toldR s n i] := by
        unfold rowsR
        rw [List.range_succ, List.map_append]
        rfl
      rw [tk]
      exact ((l.ex e5).push (f := iL) he).mut (e5 _ _ hacc)
    · obtain ⟨es, rfl, l, _⟩ := st
      exact k D es H2 hD ex hacc l
theorem ok_made_of_told (F : FnP K "made_of_told" s_made_of_told f fd) (Z : Zs mg) (G_nought_counts : Fn P w K mg base CX0 1 "nought_counts" s_nought_counts ["length"] (spNought K)) (G_told_rows : Fn P w K mg base CX0 4 "told_rows" s_told_rows ["sort", "length"] (spRows K)) (G_with_times : Fn P w K mg base CX0 1 "with_times" s_with_times ["row", "number", "other"] (spWith K)) : FnOk P w K mg base CX0 5 f fd ["sort", "length", "numbers"] (spMade K) := by
  refine F.ok sc_made_of_told (fun vs H Q E h => ?_) (fun cdv A outer s H vs Q E hr h => ⟨_, PSs.nox (pss_cons (ps_set (i := 3) sc_made_of_told.nd rfl (by first | exact Or.inl rfl | exact Or.inr rfl) (pe_callF G_nought_counts (hr.mono (by decide)) rfl pass0 (pa_cons (pv 1) pa_nil)))
  (pss_cons (ps_for PassesOwn.never rfl (pi_zipB (by rfl) Z.zip (pa_cons (pv 2) (pa_cons (pe_callF G_told_rows (hr.mono (by decide)) rfl pass0 (pa_cons (pv 0) (pa_cons (pv 1) pa_nil))) pa_nil))) (pg_tup rfl (pgs_cons (pg_name (i := 4) sc_made_of_told.nd rfl (by first | exact Or.inl rfl | exact Or.inr rfl)) (pgs_cons (pg_name (i := 5) sc_made_of_told.nd rfl (by first | exact Or.inl rfl | exact Or.inr rfl)) pgs_nil))) (pss_one (ps_set (i := 3) sc_made_of_told.nd rfl (by first | exact Or.inl rfl | exact Or.inr rfl) (pe_callF G_with_times (hr.mono (by decide)) rfl pass0 (pa_cons (pv 3) (pa_cons (pv 4) (pa_cons (pv 5) pa_nil)))))))
  (pss_one (ps_ret (pv 3))))), ?_⟩)
  · obtain ⟨s, n, p, ns, rfl, _⟩ := h
    rfl
  · obtain ⟨s, n, p, ns, rfl, hn, hp, hl, k⟩ := h
    refine ⟨_, rfl, n, rfl, by omega, fun c H1 e1 hc => ?_⟩
    refine ⟨_, rfl, _, rfl, _, rfl, s, n, rfl, hn, fun t es H2 ht e2 h2 lg => ?_⟩
    have rl : (rowsR s n (cnt s n)).length = cnt s n := by
      unfold rowsR
      rw [List.length_map, List.length_range]
    have e12 := e1.trans e2
    refine ⟨p, t, true, false, _, _, rfl, sqb_t (hp.ex e12), sqb_l h2, for_it (walk_zipB (n := cnt s n) (by rw [List.length_map, List.length_map, lg.len, hl, rl]; omega)) (fun i σ H' => Ex H2 H' ∧ ∃ c v4 v5, Tp K H' c ((madeF s n ns i).map V.int) ∧ σ = [some (.str s.s), some (.int (n : Int)), some (.ref p), some (.ref c), v4, v5]) ⟨Ex.refl _, c, none, none, hc.ex e2, rfl⟩ (fun i σ H' _ h => ⟨sqb_t (hp.ex (e12.trans h.1)), sqb_l (h.1 _ _ h2)⟩) (fun i x σ H' H'' hi h y => ?_) (fun σ H' h => ?_)⟩
    · obtain ⟨ex, c, v4, v5, hc, rfl⟩ := h
      obtain ⟨T, x1, y1, rfl, nT, rfl, g1, g2⟩ := y
      obtain ⟨rfl, _⟩ := int_at g1
      obtain ⟨e, x, rfl, he, hx, tx⟩ := (lg.ex (ex.trans (Ex.new (o := .tup [.int (ns.getD i 0), y1]) nT))).get g2
      obtain ⟨rfl, _⟩ := rowsR_at hx
      have eT := Ex.new (o := .tup [.int (ns.getD i 0), .ref e]) nT
      have ok := cnt_ok hi
      refine ⟨T, _, rfl, .inl (.inl upd_same), rfl, _, _, rfl, _, _, rfl, rfl, ?_⟩
      refine ⟨_, rfl, _, rfl, _, rfl, c, e, madeF s n ns i, toldR s n i, ns.getD i 0, rfl, hc.ex eT, tx, by rw [madeF_len, toldR_len s n i ok.1 ok.2], by rw [madeF_len]; omega, toldR_small hn hi, fun d H5 e5 hd => ⟨ex.trans (eT.trans e5), d, _, _, hd, rfl⟩⟩
    · obtain ⟨ex, c, v4, v5, hc, rfl⟩ := h
      exact ⟨_, rfl, k c H' (e12.trans ex) hc⟩
theorem ok_told_numbers (F : FnP K "told_numbers" s_told_numbers f fd) (Z : Zs mg) (C : Cs K w mg) (G_told_rows : Fn P w K mg base CX0 4 "told_rows" s_told_rows ["sort", "length"] (spRows K)) (G_with_times : Fn P w K mg base CX0 1 "with_times" s_with_times ["row", "number", "other"] (spWith K)) (G_is_nought_row : Fn P w K mg base CX0 1 "is_nought_row" s_is_nought_row ["row"] (spIsNought K)) : FnOk P w K mg base CX0 5 f fd ["sort", "length", "counts"] (spNumbers K) := by
  refine F.ok sc_told_numbers (fun vs H Q E h => ?_) (fun cdv A outer s H vs Q E hr h => ⟨_, PSs.nox (pss_cons (ps_par (i := 3) (j := 4) rfl sc_told_numbers.nd rfl rfl (by decide) rfl rfl (pa_cons (pv 2) (pa_cons (pe_lst pa_nil) pa_nil)) (by rfl))
  (pss_cons (ps_for PassesOwn.never rfl (pi_enumB (by rfl) Z.enumerate (pa_cons (pe_callF G_told_rows (hr.mono (by decide)) rfl pass0 (pa_cons (pv 0) (pa_cons (pv 1) pa_nil))) pa_nil)) (pg_tup rfl (pgs_cons (pg_name (i := 5) sc_told_numbers.nd rfl (by first | exact Or.inl rfl | exact Or.inr rfl)) (pgs_cons (pg_name (i := 6) sc_told_numbers.nd rfl (by first | exact Or.inl rfl | exact Or.inr rfl)) pgs_nil))) (pss_cons (ps_set (i := 7) sc_told_numbers.nd rfl (by first | exact Or.inl rfl | exact Or.inr rfl) (pe_ix (kx_tup (K := K)) (pv 3) (pe_op op_mul (pv 5) (pe_kd C.STEPS rfl (pv 0) (fun _ _ => rfl))) (fun _ _ => rfl)))
  (pss_cons (ps_expr (km_bm (K := K) PySem.F.plainAttrs_list PySem.F.slot_list_append PySem.F.type_list_append mt_append (pv 4) (pa_cons (pv 7) pa_nil)))
  (pss_one (ps_set (i := 3) sc_told_numbers.nd rfl (by first | exact Or.inl rfl | exact Or.inr rfl) (pe_callF G_with_times (hr.mono (by decide)) rfl pass0 (pa_cons (pv 3) (pa_cons (pe_un un_neg (pv 7)) (pa_cons (pv 6) pa_nil)))))))))
  (pss_one (ps_ret (pe_ifExp (pt_val (pe_callF G_is_nought_row (hr.mono (by decide)) rfl pass0 (pa_cons (pv 3) pa_nil))) (pe_callTy (kc_tuple (K := K)) (by rfl) Z.tuple (by decide +kernel) (pa_cons (pv 4) pa_nil)) pe_non))))), ?_⟩)
  · obtain ⟨s, n, p, xs, rfl, _⟩ := h
    rfl
  · obtain ⟨s, n, p, xs, rfl, hn, hp, hl, ky, kn⟩ := h
    have sp := s.step_pos
    refine ⟨_, rfl, by decide, fun L hL => ⟨_, _, rfl, ?_⟩⟩
    have eL := Ex.new (o := .lst []) hL
    have hL1 : upd H L (.lst []) L = some (.lst ((numF s n xs 0).2.map V.int)) := upd_same
    generalize upd H L (.lst []) = H1 at eL hL1 ⊢
    refine ⟨_, rfl, _, rfl, s, n, rfl, hn, fun t es H2 ht e2 h2 lg => ?_⟩
    have rl : (rowsR s n (cnt s n)).length = cnt s n := by
      unfold rowsR
      rw [List.length_map, List.length_range]
    have tL : t ≠ L := fun z => by
      rw [z, hL1] at ht
      cases ht
    have e12 := eL.trans e2
    refine ⟨t, false, _, rfl, sqb_l h2, for_it walk_enumB (fun i σ H' => Ex H H' ∧ H' t = some (.lst (es.map V.ref)) ∧ LstG iL K H' es (rowsR s n (cnt s n)) ∧ H' L = some (.lst ((numF s n xs i).2.map V.int)) ∧ ∃ c v5 v6 v7, Tp K H' c ((numF s n xs i).1.map V.int) ∧ σ = [some (.str s.s), some (.int (n : Int)), some (.ref p), some (.ref c), some (.ref L), v5, v6, v7]) ⟨e12, h2, lg, e2 _ _ hL1, p, none, none, none, hp.ex e12, rfl⟩ (fun i σ H' _ h => sqb_l h.2.1) (fun i x σ H' H'' hi h y => ?_) (fun σ H' h => ?_)⟩
    · obtain ⟨ex, h2', lg', hL', c, v5, v6, v7, hc, rfl⟩ := h
      obtain ⟨T, x1, rfl, nT, rfl, g⟩ := y
      have eT := Ex.new (o := .tup [.int (i : Nat), x1]) nT
      obtain ⟨e, x, rfl, he, hx, tx⟩ := (lg'.ex eT).get g
      obtain ⟨rfl, hi'⟩ := rowsR_at hx
      have ok := cnt_ok hi'
      have exT := ex.trans eT
      have h2T := eT _ _ h2'
      have hLT := eT _ _ hL'
      have hcT := hc.ex eT
      have lgT := lg'.ex eT
      refine ⟨T, _, rfl, .inl (.inl upd_same), rfl, _, _, rfl, _, _, rfl, rfl, ?_⟩
      generalize upd H' T (.tup [.int (i : Nat), .ref e]) = H3 at tx exT h2T hLT hcT lgT ⊢
      have nl := numF_len s n xs i
      have ib : i * s.step < (numF s n xs i).1.length := by
        rw [nl.1, hl]
        have : i * s.step ≤ i * s.great := Nat.mul_le_mul_left _ (by cases s <;> decide)
        omega
      have ai : atI ((numF s n xs i).1.map V.int) ((i : Int) * (s.step : Int)) = some (.int ((numF s n xs i).1.getD (i * s.step) 0)) := by
        rw [show (i : Int) * (s.step : Int) = ((i * s.step : Nat) : Int) by rw [Int.natCast_mul]]
        exact atI_int ib
      refine ⟨_, rfl, _, rfl, _, rfl, s.s, _, rfl, s.inSTEPS, fun v iv => ?_⟩
      obtain rfl : v = .int (s.step : Int) := iv
      refine ⟨_, _, rfl, rfl, .inr ⟨by omega, by omega⟩, c, _, _, _, rfl, rfl, hcT.sq, ai, ?_⟩
      refine ⟨_, rfl, .inl ⟨rfl, _, sq_of hLT⟩, _, rfl, L, _, _, rfl, rfl, hLT, sz_lt (by rw [List.length_map, nl.2]; have := cnt_le s n hn; omega), ?_⟩
      have e4 : (numF s n xs (i + 1)).2.map V.int = (numF s n xs i).2.map V.int ++ [V.int ((numF s n xs i).1.getD (i * s.step) 0)] := by
        show (_ ++ [_]).map V.int = _
        rw [List.map_append]
        rfl
      rw [← e4]
      have ex5 := ex_side (o := .lst ((numF s n xs (i + 1)).2.map V.int)) exT hL
      have h25 : upd H3 L (.lst ((numF s n xs (i + 1)).2.map V.int)) t = some (.lst (es.map V.ref)) := by rw [upd_ne tL]; exact h2T
      have hL5 : upd H3 L (.lst ((numF s n xs (i + 1)).2.map V.int)) L = some (.lst ((numF s n xs (i + 1)).2.map V.int)) := upd_same
      have hc5 := hcT.mut (zs := (numF s n xs (i + 1)).2.map V.int) hLT
      have tx5 := tx.mut (zs := (numF s n xs (i + 1)).2.map V.int) hLT
      have lg5 := lgT.mut (zs := (numF s n xs (i + 1)).2.map V.int) hLT
      generalize upd H3 L (.lst ((numF s n xs (i + 1)).2.map V.int)) = H5 at ex5 h25 hL5 hc5 tx5 lg5 ⊢
      refine ⟨_, rfl, _, rfl, _, rfl, _, rfl, c, e, (numF s n xs i).1, toldR s n i, -((numF s n xs i).1.getD (i * s.step) 0), rfl, hc5, tx5, by rw [nl.1, toldR_len s n i ok.1 ok.2, hl], by rw [nl.1]; omega, toldR_small hn hi', fun d H6 e6 hd => ?_⟩
      exact ⟨ex5.trans e6, e6 _ _ h25, lg5.ex e6, e6 _ _ hL5, d, _, _, _, hd, rfl⟩
    · obtain ⟨ex, h2', lg', hL', c, v5, v6, v7, hc, rfl⟩ := h
      rw [List.length_map, lg.len, rl] at hc hL'
      have nl := numF_len s n xs (cnt s n)
      refine ⟨_, rfl, c, _, rfl, hc, by rw [nl.1]; omega, fun H3 e3 => ⟨_, rfl, ?_⟩⟩
      rw [nl.1, hl]
      by_cases z : (numF s n xs (cnt s n)).1 = List.replicate (n + 1) 0
      · rw [decide_eq_true z]
        exact iteT ⟨_, rfl, L, _, rfl, .inl ⟨sq_of (e3 _ _ hL'), (ky z).new (ex.trans e3)⟩⟩
      · rw [decide_eq_false z]
        exact iteF (kn z _ (ex.trans e3))
end
end K60

namespace K60
open PySem PySem.Spec PyProof.Rows L2 Evl Own
def spSmall (K : PySem.W.Frag) : Sp := fun vs H Q _ => ∃ s : Srt, vs = [.str s.s] ∧ ∀ (r f : Addr) (H' : Hp), Ex H H' → Tp K H' f (s.fac.map V.int) → Tp K H' r [.int (s.step : Int), .int (s.small : Int), .int (s.great : Int), .ref f, .int (s.many : Int)] → Q (.ref r) H'
def spLTop : Sp := fun vs H Q _ => ∃ (s : Srt) (n : Nat), vs = [.str s.s, .int (n : Int)] ∧ ∀ H', Ex H H' → Q (.int ((cnt s n : Int) - 1)) H'
def spLTimes (K : PySem.W.Frag) : Sp := fun vs H Q _ => ∃ (p r : Addr) (xs ys : List Int), vs = [.ref p, .ref r] ∧ H p = some (.lst (xs.map V.int)) ∧ Tp K H r (ys.map V.int) ∧ 0 < xs.length ∧ xs.length ≤ 1000 ∧ 0 < ys.length ∧ ys.length ≤ 1000 ∧ smallL ys ∧ RetL ((tm ys xs).map V.int) H Q
def rowA (s : Srt) (j : Nat) : Nat → List Int
  | 0 => List.replicate j 0 ++ [1]
  | k + 1 => tm s.fac (rowA s j k)
def rowB (r : List Int) : Nat → List Int
  | 0 => r
  | k + 1 => tm [1, -1] (rowB r k)
theorem Srt.facs (s : Srt) : s.fac.length = s.small / s.step + 1 := by cases s <;> decide
theorem Srt.fac_len (s : Srt) : 2 ≤ s.fac.length ∧ s.fac.length ≤ 3 := by cases s <;> decide
theorem Srt.fac_small (s : Srt) : smallL s.fac := by cases s <;> (unfold smallL; decide)
theorem rowA_len (s : Srt) (j : Nat) : ∀ k, (rowA s j k).length = j + 1 + k * (s.fac.length - 1)
  | 0 => by
    show (List.replicate j (0 : Int) ++ [1]).length = _
    rw [List.length_append, List.length_replicate]
    show j + 1 = _
    omega
  | k + 1 => by
    have := s.fac_len
    show (tm _ _).length = _
    rw [tm_len, rowA_len s j k, Nat.succ_mul]
    omega
theorem rowB_len (r : List Int) (h : 0 < r.length) : ∀ k, (rowB r k).length = r.length + k
  | 0 => rfl
  | k + 1 => by
    show (tm _ _).length = _
    rw [tm_len, rowB_len r h k]
    show 2 + _ - 1 = _
    omega
def spreadR (step n : Nat) (row : List Int) : Nat → List Int
  | 0 => List.replicate (n + 1) 0
  | i + 1 => if i * step ≤ n then (spreadR step n row i).set (i * step) (row.getD i 0) else spreadR step n row i
theorem spreadR_len (step n : Nat) (row : List Int) : ∀ i, (spreadR step n row i).length = n + 1
  | 0 => List.length_replicate ..
  | i + 1 => by
    unfold spreadR
    split
    · rw [List.length_set, spreadR_len step n row i]
    · exact spreadR_len step n row i
def lawT (s : Srt) (n j : Nat) : List Int := spreadR s.step n (rowB (rowA s j ((n - j * s.great) / s.small)) (j * s.many)) (rowB (rowA s j ((n - j * s.great) / s.small)) (j * s.many)).length
theorem lawT_is {s : Srt} {n j : Nat} (hn : n ≤ 24) (hj : j < cnt s n) : lawT s n j = toldR s n j := by
  have : chkR (fun s n j => decide (lawT s n j = toldR s n j)) = true := by decide +kernel
  exact of_decide_eq_true (chkR_ok this hn hj)
section
variable {P : Program} {w : World} {K : PySem.W.Frag} {mg : Str → Option Value} {base : Heap} {f : Addr} {fd : FuncData}
theorem ok__law_small (F : FnP K "_law_small" s__law_small f fd) (Z : Zs mg) : FnOk P w K mg base CX0 1 f fd ["sort"] (spSmall K) := by
  refine F.ok sc__law_small (fun vs H Q E h => ?_) (fun cdv A outer s H vs Q E hr h => ⟨_, PSs.nox (pss_one (ps_ret (pe_dget (hu_of hr) (pe_disp (pps_cons pe_str (pe_tupF (pa_cons pe_int (pa_cons pe_int (pa_cons pe_int (pa_cons (pe_tupF (pa_cons pe_int (pa_cons pe_int pa_nil))) (pa_cons pe_int pa_nil)))))) (pps_cons pe_str (pe_tupF (pa_cons pe_int (pa_cons pe_int (pa_cons pe_int (pa_cons (pe_tupF (pa_cons pe_int (pa_cons pe_int (pa_cons pe_int pa_nil)))) (pa_cons pe_int pa_nil)))))) (pps_cons pe_str (pe_tupF (pa_cons pe_int (pa_cons pe_int (pa_cons pe_int (pa_cons (pe_tupF (pa_cons pe_int (pa_cons pe_int pa_nil))) (pa_cons pe_int pa_nil)))))) pps_nil))) (by rfl) (by rfl) (fun z => by cases z) (by decide)) (pv 0) (fun _ _ => rfl)))), ?_⟩)
  · obtain ⟨s, rfl, _⟩ := h
    rfl
  · obtain ⟨s, rfl, k⟩ := h
    refine fun p hp => ⟨by show 2 ≤ sizeLine; decide, fun f1 o1 hf1 ho1 => ⟨by show 5 ≤ sizeLine; decide, fun r1 o2 hr1 ho2 => ⟨by show 3 ≤ sizeLine; decide, fun f2 o3 hf2 ho3 => ⟨by show 5 ≤ sizeLine; decide, fun r2 o4 hr2 ho4 => ⟨by show 2 ≤ sizeLine; decide, fun f3 o5 hf3 ho5 => ⟨by show 5 ≤ sizeLine; decide, fun r3 o6 hr3 ho6 => ?_⟩⟩⟩⟩⟩⟩
    have e0 := Ex.new (o := .dK []) hp
    have e1 := Ex.new (o := .frz o1 (.tup [.int 1, .int 1])) hf1
    have t1 := Tp.of (K := K) ho1 (upd_same (H := upd H p (.dK [])) (a := f1) (o := .frz o1 (.tup [.int 1, .int 1])))
    generalize upd (upd H p (.dK [])) f1 (.frz o1 (.tup [.int 1, .int 1])) = H1 at *
    have e2 := Ex.new (o := .frz o2 (.tup [.int 2, .int 2, .int 8, .ref f1, .int 2])) hr1
    have t2 := Tp.of (K := K) ho2 (upd_same (H := H1) (a := r1) (o := .frz o2 (.tup [.int 2, .int 2, .int 8, .ref f1, .int 2])))
    generalize upd H1 r1 (.frz o2 (.tup [.int 2, .int 2, .int 8, .ref f1, .int 2])) = H2 at *
    have e3 := Ex.new (o := .frz o3 (.tup [.int 1, .int 14, .int 1])) hf2
    have t3 := Tp.of (K := K) ho3 (upd_same (H := H2) (a := f2) (o := .frz o3 (.tup [.int 1, .int 14, .int 1])))
    generalize upd H2 f2 (.frz o3 (.tup [.int 1, .int 14, .int 1])) = H3 at *
    have e4 := Ex.new (o := .frz o4 (.tup [.int 4, .int 8, .int 24, .ref f2, .int 4])) hr2
    have t4 := Tp.of (K := K) ho4 (upd_same (H := H3) (a := r2) (o := .frz o4 (.tup [.int 4, .int 8, .int 24, .ref f2, .int 4])))
    generalize upd H3 r2 (.frz o4 (.tup [.int 4, .int 8, .int 24, .ref f2, .int 4])) = H4 at *
    have e5 := Ex.new (o := .frz o5 (.tup [.int 1, .int 8])) hf3
    have t5 := Tp.of (K := K) ho5 (upd_same (H := H4) (a := f3) (o := .frz o5 (.tup [.int 1, .int 8])))
    generalize upd H4 f3 (.frz o5 (.tup [.int 1, .int 8])) = H5 at *
    have e6 := Ex.new (o := .frz o6 (.tup [.int 3, .int 4, .int 12, .ref f3, .int 3])) hr3
    have t6 := Tp.of (K := K) ho6 (upd_same (H := H5) (a := r3) (o := .frz o6 (.tup [.int 3, .int 4, .int 12, .ref f3, .int 3])))
    generalize upd H5 r3 (.frz o6 (.tup [.int 3, .int 4, .int 12, .ref f3, .int 3])) = H6 at *
    have e16 := e1.trans (e2.trans (e3.trans (e4.trans (e5.trans e6))))
    have hd := e16 _ _ (upd_same (H := H) (a := p) (o := .dK []))
    have ex7 : Ex H (upd H6 p (.dK (mergeK [] [(Sum.inr "two", .ref r1), (Sum.inr "twice", .ref r2), (Sum.inr "three", .ref r3)]))) := ex_side (e0.trans e16) hp
    have tmut : ∀ {t : Addr} {xs : List V}, Tp K H6 t xs → Tp K (upd H6 p (.dK (mergeK [] [(Sum.inr "two", .ref r1), (Sum.inr "twice", .ref r2), (Sum.inr "three", .ref r3)]))) t xs := fun {t xs} h => by
      rcases h with ⟨o, g1, g2⟩ | h
      · have : t ≠ p := fun z => by
          rw [z, hd] at g2
          cases g2
        exact .inl ⟨o, g1, by rw [upd_ne this]; exact g2⟩
      · exact .inr h
    have hd7 : upd H6 p (.dK (mergeK [] [(Sum.inr "two", .ref r1), (Sum.inr "twice", .ref r2), (Sum.inr "three", .ref r3)])) p = some (.dK (mergeK [] [(Sum.inr "two", .ref r1), (Sum.inr "twice", .ref r2), (Sum.inr "three", .ref r3)])) := upd_same
    refine ⟨hd, [(Sum.inr "two", .ref r1), (Sum.inr "twice", .ref r2), (Sum.inr "three", .ref r3)], rfl, by show 3 ≤ 15; decide, _, rfl, p, ?_⟩
    cases s
    · exact ⟨.ref r1, rfl, DGet.k (k := Sum.inr "two") hd7, k r1 f1 _ ex7 (tmut (t1.ex (e2.trans (e3.trans (e4.trans (e5.trans e6)))))) (tmut (t2.ex (e3.trans (e4.trans (e5.trans e6)))))⟩
    · exact ⟨.ref r2, rfl, DGet.k (k := Sum.inr "twice") hd7, k r2 f2 _ ex7 (tmut (t3.ex (e4.trans (e5.trans e6)))) (tmut (t4.ex (e5.trans e6)))⟩
    · exact ⟨.ref r3, rfl, DGet.k (k := Sum.inr "three") hd7, k r3 f3 _ ex7 (tmut (t5.ex e6)) (tmut t6)⟩
theorem ok__law_times (F : FnP K "_law_times" s__law_times f fd) (Z : Zs mg) : FnOk P w K mg base CX0 1 f fd ["row", "factor"] (spLTimes K) := by
  refine F.ok sc__law_times (fun vs H Q E h => ?_) (fun cdv A outer s H vs Q E hr h => ⟨_, PSs.nox (pss_cons (ps_set (i := 2) sc__law_times.nd rfl (by first | exact Or.inl rfl | exact Or.inr rfl) (pe_op op_rep (pe_lst (pa_cons pe_int pa_nil)) (pe_op op_sub (pe_op op_add (pe_callB (kc_len (K := K)) (by rfl) Z.len PySem.boot_len (pa_cons (pv 0) pa_nil)) (pe_callB (kc_len (K := K)) (by rfl) Z.len PySem.boot_len (pa_cons (pv 1) pa_nil))) pe_int)))
  (pss_cons (ps_for PassesOwn.never rfl (pi_enumB (by rfl) Z.enumerate (pa_cons (pv 1) pa_nil)) (pg_tup rfl (pgs_cons (pg_name (i := 3) sc__law_times.nd rfl (by first | exact Or.inl rfl | exact Or.inr rfl)) (pgs_cons (pg_name (i := 4) sc__law_times.nd rfl (by first | exact Or.inl rfl | exact Or.inr rfl)) pgs_nil))) (pss_one (ps_for PassesOwn.never rfl (pi_enumB (by rfl) Z.enumerate (pa_cons (pv 0) pa_nil)) (pg_tup rfl (pgs_cons (pg_name (i := 5) sc__law_times.nd rfl (by first | exact Or.inl rfl | exact Or.inr rfl)) (pgs_cons (pg_name (i := 6) sc__law_times.nd rfl (by first | exact Or.inl rfl | exact Or.inr rfl)) pgs_nil))) (pss_one (ps_asg (pe_op op_add (pe_ix (kx_list (K := K)) (pv 2) (pe_op op_add (pv 3) (pv 5)) (fun _ _ => rfl)) (pe_op op_mul (pv 4) (pv 6))) (pg_sub (pv 2) (pe_op op_add (pv 3) (pv 5)) set_list))))))
  (pss_one (ps_ret (pv 2))))), ?_⟩)
  · obtain ⟨p, r, xs, ys, rfl, _⟩ := h
    rfl
  · obtain ⟨p, r, xs, ys, rfl, hp, hr', x0, x1, y0, y1, sm, k⟩ := h
    refine ⟨by decide, fun z hz => ?_⟩
    have ez := Ex.new (o := .lst [V.int 0]) hz
    refine ⟨_, rfl, p, _, rfl, .inl (sq_of (ez _ _ hp)), _, rfl, r, _, rfl, .inr (hr'.ex ez).sq, _, _, rfl, rfl, _, _, rfl, rfl, ?_⟩
    rw [List.length_map, List.length_map]
    have ln : ((xs.length : Int) + (ys.length : Int)) - 1 = ((ys.length + xs.length - 1 : Nat) : Int) := by omega
    show rRep (.ref z) (.int (((xs.length : Int) + (ys.length : Int)) - 1)) _ _
    rw [ln]
    refine rep_lst upd_same (by omega) fun L hL => ?_
    have HL : H L = none := fresh_back ez hL
    have e1 := ez.trans (Ex.new (o := .lst (List.replicate (ys.length + xs.length - 1) (V.int 0))) hL)
    have h1 : upd (upd H z (.lst [V.int 0])) L (.lst (List.replicate (ys.length + xs.length - 1) (V.int 0))) L = some (.lst ((mulUp ys xs 0).map V.int)) := by
      rw [upd_same]
      show _ = some (HO.lst ((List.replicate (ys.length + xs.length - 1) (0 : Int)).map V.int))
      rw [List.map_replicate]
    generalize upd (upd H z (.lst [V.int 0])) L (.lst (List.replicate (ys.length + xs.length - 1) (V.int 0))) = H1 at e1 h1 ⊢
    refine ⟨_, rfl, r, true, _, rfl, sqb_t (hr'.ex e1), for_it walk_enumB (fun i σ H' => Ex H H' ∧ H' L = some (.lst ((mulUp ys xs i).map V.int)) ∧ ∃ v1 v2 v3 v4, σ = [some (.ref p), some (.ref r), some (.ref L), v1, v2, v3, v4]) ⟨e1, h1, none, none, none, none, rfl⟩ (fun i σ H' _ h => sqb_t (hr'.ex h.1)) (fun i x σ H' H'' hi h y => ?_) (fun σ H' h => ?_)⟩
    · obtain ⟨ex, hL', v1, v2, v3, v4, rfl⟩ := h
      obtain ⟨T, x1, rfl, nT, rfl, g⟩ := y
      obtain ⟨rfl, hi'⟩ := int_at g
      have eT := Ex.new (o := .tup [.int (i : Nat), .int (ys.getD i 0)]) nT
      have ex2 := ex.trans eT
      have hL2 := eT _ _ hL'
      refine ⟨T, _, rfl, .inl (.inl upd_same), rfl, _, _, rfl, _, _, rfl, rfl, ?_⟩
      generalize upd H' T (.tup [.int (i : Nat), .int (ys.getD i 0)]) = H2 at ex2 hL2 ⊢
      have ul := mulUp_len ys xs i
      have small := sm.at i
      refine ⟨_, rfl, p, false, _, rfl, sqb_l (ex2 _ _ hp), for_it walk_enumB (fun j σ H' => Ex H H' ∧ H' L = some (.lst ((mulIn ys xs (mulUp ys xs i) i j).map V.int)) ∧ ∃ v3 v4, σ = [some (.ref p), some (.ref r), some (.ref L), some (.int (i : Int)), some (.int (ys.getD i 0)), v3, v4]) ⟨ex2, hL2, v3, v4, rfl⟩ (fun j σ H' _ h => sqb_l (h.1 _ _ hp)) (fun j x σ H' H'' hj h y => ?_) (fun σ H' h => ?_)⟩
      · obtain ⟨ex4, hL4, w3, w4, rfl⟩ := h
        obtain ⟨T, x1, rfl, nT, rfl, g⟩ := y
        obtain ⟨rfl, hj'⟩ := int_at g
        have eT := Ex.new (o := .tup [.int (j : Nat), .int (xs.getD j 0)]) nT
        have ex5 := ex4.trans eT
        have hL5 := eT _ _ hL4
        refine ⟨T, _, rfl, .inl (.inl upd_same), rfl, _, _, rfl, _, _, rfl, rfl, ?_⟩
        generalize upd H' T (.tup [.int (j : Nat), .int (xs.getD j 0)]) = H5 at hL5 ex5 ⊢
        have ja : i + j < (mulIn ys xs (mulUp ys xs i) i j).length := by rw [mulIn_len]; omega
        have ia : atI ((mulIn ys xs (mulUp ys xs i) i j).map V.int) ((i : Int) + (j : Int)) = some (.int ((mulIn ys xs (mulUp ys xs i) i j).getD (i + j) 0)) := by
          rw [show (i : Int) + (j : Int) = ((i + j : Nat) : Int) by omega]
          exact atI_int ja
        have ib : ixN ((mulIn ys xs (mulUp ys xs i) i j).map V.int).length ((i : Int) + (j : Int)) = some (i + j) := by
          rw [show (i : Int) + (j : Int) = ((i + j : Nat) : Int) by omega]
          exact ixN_nat (by rw [List.length_map]; exact ja)
        refine ⟨_, rfl, _, rfl, _, rfl, _, _, rfl, rfl, L, _, _, _, rfl, rfl, sq_of hL5, ia, _, rfl, _, rfl, _, _, rfl, rfl, .inl ⟨by omega, by omega⟩, _, _, rfl, rfl, _, rfl, _, rfl, _, rfl, _, _, rfl, rfl, L, _, _, _, rfl, rfl, hL5, ib, ?_⟩
        rw [int_set]
        exact ⟨ex_side ex5 HL, upd_same, _, _, rfl⟩
      · obtain ⟨ex4, hL4, w3, w4, rfl⟩ := h
        rw [List.length_map] at hL4
        exact ⟨ex4, hL4, _, _, _, _, rfl⟩
    · obtain ⟨ex, hL', v1, v2, v3, v4, rfl⟩ := h
      rw [List.length_map] at hL'
      exact ⟨_, rfl, k L H' HL ex hL'⟩
theorem ok__law_top (F : FnP K "_law_top" s__law_top f fd) (Z : Zs mg) (G__law_small : Fn P w K mg base CX0 1 "_law_small" s__law_small ["sort"] (spSmall K)) : FnOk P w K mg base CX0 2 f fd ["sort", "length"] spLTop := by
  refine F.ok sc__law_top (fun vs H Q E h => ?_) (fun cdv A outer s H vs Q E hr h => ⟨_, PSs.nox (pss_cons (ps_asg (pe_callF G__law_small (hr.mono (by decide)) rfl pass0 (pa_cons (pv 0) pa_nil)) (pg_tup rfl (pgs_cons (pg_name (i := 2) sc__law_top.nd rfl (by first | exact Or.inl rfl | exact Or.inr rfl)) (pgs_cons (pg_name (i := 3) sc__law_top.nd rfl (by first | exact Or.inl rfl | exact Or.inr rfl)) (pgs_cons (pg_name (i := 4) sc__law_top.nd rfl (by first | exact Or.inl rfl | exact Or.inr rfl)) (pgs_cons (pg_name (i := 5) sc__law_top.nd rfl (by first | exact Or.inl rfl | exact Or.inr rfl)) (pgs_cons (pg_name (i := 6) sc__law_top.nd rfl (by first | exact Or.inl rfl | exact Or.inr rfl)) pgs_nil)))))))
  (pss_one (ps_ret (pe_ifExp (pt_cmpR op_ne (pe_op op_mod (pe_callTy call_int1 (by rfl) Z.int (by decide +kernel) (pa_cons (pv 1) pa_nil)) (pv 3)) pe_int (nomark _)) (pe_un un_neg pe_int) (pe_op op_fdivW (pv 1) (pv 4)))))), ?_⟩)
  · obtain ⟨s, n, rfl, _⟩ := h
    rfl
  · obtain ⟨s, n, rfl, k⟩ := h
    have sp := s.small_pos
    have gp := s.great_pos
    have sl := s.small_le
    refine ⟨_, rfl, s, rfl, fun r f1 H1 e1 hf hr1 => ⟨r, _, rfl, hr1.sq, rfl, _, _, rfl, _, _, rfl, _, _, rfl, _, _, rfl, _, _, rfl, rfl, ?_⟩⟩
    refine ⟨_, rfl, .inl ⟨_, rfl, _, rfl, _, _, rfl, rfl, by omega, rfl, _, rfl, ?_⟩⟩
    rw [dec_int]
    by_cases c : n % s.small = 0
    · have e : (((n : Int) % (s.small : Int)) == 0) = true := by
        rw [beq_iff_eq]
        omega
      rw [e]
      refine iteF ⟨_, rfl, _, rfl, _, _, rfl, rfl, ⟨by omega, ?_⟩, ?_⟩
      · have := Nat.log2_le_self (s.great)
        show (s.great : Nat).log2 < 9000
        omega
      · have kk := k H1 e1
        unfold cnt at kk
        rw [if_pos c] at kk
        have e : ((n / s.great + 1 : Nat) : Int) - 1 = (n : Int) / (s.great : Int) := by
          rw [show ((n / s.great + 1 : Nat) : Int) = ((n / s.great : Nat) : Int) + 1 by omega, Int.natCast_ediv]
          omega
        rw [e] at kk
        exact kk
    · have e : (((n : Int) % (s.small : Int)) == 0) = false := by
        rw [beq_eq_false_iff_ne]
        omega
      rw [e]
      have kk := k H1 e1
      unfold cnt at kk
      rw [if_neg c] at kk
      exact iteT ⟨_, rfl, kk⟩
theorem ok__law_told (F : FnP K "_law_told" s__law_told f fd) (Z : Zs mg) (G__law_small : Fn P w K mg base CX0 1 "_law_small" s__law_small ["sort"] (spSmall K)) (G__law_times : Fn P w K mg base CX0 1 "_law_times" s__law_times ["row", "factor"] (spLTimes K)) : FnOk P w K mg base CX0 2 f fd ["sort", "length", "j"] (spRow K) := by
  refine F.ok sc__law_told (fun vs H Q E h => ?_) (fun cdv A outer s H vs Q E hr h => ⟨_, PSs.nox (pss_cons (ps_asg (pe_callF G__law_small (hr.mono (by decide)) rfl pass0 (pa_cons (pv 0) pa_nil)) (pg_tup rfl (pgs_cons (pg_name (i := 3) sc__law_told.nd rfl (by first | exact Or.inl rfl | exact Or.inr rfl)) (pgs_cons (pg_name (i := 4) sc__law_told.nd rfl (by first | exact Or.inl rfl | exact Or.inr rfl)) (pgs_cons (pg_name (i := 5) sc__law_told.nd rfl (by first | exact Or.inl rfl | exact Or.inr rfl)) (pgs_cons (pg_name (i := 6) sc__law_told.nd rfl (by first | exact Or.inl rfl | exact Or.inr rfl)) (pgs_cons (pg_name (i := 7) sc__law_told.nd rfl (by first | exact Or.inl rfl | exact Or.inr rfl)) pgs_nil)))))))
  (pss_cons (ps_set (i := 8) sc__law_told.nd rfl (by first | exact Or.inl rfl | exact Or.inr rfl) (pe_op op_cat (pe_op op_rep (pe_lst (pa_cons pe_int pa_nil)) (pv 2)) (pe_lst (pa_cons pe_int pa_nil))))
  (pss_cons (ps_for PassesOwn.never rfl (pi_range1 (by rfl) Z.range (pa_cons (pe_op op_fdivW (pe_op op_sub (pv 1) (pe_op op_mul (pv 2) (pv 5))) (pv 4)) pa_nil)) (pg_name (i := 9) sc__law_told.nd rfl (by first | exact Or.inl rfl | exact Or.inr rfl)) (pss_one (ps_set (i := 8) sc__law_told.nd rfl (by first | exact Or.inl rfl | exact Or.inr rfl) (pe_callF G__law_times (hr.mono (by decide)) rfl pass0 (pa_cons (pv 8) (pa_cons (pv 6) pa_nil))))))
  (pss_cons (ps_for PassesOwn.never rfl (pi_range1 (by rfl) Z.range (pa_cons (pe_op op_mul (pv 2) (pv 7)) pa_nil)) (pg_name (i := 9) sc__law_told.nd rfl (by first | exact Or.inl rfl | exact Or.inr rfl)) (pss_one (ps_set (i := 8) sc__law_told.nd rfl (by first | exact Or.inl rfl | exact Or.inr rfl) (pe_callF G__law_times (hr.mono (by decide)) rfl pass0 (pa_cons (pv 8) (pa_cons (pe_tupF (pa_cons pe_int (pa_cons (pe_op op_sub pe_int pe_int) pa_nil))) pa_nil))))))
  (pss_cons (ps_set (i := 10) sc__law_told.nd rfl (by first | exact Or.inl rfl | exact Or.inr rfl) (pe_op op_rep (pe_lst (pa_cons pe_int pa_nil)) (pe_op op_add (pv 1) pe_int)))
  (pss_cons (ps_for PassesOwn.never rfl (pi_enumB (by rfl) Z.enumerate (pa_cons (pv 8) pa_nil)) (pg_tup rfl (pgs_cons (pg_name (i := 11) sc__law_told.nd rfl (by first | exact Or.inl rfl | exact Or.inr rfl)) (pgs_cons (pg_name (i := 12) sc__law_told.nd rfl (by first | exact Or.inl rfl | exact Or.inr rfl)) pgs_nil))) (pss_one (ps_if (pt_cmpR op_le (pe_op op_mul (pv 11) (pv 3)) (pv 1) (nomark _)) (pss_one (ps_asg (pv 12) (pg_sub (pv 10) (pe_op op_mul (pv 11) (pv 3)) set_list))) pss_nil)))
  (pss_one (ps_ret (pe_callTy (kc_tuple (K := K)) (by rfl) Z.tuple (by decide +kernel) (pa_cons (pv 10) pa_nil)))))))))), ?_⟩)
  · obtain ⟨s, n, j, rfl, _⟩ := h
    rfl
  · obtain ⟨s, n, j, rfl, hn, hj, k⟩ := h
    obtain ⟨c, jg⟩ := cnt_ok hj
    have cl := cnt_le s n hn
    have sp := s.small_pos
    have sl := s.small_le
    have st := s.step_pos
    have fl := s.fac_len
    have m12 : (n - j * s.great) / s.small ≤ 12 := by
      have h1 : (n - j * s.great) / s.small ≤ 24 / s.small := Nat.div_le_div_right (by omega)
      have h2 : 24 / s.small ≤ 12 := by cases s <;> decide
      omega
    have j16 : j * s.many ≤ 4 * 4 := Nat.mul_le_mul (by omega) (by omega)
    rw [← lawT_is hn hj] at k
    refine ⟨_, rfl, s, rfl, fun t f1 H1 e1 hf ht => ⟨t, _, rfl, ht.sq, rfl, _, _, rfl, _, _, rfl, _, _, rfl, _, _, rfl, _, _, rfl, rfl, ?_⟩⟩
    refine ⟨by decide, fun z hz => ⟨_, rfl, ?_⟩⟩
    have ez := Ex.new (o := .lst [V.int 0]) hz
    refine rep_lst upd_same (by omega) fun y hy => ⟨by decide, fun x hx => ?_⟩
    have ey := Ex.new (o := .lst (List.replicate j (V.int 0))) hy
    have ex1 := Ex.new (o := .lst [V.int 1]) hx
    have hy2 := ex1 _ _ (upd_same (H := upd H1 z (.lst [V.int 0])) (a := y) (o := .lst (List.replicate j (V.int 0))))
    have hx2 := upd_same (H := upd (upd H1 z (.lst [V.int 0])) y (.lst (List.replicate j (V.int 0)))) (a := x) (o := .lst [V.int 1])
    have e2 := e1.trans (ez.trans (ey.trans ex1))
    have hf2 := hf.ex (ez.trans (ey.trans ex1))
    generalize upd (upd (upd H1 z (.lst [V.int 0])) y (.lst (List.replicate j (V.int 0)))) x (.lst [V.int 1]) = H2 at e2 hf2 hy2 hx2 ⊢
    refine ⟨y, x, _, _, rfl, rfl, hy2, hx2, Nat.le_of_lt (sz_lt (by simp only [List.length_replicate, List.length_singleton]; omega)), fun d hd => ?_⟩
    have ed := Ex.new (o := .lst (List.replicate j (V.int 0) ++ [V.int 1])) hd
    have hd3 : upd H2 d (.lst (List.replicate j (V.int 0) ++ [V.int 1])) d = some (.lst ((rowA s j 0).map V.int)) := by
      rw [upd_same]
      show _ = some (HO.lst ((List.replicate j (0 : Int) ++ [1]).map V.int))
      rw [List.map_append, List.map_replicate]
      rfl
    have e3 := e2.trans ed
    have hf3 := hf2.ex ed
    generalize upd H2 d (.lst (List.replicate j (V.int 0) ++ [V.int 1])) = H3 at e3 hf3 hd3 ⊢
    have em : ((n : Int) - (j : Int) * (s.great : Int)) / (s.small : Int) = (((n - j * s.great) / s.small : Nat) : Int) := by
      rw [Int.natCast_ediv, Int.natCast_sub jg, Int.natCast_mul]
    have eb : 0 ≤ ((n : Int) - (j : Int) * (s.great : Int)) / (s.small : Int) ∧ ((n : Int) - (j : Int) * (s.great : Int)) / (s.small : Int) ≤ 12 := by
      rw [em]
      exact ⟨Int.natCast_nonneg _, Int.ofNat_le.mpr m12⟩
    refine ⟨_, rfl, _, rfl, _, rfl, _, _, rfl, rfl, .inl ⟨by omega, by omega⟩, _, _, rfl, rfl, _, rfl, _, _, rfl, rfl, ⟨by omega, ?_⟩, ((n : Int) - (j : Int) * (s.great : Int)) / (s.small : Int), rfl, by omega, by omega, ?_⟩
    · have := Nat.log2_le_self (s.small)
      show (s.small : Nat).log2 < 9000
      omega
    rw [em, Int.toNat_natCast]
    have rl0 := rowA_len s j ((n - j * s.great) / s.small)
    generalize hM : (n - j * s.great) / s.small = M at m12 rl0
    refine for_range (lo := 0) (n := M) (fun i σ H' => Ex H H' ∧ Tp K H' f1 (s.fac.map V.int) ∧ ∃ d v9, H' d = some (.lst ((rowA s j i).map V.int)) ∧ σ = [some (.str s.s), some (.int (n : Int)), some (.int (j : Int)), some (.int (s.step : Int)), some (.int (s.small : Int)), some (.int (s.great : Int)), some (.ref f1), some (.int (s.many : Int)), some (.ref d), v9, none, none, none]) ⟨e3, hf3, d, none, hd3, rfl⟩ (fun i σ H' hi y => ?_) (fun σ H' y => ?_)
    · obtain ⟨ex, hf', d, v9, hd', rfl⟩ := y
      have rl := rowA_len s j i
      have : i * (s.fac.length - 1) ≤ 12 * 2 := Nat.mul_le_mul (by omega) (by omega)
      refine ⟨_, rfl, _, rfl, d, f1, rowA s j i, s.fac, rfl, hd', hf', by omega, by omega, by omega, by omega, s.fac_small, fun g H5 hg e5 h5 => ⟨ex.trans e5, hf'.ex e5, g, _, h5, rfl⟩⟩
    · obtain ⟨ex, hf', d, v9, hd', rfl⟩ := y
      have : M * (s.fac.length - 1) ≤ 12 * 2 := Nat.mul_le_mul (by omega) (by omega)
      have r0 : 0 < (rowA s j M).length := by omega
      refine ⟨_, rfl, _, rfl, _, _, rfl, rfl, .inl ⟨by omega, by omega⟩, ((j * s.many : Nat) : Int), by rw [Int.natCast_mul], by omega, by omega, ?_⟩
      rw [show ((j * s.many : Nat) : Int).toNat = j * s.many by omega]
      have bl0 := rowB_len (rowA s j M) r0 (j * s.many)
      unfold lawT at k
      rw [hM] at k
      generalize hB : j * s.many = B at j16 bl0 k
      refine for_range (lo := 0) (n := B) (fun i σ H' => Ex H H' ∧ ∃ d v9, H' d = some (.lst ((rowB (rowA s j M) i).map V.int)) ∧ σ = [some (.str s.s), some (.int (n : Int)), some (.int (j : Int)), some (.int (s.step : Int)), some (.int (s.small : Int)), some (.int (s.great : Int)), some (.ref f1), some (.int (s.many : Int)), some (.ref d), v9, none, none, none]) ⟨ex, d, v9, hd', rfl⟩ (fun i σ H' hi y => ?_) (fun σ H' y => ?_)
      · obtain ⟨ex, d, v9, hd', rfl⟩ := y
        have bl := rowB_len (rowA s j M) r0 i
        refine ⟨_, rfl, _, _, rfl, rfl, by show 2 ≤ sizeLine; decide, fun T o hT ho => ?_⟩
        have eT := Ex.new (o := .frz o (.tup [.int 1, .int (0 - 1)])) hT
        have tT : Tp K (upd H' T (.frz o (.tup [.int 1, .int (0 - 1)]))) T (([1, -1] : List Int).map V.int) := Tp.of ho upd_same
        exact ⟨d, T, rowB (rowA s j M) i, [1, -1], rfl, eT _ _ hd', tT, by omega, by omega, by show 0 < 2; decide, by show 2 ≤ 1000; decide, by (unfold smallL; decide), fun g H5 hg e5 h5 => ⟨ex.trans (eT.trans e5), g, _, h5, rfl⟩⟩
      · obtain ⟨ex, d, v9, hd', rfl⟩ := y
        refine ⟨by decide, fun z hz => ⟨_, rfl, _, _, rfl, rfl, ?_⟩⟩
        have ez := Ex.new (o := .lst [V.int 0]) hz
        show rRep (.ref z) (.int (((n + 1 : Nat)) : Int)) _ _
        refine rep_lst upd_same (by omega) fun L hL => ?_
        have e6 := ez.trans (Ex.new (o := .lst (List.replicate (n + 1) (V.int 0))) hL)
        have HL : H L = none := fresh_back (ex.trans ez) hL
        have dL : d ≠ L := fun q => by
          have := ez _ _ hd'
          rw [q, hL] at this
          cases this
        generalize hrow : rowB (rowA s j M) B = row at hd' bl0 k
        have hL6 : upd (upd H' z (.lst [V.int 0])) L (.lst (List.replicate (n + 1) (V.int 0))) L = some (.lst ((spreadR s.step n row 0).map V.int)) := by
          rw [upd_same]
          show _ = some (HO.lst ((List.replicate (n + 1) (0 : Int)).map V.int))
          rw [List.map_replicate]
        generalize upd (upd H' z (.lst [V.int 0])) L (.lst (List.replicate (n + 1) (V.int 0))) = H6 at e6 hL6 ⊢
        refine ⟨_, rfl, d, false, _, rfl, sqb_l (e6 _ _ hd'), for_it walk_enumB (fun i σ H'' => Ex H H'' ∧ H'' d = some (.lst (row.map V.int)) ∧ H'' L = some (.lst ((spreadR s.step n row i).map V.int)) ∧ ∃ v11 v12, σ = [some (.str s.s), some (.int (n : Int)), some (.int (j : Int)), some (.int (s.step : Int)), some (.int (s.small : Int)), some (.int (s.great : Int)), some (.ref f1), some (.int (s.many : Int)), some (.ref d), v9, some (.ref L), v11, v12]) ⟨ex.trans e6, e6 _ _ hd', hL6, none, none, rfl⟩ (fun i σ H'' _ h => sqb_l h.2.1) (fun i x σ H'' H3' hi h y => ?_) (fun σ H'' h => ?_)⟩
        · obtain ⟨ex7, hd7, hL7, v11, v12, rfl⟩ := h
          obtain ⟨T, x1, rfl, nT, rfl, g⟩ := y
          obtain ⟨rfl, hi'⟩ := int_at g
          have eT := Ex.new (o := .tup [.int (i : Nat), .int (row.getD i 0)]) nT
          have ex8 := ex7.trans eT
          have hd8 := eT _ _ hd7
          have hL8 := eT _ _ hL7
          refine ⟨T, _, rfl, .inl (.inl upd_same), rfl, _, _, rfl, _, _, rfl, rfl, ?_⟩
          generalize upd H'' T (.tup [.int (i : Nat), .int (row.getD i 0)]) = H8 at ex8 hd8 hL8 ⊢
          refine ⟨_, rfl, _, rfl, _, _, rfl, rfl, .inr ⟨by omega, by omega⟩, _, rfl, _, _, rfl, rfl, _, rfl, ?_⟩
          have es : (i : Int) * (s.step : Int) = ((i * s.step : Nat) : Int) := by rw [Int.natCast_mul]
          by_cases q : i * s.step ≤ n
          · rw [decide_eq_true (show (i : Int) * (s.step : Int) ≤ (n : Int) by rw [es]; omega)]
            have e9 : spreadR s.step n row (i + 1) = (spreadR s.step n row i).set (i * s.step) (row.getD i 0) := by
              show (if i * s.step ≤ n then _ else _) = _
              rw [if_pos q]
            have sl' := spreadR_len s.step n row i
            refine iteT ⟨_, rfl, _, rfl, _, rfl, _, rfl, _, _, rfl, rfl, .inr ⟨by omega, by omega⟩, L, _, _, i * s.step, rfl, rfl, hL8, by rw [es]; exact ixN_nat (by rw [List.length_map]; omega), ?_⟩
            rw [int_set, ← e9]
            exact ⟨ex_side ex8 HL, by rw [upd_ne dL]; exact hd8, upd_same, _, _, rfl⟩
          · rw [decide_eq_false (show ¬ (i : Int) * (s.step : Int) ≤ (n : Int) by rw [es]; omega)]
            have e9 : spreadR s.step n row (i + 1) = spreadR s.step n row i := by
              show (if i * s.step ≤ n then _ else _) = _
              rw [if_neg q]
            rw [← e9] at hL8
            exact iteF ⟨ex8, hd8, hL8, _, _, rfl⟩
        · obtain ⟨ex7, hd7, hL7, v11, v12, rfl⟩ := h
          rw [List.length_map] at hL7
          exact ⟨_, rfl, L, _, rfl, .inl ⟨sq_of hL7, k.new ex7⟩⟩
end
end K60

set_option exponentiation.threshold 3000
namespace K60
open PySem PySem.Spec PyProof.Rows L2 Evl Own
def spLMade (K : PySem.W.Frag) : Sp := fun vs H Q _ => ∃ (s : Srt) (n : Nat) (b : Bool) (p : Addr) (ns : List Int), vs = [.str s.s, .int (n : Int), .ref p] ∧ n ≤ 24 ∧ SqB K b H p (ns.map V.int) ∧ ns.length = cnt s n ∧ RetU K ((madeF s n ns (cnt s n)).map V.int) H Q
theorem sub_row (xs ys : List Int) (c : Int) : (List.range xs.length).map (fun i => V.int (xs.getD i 0 - c * ys.getD i 0)) = (adl xs (-c) ys).map V.int := by
  unfold adl
  rw [List.map_map]
  apply List.map_congr_left
  intro i _
  show V.int _ = V.int (xs.getD i 0 + -c * ys.getD i 0)
  rw [Int.neg_mul, Int.sub_eq_add_neg]
theorem add_row (xs ys : List Int) (c : Int) : (List.range xs.length).map (fun i => V.int (xs.getD i 0 + c * ys.getD i 0)) = (adl xs c ys).map V.int := by
  unfold adl
  rw [List.map_map]
  rfl
/-! ### Euclid -/
def euc : Nat → Int → Int → Int × Int
  | 0, a, b => (a, b)
  | n + 1, a, b => if b = 0 then (a, b) else euc n b (a % b)
theorem euc_gcd : ∀ (n : Nat) (a b : Int), 0 ≤ a → 0 ≤ b → Nat.gcd (euc n a b).1.natAbs (euc n a b).2.natAbs = Nat.gcd a.natAbs b.natAbs
  | 0, _, _, _, _ => rfl
  | n + 1, a, b, ha, hb => by
    unfold euc
    by_cases c : b = 0
    · rw [if_pos c]
    · rw [if_neg c, euc_gcd n b (a % b) hb (Int.emod_nonneg _ c)]
      have e : (a % b).natAbs = a.natAbs % b.natAbs := by
        have h1 : ((a % b).natAbs : Int) = ((a.natAbs % b.natAbs : Nat) : Int) := by
          rw [Int.natAbs_of_nonneg (Int.emod_nonneg _ c), Int.natCast_emod, Int.natAbs_of_nonneg ha, Int.natAbs_of_nonneg hb]
        omega
      rw [e, Nat.gcd_comm b.natAbs, ← Nat.gcd_rec, Nat.gcd_comm]
theorem euc_end : ∀ (n : Nat) (a b : Int), 0 ≤ b → b < a → a < 2 ^ n → (euc (2 * n) a b).2 = 0
  | 0, a, b, hb, ha, h => by
    have : (2 : Int) ^ 0 = 1 := rfl
    omega
  | n + 1, a, b, hb, ha, h => by
    rw [show 2 * (n + 1) = 2 * n + 1 + 1 by omega]
    unfold euc
    by_cases c : b = 0
    · rw [if_pos c, c]
    · rw [if_neg c]
      unfold euc
      have m0 := Int.emod_nonneg a c
      have m1 := Int.emod_lt_of_pos a (show 0 < b by omega)
      by_cases d : a % b = 0
      · rw [if_pos d]
        exact d
      · rw [if_neg d]
        have m2 := Int.emod_nonneg b d
        have m3 := Int.emod_lt_of_pos b (show 0 < a % b by omega)
        refine euc_end n (a % b) (b % (a % b)) m2 m3 ?_
        have e := Int.mul_ediv_add_emod a b
        have q1 : 1 ≤ a / b := Int.le_ediv_of_mul_le (by omega) (by omega)
        have : b * 1 ≤ b * (a / b) := Int.mul_le_mul_of_nonneg_left q1 hb
        have p : (2 : Int) ^ (n + 1) = 2 ^ n * 2 := Int.pow_succ ..
        omega
theorem euc_succ : ∀ (i : Nat) (a b : Int), euc (i + 1) a b = if (euc i a b).2 = 0 then euc i a b else ((euc i a b).2, (euc i a b).1 % (euc i a b).2)
  | 0, a, b => rfl
  | i + 1, a, b => by
    by_cases c : b = 0
    · have e : ∀ j, euc (j + 1) a b = (a, b) := fun j => by
        unfold euc
        rw [if_pos c]
      rw [e, e, if_pos c]
    · have e : ∀ j, euc (j + 1) a b = euc j b (a % b) := fun j => by
        show (if b = 0 then _ else _) = _
        rw [if_neg c]
      rw [e (i + 1), e i]
      exact euc_succ i b (a % b)
theorem euc_nn : ∀ (i : Nat) (a b : Int), 0 ≤ a → 0 ≤ b → 0 ≤ (euc i a b).1 ∧ 0 ≤ (euc i a b).2
  | 0, _, _, ha, hb => ⟨ha, hb⟩
  | i + 1, a, b, ha, hb => by
    unfold euc
    by_cases c : b = 0
    · rw [if_pos c]
      exact ⟨ha, hb⟩
    · rw [if_neg c]
      exact euc_nn i b (a % b) hb (Int.emod_nonneg _ c)
theorem euc_keep : ∀ (k i : Nat) (a b : Int), (euc i a b).2 = 0 → euc (i + k) a b = euc i a b
  | 0, _, _, _, _ => rfl
  | k + 1, i, a, b, h => by
    rw [show i + (k + 1) = (i + k) + 1 by omega, euc_succ, euc_keep k i a b h, if_pos h]
theorem euc_all {a b : Int} (a0 : 0 < a) (b0 : 0 ≤ b) (h : a < 2 ^ 500) : (euc 2000 a b).2 = 0 := by
  have key : ∃ i, i ≤ 2000 ∧ (euc i a b).2 = 0 := by
    by_cases c : b = 0
    · exact ⟨0, by omega, c⟩
    · by_cases d : a % b = 0
      · refine ⟨1, by omega, ?_⟩
        show (if b = 0 then (a, b) else (b, a % b)).2 = 0
        rw [if_neg c]
        exact d
      · refine ⟨2 * 500 + 1 + 1, by omega, ?_⟩
        have e1 : euc (2 * 500 + 1 + 1) a b = euc (2 * 500 + 1) b (a % b) := by
          show (if b = 0 then _ else _) = _
          rw [if_neg c]
        have e2 : euc (2 * 500 + 1) b (a % b) = euc (2 * 500) (a % b) (b % (a % b)) := by
          show (if a % b = 0 then _ else _) = _
          rw [if_neg d]
        rw [e1, e2]
        have m0 := Int.emod_nonneg a c
        have le : a % b ≤ a := by
          have h1 := Int.mul_ediv_add_emod a b
          have h2 : 0 ≤ b * (a / b) := Int.mul_nonneg b0 (Int.ediv_nonneg (by omega) b0)
          omega
        exact euc_end 500 _ _ (Int.emod_nonneg _ d) (Int.emod_lt_of_pos _ (by omega)) (by omega)
  obtain ⟨i, hi, h0⟩ := key
  have := euc_keep (2000 - i) i a b h0
  rw [show i + (2000 - i) = 2000 by omega] at this
  rw [this]
  exact h0
theorem euc_is {t b : Int} (b0 : 0 < b) {i : Nat} (h : (euc i b (if t < 0 then -t else t)).2 = 0) : (euc i b (if t < 0 then -t else t)).1 = gcdI t b := by
  have n1 : 0 ≤ (if t < 0 then -t else t) := by split <;> omega
  have g := euc_gcd i b _ (by omega) n1
  have nn := (euc_nn i b _ (by omega) n1).1
  rw [h, Int.natAbs_zero, Nat.gcd_zero_right] at g
  have e1 : (if t < 0 then -t else t).natAbs = t.natAbs := by split <;> omega
  rw [e1] at g
  unfold gcdI
  rw [Nat.gcd_comm]
  omega
def spLowest (K : PySem.W.Frag) : Sp := fun vs H Q _ => ∃ t b : Int, vs = [.int t, .int b] ∧ 0 < b ∧ b < 2 ^ 500 ∧ RetU K (pairL (frac b t)) H Q
def spInteger : Sp := fun vs H Q _ => ∃ (a l : Addr) (R : Hp), vs = [.ref a] ∧ Wl 2 a l R H ∧ ∀ (r : Int) (H' : Hp), Wl 2 a l R H' → Q (.int r) H'
theorem log_lt {b : Int} (h0 : 0 < b) (h : b < 2 ^ 500) : b.natAbs.log2 < 9000 := by
  have h1 : b.natAbs < 2 ^ 500 := by
    have : (b.natAbs : Int) < ((2 ^ 500 : Nat) : Int) := by
      rw [Int.natAbs_of_nonneg (by omega), Int.natCast_pow]
      exact h
    exact Int.ofNat_lt.mp this
  have := (Nat.log2_lt (show b.natAbs ≠ 0 by omega)).mpr h1
  omega
section
variable {P : Program} {w : World} {K : PySem.W.Frag} {mg : Str → Option Value} {base : Heap} {f : Addr} {fd : FuncData}
theorem ok__law_made (F : FnP K "_law_made" s__law_made f fd) (Z : Zs mg) (G__law_told : Fn P w K mg base CX0 2 "_law_told" s__law_told ["sort", "length", "j"] (spRow K)) : FnOk P w K mg base CX0 3 f fd ["sort", "length", "numbers"] (spLMade K) := by
  refine F.ok sc__law_made (fun vs H Q E h => ?_) (fun cdv A outer s H vs Q E hr h => ⟨_, PSs.nox (pss_cons (ps_set (i := 3) sc__law_made.nd rfl (by first | exact Or.inl rfl | exact Or.inr rfl) (pe_op op_rep (pe_lst (pa_cons pe_int pa_nil)) (pe_op op_add (pv 1) pe_int)))
  (pss_cons (ps_for PassesOwn.never rfl (pi_enumB (by rfl) Z.enumerate (pa_cons (pv 2) pa_nil)) (pg_tup rfl (pgs_cons (pg_name (i := 4) sc__law_made.nd rfl (by first | exact Or.inl rfl | exact Or.inr rfl)) (pgs_cons (pg_name (i := 5) sc__law_made.nd rfl (by first | exact Or.inl rfl | exact Or.inr rfl)) pgs_nil))) (pss_one (ps_setLc (i := 3) (own := [("here", 6), ("there", 7)]) (g := (gTup K 2 (gCons (gName 6) (gCons (gName 7) gNil)))) rfl sc__law_made.nd rfl rfl (sw_true rfl rfl rfl (by decide +kernel)) (pi_zipB (by rfl) Z.zip (pa_cons (pv 3) (pa_cons (pe_callF G__law_told (hr.mono (by decide)) rfl pass0 (pa_cons (pv 0) (pa_cons (pv 1) (pa_cons (pv 4) pa_nil)))) pa_nil))) (blkOk_by (own := [("here", 6), ("there", 7)]) (N := ["sort", "length", "numbers", "found", "j", "number", "here", "there"]) (sc := defScope s__law_made) (by decide +kernel)) (fun _ _ _ _ _ => (pg_tup rfl (pgs_cons (pg_name (i := 6) sc__law_made.nd rfl (Or.inl rfl)) (pgs_cons (pg_name (i := 7) sc__law_made.nd rfl (Or.inl rfl)) pgs_nil)))) (fun _ _ _ _ _ => pts_nil) (fun _ _ _ _ _ => (pe_op op_add (pv 6) (pe_op op_mul (pv 5) (pv 7)))))))
  (pss_one (ps_ret (pe_callTy (kc_tuple (K := K)) (by rfl) Z.tuple (by decide +kernel) (pa_cons (pv 3) pa_nil)))))), ?_⟩)
  · obtain ⟨s, n, b, p, ns, rfl, _⟩ := h
    rfl
  · obtain ⟨s, n, b, p, ns, rfl, hn, hp, hl, k⟩ := h
    refine ⟨by decide, fun z hz => ⟨_, rfl, _, _, rfl, rfl, ?_⟩⟩
    have ez := Ex.new (o := .lst [V.int 0]) hz
    show rRep (.ref z) (.int (((n + 1 : Nat)) : Int)) _ _
    refine rep_lst upd_same (by omega) fun L hL => ?_
    have e1 := ez.trans (Ex.new (o := .lst (List.replicate (n + 1) (V.int 0))) hL)
    have h1 : upd (upd H z (.lst [V.int 0])) L (.lst (List.replicate (n + 1) (V.int 0))) L = some (.lst ((madeF s n ns 0).map V.int)) := by
      rw [upd_same]
      show _ = some (HO.lst ((List.replicate (n + 1) (0 : Int)).map V.int))
      rw [List.map_replicate]
    generalize upd (upd H z (.lst [V.int 0])) L (.lst (List.replicate (n + 1) (V.int 0))) = H1 at e1 h1 ⊢
    refine ⟨_, rfl, p, b, _, rfl, hp.ex e1, for_it walk_enumB (fun i σ H' => Ex H H' ∧ ∃ c v4 v5, H' c = some (.lst ((madeF s n ns i).map V.int)) ∧ σ = [some (.str s.s), some (.int (n : Int)), some (.ref p), some (.ref c), v4, v5, none, none]) ⟨e1, L, none, none, h1, rfl⟩ (fun i σ H' _ h => hp.ex h.1) (fun i x σ H' H'' hi h y => ?_) (fun σ H' h => ?_)⟩
    · obtain ⟨ex, c, v4, v5, hc, rfl⟩ := h
      obtain ⟨T, x1, rfl, nT, rfl, g⟩ := y
      obtain ⟨rfl, hi'⟩ := int_at g
      have eT := Ex.new (o := .tup [.int (i : Nat), .int (ns.getD i 0)]) nT
      have ex2 := ex.trans eT
      have hc2 := eT _ _ hc
      refine ⟨T, _, rfl, .inl (.inl upd_same), rfl, _, _, rfl, _, _, rfl, rfl, ?_⟩
      generalize upd H' T (.tup [.int (i : Nat), .int (ns.getD i 0)]) = H2 at ex2 hc2 ⊢
      have hic : i < cnt s n := by omega
      have ok := cnt_ok hic
      have ml := madeF_len s n ns i
      have tl := toldR_len s n i ok.1 ok.2
      have ts := toldR_small hn hic
      refine ⟨_, rfl, _, rfl, _, rfl, _, rfl, s, n, i, rfl, hn, hic, fun d H3 e3 hd => ?_⟩
      have hc3 := e3 _ _ hc2
      have nx : (madeF s n ns (i + 1)) = adl (madeF s n ns i) (ns.getD i 0) (toldR s n i) := rfl
      rw [nx]
      generalize madeF s n ns i = ms at ml hc3 ⊢
      generalize toldR s n i = ts' at tl ts hd ⊢
      refine ⟨c, d, false, true, _, _, rfl, sqb_l hc3, sqb_t hd, lcP (walk_zipB (n := ms.length) (by rw [List.length_map, List.length_map]; omega)) (fun H' e => ⟨sqb_l (e _ _ hc3), sqb_t (hd.ex e)⟩) (by omega) (fun _ => true) (fun j => V.int (ms.getD j 0 + ns.getD i 0 * ts'.getD j 0)) (fun j H5 x H6 hj e y K1 K0 k1 k0 => ?_) (fun g H6 hg e6 h6 => ?_)⟩
      · obtain ⟨T, x1, y1, rfl, nT, rfl, g1, g2⟩ := y
        obtain ⟨rfl, _⟩ := int_at g1
        obtain ⟨rfl, _⟩ := int_at g2
        have small := ts.at j
        exact ⟨T, _, rfl, .inl (.inl upd_same), rfl, _, _, rfl, _, _, rfl, rfl, rfl, yes_go ⟨_, rfl, _, rfl, _, rfl, _, _, rfl, rfl, .inr ⟨by omega, by omega⟩, _, _, rfl, rfl, k1 rfl _ (Ex.new nT)⟩⟩
      · rw [given_all, add_row] at h6
        exact ⟨ex2.trans (e3.trans e6), g, _, _, h6, rfl⟩
    · obtain ⟨ex, c, v4, v5, hc, rfl⟩ := h
      rw [List.length_map, hl] at hc
      exact ⟨_, rfl, c, _, rfl, .inl ⟨sq_of hc, k.new ex⟩⟩
theorem ok__law_numbers (F : FnP K "_law_numbers" s__law_numbers f fd) (Z : Zs mg) (G__law_small : Fn P w K mg base CX0 1 "_law_small" s__law_small ["sort"] (spSmall K)) (G__law_top : Fn P w K mg base CX0 2 "_law_top" s__law_top ["sort", "length"] spLTop) (G__law_told : Fn P w K mg base CX0 2 "_law_told" s__law_told ["sort", "length", "j"] (spRow K)) : FnOk P w K mg base CX0 3 f fd ["sort", "length", "row"] (spNumbers K) := by
  refine F.ok sc__law_numbers (fun vs H Q E h => ?_) (fun cdv A outer s H vs Q E hr h => ⟨_, PSs.nox (pss_cons (ps_par3 (i := 3) (j := 4) (l := 5) rfl sc__law_numbers.nd rfl rfl rfl (by decide) (by decide) (by decide) rfl rfl rfl (pa_cons (pe_ix (kx_tup (K := K)) (pe_callF G__law_small (hr.mono (by decide)) rfl pass0 (pa_cons (pv 0) pa_nil)) pe_int (fun _ _ => rfl)) (pa_cons (pe_lc (own := [("one", 6)]) (g := (gName 6)) rfl sc__law_numbers.nd (pi_tup (pv 2)) (blkOk_by (own := [("one", 6)]) (N := ["sort", "length", "row", "step", "left", "numbers", "one", "j", "number", "here", "there"]) (sc := defScope s__law_numbers) (by decide +kernel)) (fun _ _ _ _ _ => (pg_name (i := 6) sc__law_numbers.nd rfl (Or.inl rfl))) (fun _ _ _ _ _ => pts_nil) (fun _ _ _ _ _ => (pv 6))) (pa_cons (pe_lst pa_nil) pa_nil))) (by rfl))
  (pss_cons (ps_for PassesOwn.never rfl (pi_range1 (by rfl) Z.range (pa_cons (pe_op op_add (pe_callF G__law_top (hr.mono (by decide)) rfl pass0 (pa_cons (pv 0) (pa_cons (pv 1) pa_nil))) pe_int) pa_nil)) (pg_name (i := 7) sc__law_numbers.nd rfl (by first | exact Or.inl rfl | exact Or.inr rfl)) (pss_cons (ps_set (i := 8) sc__law_numbers.nd rfl (by first | exact Or.inl rfl | exact Or.inr rfl) (pe_ix (kx_list (K := K)) (pv 4) (pe_op op_mul (pv 7) (pv 3)) (fun _ _ => rfl)))
  (pss_cons (ps_expr (km_bm (K := K) PySem.F.plainAttrs_list PySem.F.slot_list_append PySem.F.type_list_append mt_append (pv 5) (pa_cons (pv 8) pa_nil)))
  (pss_one (ps_setLc (i := 4) (own := [("here", 9), ("there", 10)]) (g := (gTup K 2 (gCons (gName 9) (gCons (gName 10) gNil)))) rfl sc__law_numbers.nd rfl rfl (sw_true rfl rfl rfl (by decide +kernel)) (pi_zipB (by rfl) Z.zip (pa_cons (pv 4) (pa_cons (pe_callF G__law_told (hr.mono (by decide)) rfl pass0 (pa_cons (pv 0) (pa_cons (pv 1) (pa_cons (pv 7) pa_nil)))) pa_nil))) (blkOk_by (own := [("here", 9), ("there", 10)]) (N := ["sort", "length", "row", "step", "left", "numbers", "one", "j", "number", "here", "there"]) (sc := defScope s__law_numbers) (by decide +kernel)) (fun _ _ _ _ _ => (pg_tup rfl (pgs_cons (pg_name (i := 9) sc__law_numbers.nd rfl (Or.inl rfl)) (pgs_cons (pg_name (i := 10) sc__law_numbers.nd rfl (Or.inl rfl)) pgs_nil)))) (fun _ _ _ _ _ => pts_nil) (fun _ _ _ _ _ => (pe_op op_sub (pv 9) (pe_op op_mul (pv 8) (pv 10)))))))))
  (pss_one (ps_ret (pe_ifExp (pt_cmpR (ko_eq (K := K) hr.units) (pe_lc (own := [("one", 6)]) (g := (gName 6)) rfl sc__law_numbers.nd (pi_list (pv 4)) (blkOk_by (own := [("one", 6)]) (N := ["sort", "length", "row", "step", "left", "numbers", "one", "j", "number", "here", "there"]) (sc := defScope s__law_numbers) (by decide +kernel)) (fun _ _ _ _ _ => (pg_name (i := 6) sc__law_numbers.nd rfl (Or.inl rfl))) (fun _ _ _ _ _ => (pts_one (pt_cmpR op_ne (pv 6) pe_int (nomark _)))) (fun _ _ _ _ _ => (pv 6))) (pe_lst pa_nil) (nomark _)) (pe_callTy (kc_tuple (K := K)) (by rfl) Z.tuple (by decide +kernel) (pa_cons (pv 5) pa_nil)) pe_non))))), ?_⟩)
  · obtain ⟨s, n, p, xs, rfl, _⟩ := h
    rfl
  · obtain ⟨s, n, p, xs, rfl, hn, hp, hl, ky, kn⟩ := h
    have sp := s.step_pos
    have cl := cnt_le s n hn
    refine ⟨_, rfl, s, rfl, fun t f1 H1 e1 hf ht => ⟨t, _, 0, _, rfl, rfl, ht.sq, rfl, ?_⟩⟩
    have hp1 := hp.ex e1
    refine ⟨_, rfl, p, rfl, ⟨_, hp1.sq⟩, lcP (walk_tup (xs := xs.map V.int)) (fun H' e => (hp1.ex e).sq) (by rw [List.length_map]; omega) (fun _ => true) (fun i => V.int (xs.getD i 0)) (fun i H2 x H3 hi e y K1 K0 k1 k0 => ?_) (fun D H2 hD e2 h2 => ?_)⟩
    · obtain ⟨rfl, g⟩ := y
      obtain ⟨rfl, _⟩ := int_at g
      exact ⟨rfl, yes_go ⟨_, rfl, k1 rfl _ (Ex.refl _)⟩⟩
    rw [given_all, List.length_map, range_map 0 V.int xs] at h2
    refine ⟨by decide, fun L hL => ⟨_, _, _, rfl, ?_⟩⟩
    have eL := Ex.new (o := .lst []) hL
    have hL1 : upd H2 L (.lst []) L = some (.lst ((numF s n xs 0).2.map V.int)) := upd_same
    have e3 := e1.trans (e2.trans eL)
    have HL : H L = none := fresh_back (e1.trans e2) hL
    have h3 : upd H2 L (.lst []) D = some (.lst ((numF s n xs 0).1.map V.int)) := eL _ _ h2
    have DL : D ≠ L := fun z => by
      rw [z, hL] at h2
      cases h2
    generalize upd H2 L (.lst []) = H3 at e3 hL1 h3 ⊢
    refine ⟨_, rfl, _, rfl, s, n, rfl, fun H4 e4 => ⟨_, _, rfl, rfl, (cnt s n : Int), by simp, by omega, by omega, ?_⟩⟩
    rw [Int.toNat_natCast]
    refine for_range (lo := 0) (n := cnt s n) (fun i σ H' => Ex H H' ∧ ∃ c v7 v8, c ≠ L ∧ H' c = some (.lst ((numF s n xs i).1.map V.int)) ∧ H' L = some (.lst ((numF s n xs i).2.map V.int)) ∧ σ = [some (.str s.s), some (.int (n : Int)), some (.ref p), some (.int (s.step : Int)), some (.ref c), some (.ref L), none, v7, v8, none, none]) ⟨e3.trans e4, D, none, none, DL, e4 _ _ h3, e4 _ _ hL1, rfl⟩ (fun i σ H' hi y => ?_) (fun σ H' y => ?_)
    · obtain ⟨ex, c, v7, v8, cL, hc, hL', rfl⟩ := y
      have e0 : (0 : Int) + (i : Int) = (i : Int) := by omega
      show gName _ (V.int ((0 : Int) + (i : Int))) _ _ _
      rw [e0]
      have ok := cnt_ok hi
      have nl := numF_len s n xs i
      have ib : i * s.step < (numF s n xs i).1.length := by
        rw [nl.1, hl]
        have : i * s.step ≤ i * s.great := Nat.mul_le_mul_left _ (by cases s <;> decide)
        omega
      have ai : atI ((numF s n xs i).1.map V.int) ((i : Int) * (s.step : Int)) = some (.int ((numF s n xs i).1.getD (i * s.step) 0)) := by
        rw [show (i : Int) * (s.step : Int) = ((i * s.step : Nat) : Int) by rw [Int.natCast_mul]]
        exact atI_int ib
      refine ⟨_, rfl, _, rfl, _, rfl, _, _, rfl, rfl, .inr ⟨by omega, by omega⟩, c, _, _, _, rfl, rfl, sq_of hc, ai, ?_⟩
      refine ⟨_, rfl, .inl ⟨rfl, _, sq_of hL'⟩, _, rfl, L, _, _, rfl, rfl, hL', sz_lt (by rw [List.length_map, nl.2]; have := cnt_le s n hn; omega), ?_⟩
      have e4 : (numF s n xs (i + 1)).2.map V.int = (numF s n xs i).2.map V.int ++ [V.int ((numF s n xs i).1.getD (i * s.step) 0)] := by
        show (_ ++ [_]).map V.int = _
        rw [List.map_append]
        rfl
      rw [← e4]
      have ex5 := ex_side (o := .lst ((numF s n xs (i + 1)).2.map V.int)) ex HL
      have hc5 : upd H' L (.lst ((numF s n xs (i + 1)).2.map V.int)) c = some (.lst ((numF s n xs i).1.map V.int)) := by rw [upd_ne cL]; exact hc
      have hL5 : upd H' L (.lst ((numF s n xs (i + 1)).2.map V.int)) L = some (.lst ((numF s n xs (i + 1)).2.map V.int)) := upd_same
      generalize upd H' L (.lst ((numF s n xs (i + 1)).2.map V.int)) = H5 at ex5 hc5 hL5 ⊢
      refine ⟨_, rfl, _, rfl, _, rfl, _, rfl, s, n, i, rfl, hn, hi, fun d H6 e6 hd => ?_⟩
      have tl := toldR_len s n i ok.1 ok.2
      have ts := toldR_small hn hi
      have nx : (numF s n xs (i + 1)).1 = adl (numF s n xs i).1 (-((numF s n xs i).1.getD (i * s.step) 0)) (toldR s n i) := rfl
      rw [nx]
      have hc6 := e6 _ _ hc5
      have ml := nl.1
      generalize (numF s n xs i).1.getD (i * s.step) 0 = cc
      generalize (numF s n xs i).1 = ms at ml hc6 ⊢
      generalize toldR s n i = ts' at tl ts hd ⊢
      refine ⟨c, d, false, true, _, _, rfl, sqb_l hc6, sqb_t hd, lcP (walk_zipB (n := ms.length) (by rw [List.length_map, List.length_map]; omega)) (fun H' e => ⟨sqb_l (e _ _ hc6), sqb_t (hd.ex e)⟩) (by omega) (fun _ => true) (fun j => V.int (ms.getD j 0 - cc * ts'.getD j 0)) (fun j H7 x H8 hj e y K1 K0 k1 k0 => ?_) (fun g H8 hg e8 h8 => ?_)⟩
      · obtain ⟨T, x1, y1, rfl, nT, rfl, g1, g2⟩ := y
        obtain ⟨rfl, _⟩ := int_at g1
        obtain ⟨rfl, _⟩ := int_at g2
        have small := ts.at j
        exact ⟨T, _, rfl, .inl (.inl upd_same), rfl, _, _, rfl, _, _, rfl, rfl, rfl, yes_go ⟨_, rfl, _, rfl, _, rfl, _, _, rfl, rfl, .inr ⟨by omega, by omega⟩, _, _, rfl, rfl, k1 rfl _ (Ex.new nT)⟩⟩
      · rw [given_all, sub_row] at h8
        refine ⟨ex5.trans (e6.trans e8), g, _, _, fun z => ?_, h8, e8 _ _ (e6 _ _ hL5), rfl⟩
        rw [z, e6 _ _ hL5] at hg
        cases hg
    · obtain ⟨ex, c, v7, v8, cL, hc, hL', rfl⟩ := y
      have nl := (numF_len s n xs (cnt s n)).1
      generalize (numF s n xs (cnt s n)).1 = ms at hc nl ky kn
      generalize (numF s n xs (cnt s n)).2 = os at hL' ky
      refine ⟨_, rfl, c, rfl, ⟨_, sq_of hc⟩, lcP (walk_list (xs := ms.map V.int)) (fun H' e => sq_of (e _ _ hc)) (by rw [List.length_map]; omega) (fun i => decide (ms.getD i 0 ≠ 0)) (fun i => V.int (ms.getD i 0)) (fun i H7 x H8 hi e y K1 K0 k1 k0 => ?_) (fun g H8 hg e8 h8 => ?_)⟩
      · obtain ⟨rfl, g⟩ := y
        obtain ⟨rfl, _⟩ := int_at g
        refine ⟨rfl, _, rfl, rfl, _, rfl, ?_⟩
        rw [dec_int]
        by_cases q : ms.getD i 0 = 0
        · rw [q]
          exact iteF (k0 (by rw [q]; rfl) _ (Ex.refl _))
        · rw [beq_eq_false_iff_ne.mpr q]
          exact iteT ⟨_, rfl, k1 (decide_eq_true q) _ (Ex.refl _)⟩
      · refine ⟨by decide, fun z hz => ?_⟩
        have ez := Ex.new (o := .lst []) hz
        rw [given_ints, List.length_map] at h8
        have ez9 : Ex H' (upd H8 z (.lst [])) := e8.trans ez
        refine ⟨.list ((((List.range ms.length).filter fun i => decide (ms.getD i 0 ≠ 0)).map fun i => ms.getD i 0).map PyData.int), .list [], .lst (sq_of (ez _ _ h8)) (dp_ints _), .lst (sq_of upd_same) .nil, sh_ints _, rfl, _, rfl, ?_⟩
        rw [eqv_ints_nil]
        have iff : (((List.range ms.length).filter fun i => decide (ms.getD i 0 ≠ 0)).map fun i => ms.getD i 0).isEmpty = decide (ms = List.replicate (n + 1) 0) := by
          by_cases q : ms = List.replicate (n + 1) 0
          · rw [decide_eq_true q]
            have : (List.range ms.length).filter (fun i => decide (ms.getD i 0 ≠ 0)) = [] := by
              rw [List.filter_eq_nil_iff]
              intro i hi
              rw [q, List.getD_eq_getElem?_getD, List.getElem?_replicate]
              split <;> simp
            rw [this]
            rfl
          · rw [decide_eq_false q]
            have hx : ∃ i, i < ms.length ∧ ms.getD i 0 ≠ 0 := by
              apply Classical.byContradiction
              intro no
              apply q
              apply ext_getD (d := 0)
              · rw [List.length_replicate]
                omega
              · intro i hi
                have : ms.getD i 0 = 0 := by
                  apply Classical.byContradiction
                  intro z
                  exact no ⟨i, hi, z⟩
                rw [this, List.getD_eq_getElem?_getD, List.getElem?_replicate]
                split <;> rfl
            obtain ⟨i, hi, z⟩ := hx
            have m : i ∈ (List.range ms.length).filter (fun i => decide (ms.getD i 0 ≠ 0)) := List.mem_filter.mpr ⟨List.mem_range.mpr hi, decide_eq_true z⟩
            cases h : (List.range ms.length).filter (fun i => decide (ms.getD i 0 ≠ 0)) with
            | nil =>
              rw [h] at m
              cases m
            | cons a r => rfl
        rw [iff]
        by_cases q : ms = List.replicate (n + 1) 0
        · rw [decide_eq_true q]
          exact iteT ⟨_, rfl, L, _, rfl, .inl ⟨sq_of (ez9 _ _ hL'), (ky q).new (ex.trans ez9)⟩⟩
        · rw [decide_eq_false q]
          exact iteF (kn q _ (ex.trans ez9))
theorem ok__law_lowest (F : FnP K "_law_lowest" s__law_lowest f fd) (Z : Zs mg) : FnOk P w K mg base CX0 1 f fd ["top", "bottom"] (spLowest K) := by
  refine F.ok sc__law_lowest (fun vs H Q E h => ?_) (fun cdv A outer s H vs Q E hr h => ⟨_, PSs.nox (pss_cons (ps_par (i := 2) (j := 3) rfl sc__law_lowest.nd rfl rfl (by decide) rfl rfl (pa_cons (pe_callB call_abs (by rfl) Z.abs (by decide +kernel) (pa_cons (pv 0) pa_nil)) (pa_cons (pv 1) pa_nil)) (by rfl))
  (pss_cons (ps_for PassesOwn.never rfl (pi_range1 (by rfl) Z.range (pa_cons pe_int pa_nil)) (pg_name (i := 4) sc__law_lowest.nd rfl (by first | exact Or.inl rfl | exact Or.inr rfl)) (pss_cons (ps_if (pt_cmpR op_eq (pv 2) pe_int (nomark _)) (pss_one ps_break) pss_nil)
  (pss_one (ps_par (i := 2) (j := 3) rfl sc__law_lowest.nd rfl rfl (by decide) rfl rfl (pa_cons (pe_op op_mod (pe_callTy call_int1 (by rfl) Z.int (by decide +kernel) (pa_cons (pv 3) pa_nil)) (pv 2)) (pa_cons (pv 2) pa_nil)) (by rfl)))))
  (pss_one (ps_ret (pe_tupF (pa_cons (pe_op op_fdivW (pv 0) (pv 3)) (pa_cons (pe_op op_fdivW (pv 1) (pv 3)) pa_nil))))))), ?_⟩)
  · obtain ⟨t, b, rfl, _⟩ := h
    rfl
  · obtain ⟨t, b, rfl, b0, bs, k⟩ := h
    have n1 : 0 ≤ (if t < 0 then -t else t) := by split <;> omega
    have fin := euc_all b0 n1 bs
    obtain ⟨g0, g1⟩ := gcd_pos (t := t) b0
    have gl : (gcdI t b).natAbs.log2 < 9000 := log2_mono (show (gcdI t b).natAbs ≤ b.natAbs by omega) (log_lt b0 bs)
    refine ⟨_, rfl, _, rfl, _, rfl, _, _, rfl, ?_⟩
    refine ⟨2000, rfl, by decide, by decide, for_range (lo := 0) (n := 2000) (fun i σ H' => H' = H ∧ ∃ v, σ = [some (.int t), some (.int b), some (.int (euc i b (if t < 0 then -t else t)).2), some (.int (euc i b (if t < 0 then -t else t)).1), v]) ⟨rfl, none, rfl⟩ (fun i σ H' hi z => ?_) (fun σ H' z => ?_)⟩
    · obtain ⟨rfl, v, rfl⟩ := z
      have nn := euc_nn i b _ (show 0 ≤ b by omega) n1
      have es := euc_succ i b (if t < 0 then -t else t)
      have eg := @euc_is t b b0 i
      generalize (if t < 0 then -t else t) = A at nn es eg ⊢
      refine ⟨_, rfl, rfl, _, rfl, ?_⟩
      rw [dec_int]
      by_cases c : (euc i b A).2 = 0
      · rw [c, eg c]
        exact iteT ⟨_, rfl, _, rfl, _, _, rfl, rfl, ⟨g0, gl⟩, _, rfl, _, rfl, _, _, rfl, rfl, ⟨g0, gl⟩, by show 2 ≤ sizeLine; decide, k.new (Ex.refl _)⟩
      · rw [if_neg c] at es
        rw [beq_eq_false_iff_ne.mpr c, es]
        refine iteF ⟨_, rfl, .inl ⟨_, rfl, _, rfl, _, _, rfl, rfl, by show 0 < _; omega, _, rfl, _, _, rfl, rfl, some (.int (0 + (i : Int))), rfl⟩⟩
    · obtain ⟨rfl, v, rfl⟩ := z
      rw [euc_is b0 fin]
      exact ⟨_, rfl, _, rfl, _, _, rfl, rfl, ⟨g0, gl⟩, _, rfl, _, rfl, _, _, rfl, rfl, ⟨g0, gl⟩, by show 2 ≤ sizeLine; decide, k.new (Ex.refl _)⟩
theorem ok__law_integer (F : FnP K "_law_integer" s__law_integer f fd) (Z : Zs mg) (G__law_any : Fn P w K mg base CX0 1 "_law_any" s__law_any ["deal", "bound"] (spAny 2)) (G__law_of : Fn P w K mg base CX0 2 "_law_of" s__law_of ["deal", "some"] (spOf 2 K)) : FnOk P w K mg base CX0 3 f fd ["deal"] spInteger := by
  refine F.ok sc__law_integer (fun vs H Q E h => ?_) (fun cdv A outer s H vs Q E hr h => ⟨_, PSs.nox (pss_cons (ps_set (i := 1) sc__law_integer.nd rfl (by first | exact Or.inl rfl | exact Or.inr rfl) pe_int)
  (pss_cons (ps_for PassesOwn.never rfl (pi_range1 (by rfl) Z.range (pa_cons (pe_callF G__law_of (hr.mono (by decide)) rfl pass0 (pa_cons (pv 0) (pa_cons (pe_lst (pa_cons pe_int (pa_cons pe_int (pa_cons pe_int (pa_cons pe_int pa_nil))))) pa_nil))) pa_nil)) (pg_name (i := 2) sc__law_integer.nd rfl (by first | exact Or.inl rfl | exact Or.inr rfl)) (pss_one (ps_set (i := 1) sc__law_integer.nd rfl (by first | exact Or.inl rfl | exact Or.inr rfl) (pe_op op_add (pe_op op_mul (pv 1) (pe_op op_pow pe_int pe_int)) (pe_callF G__law_any (hr.mono (by decide)) rfl pass0 (pa_cons (pv 0) (pa_cons (pe_callF G__law_of (hr.mono (by decide)) rfl pass0 (pa_cons (pv 0) (pa_cons (pe_lst (pa_cons pe_int (pa_cons pe_int (pa_cons (pe_op op_pow pe_int pe_int) pa_nil)))) pa_nil))) pa_nil)))))))
  (pss_one (ps_ret (pe_ifExp (pt_cmpR op_eq (pe_callF G__law_any (hr.mono (by decide)) rfl pass0 (pa_cons (pv 0) (pa_cons pe_int pa_nil))) pe_int (nomark _)) (pv 1) (pe_op op_sub pe_int (pv 1))))))), ?_⟩)
  · obtain ⟨a, l, R, rfl, _⟩ := h
    rfl
  · obtain ⟨a, l, R, rfl, hw, k⟩ := h
    refine ⟨_, rfl, by show 4 ≤ sizeLine; decide, fun t ht => ?_⟩
    have w1 := hw.new (o := .lst [V.int 0, .int 1, .int 1, .int 6]) ht
    refine ⟨a, l, t, _, [V.int 0, .int 1, .int 1, .int 6], rfl, w1, sq_of upd_same, by simp, by show 4 ≤ 100; decide, fun v H2 hv w2' => ?_⟩
    have w2 := w2'.weak (Ex.new (hw.free ht))
    have hm : ∃ m : Nat, v = .int (m : Int) ∧ m ≤ 6 := by
      rcases List.mem_cons.mp hv with rfl | hv
      · exact ⟨0, rfl, by decide⟩
      rcases List.mem_cons.mp hv with rfl | hv
      · exact ⟨1, rfl, by decide⟩
      rcases List.mem_cons.mp hv with rfl | hv
      · exact ⟨1, rfl, by decide⟩
      · rw [List.mem_singleton.mp hv]
        exact ⟨6, rfl, by decide⟩
    obtain ⟨m, rfl, hm6⟩ := hm
    refine ⟨(m : Int), rfl, by omega, by omega, ?_⟩
    rw [Int.toNat_natCast]
    refine for_range (lo := 0) (n := m) (fun i σ H' => Wl 2 a l R H' ∧ ∃ (x : Int) (v : Option V), σ = [some (.ref a), some (.int x), v]) ⟨w2, 0, none, rfl⟩ (fun i σ H' hi y => ?_) (fun σ H' y => ?_)
    · obtain ⟨w3, x, v, rfl⟩ := y
      refine ⟨_, rfl, _, _, rfl, rfl, ⟨by decide, by decide, by decide⟩, _, _, rfl, rfl, .inr ⟨by decide, by decide⟩, _, rfl, _, rfl, _, _, rfl, rfl, ⟨by decide, by decide, by decide⟩, by show 3 ≤ sizeLine; decide, fun u hu => ?_⟩
      have w4 := w3.new (o := .lst [V.int 2, .int 60, .int (10 ^ (6 : Int).toNat)]) hu
      refine ⟨a, l, u, _, [V.int 2, .int 60, .int (10 ^ (6 : Int).toNat)], rfl, w4, sq_of upd_same, by simp, by show 3 ≤ 100; decide, fun v2 H4 hv2 w5' => ?_⟩
      have w5 := w5'.weak (Ex.new (w3.free hu))
      have hb : ∃ b : Int, v2 = .int b ∧ 0 < b ∧ b < 2 ^ 500 := by
        rcases List.mem_cons.mp hv2 with rfl | hv2
        · exact ⟨2, rfl, by decide, by decide⟩
        rcases List.mem_cons.mp hv2 with rfl | hv2
        · exact ⟨60, rfl, by decide, by decide⟩
        · rw [List.mem_singleton.mp hv2]
          exact ⟨_, rfl, by decide, by decide⟩
      obtain ⟨b, rfl, b0, b1⟩ := hb
      exact ⟨a, l, R, b, rfl, w5, b0, log_lt b0 b1, fun r H5 r0 r1 w6 => ⟨_, _, rfl, rfl, w6, _, _, rfl⟩⟩
    · obtain ⟨w3, x, v, rfl⟩ := y
      refine ⟨_, rfl, a, l, R, 2, rfl, w3, by decide, log_lt (by decide) (by decide), fun r H4 r0 r1 w4 => ⟨rfl, _, rfl, ?_⟩⟩
      rw [dec_int]
      by_cases c : r = 0
      · rw [c]
        exact iteT ⟨_, rfl, k _ _ w4⟩
      · rw [beq_eq_false_iff_ne.mpr c]
        exact iteF ⟨_, rfl, _, _, rfl, rfl, k _ _ w4⟩
end
end K60

namespace K60
open PySem PySem.Spec PyProof.Rows L2 Evl Own
def sumF (f : Nat → Int) : Nat → Int
  | 0 => 0
  | n + 1 => sumF f n + f n
theorem sumF_congr {f g : Nat → Int} : ∀ n, (∀ i, i < n → f i = g i) → sumF f n = sumF g n
  | 0, _ => rfl
  | n + 1, h => by
    show sumF f n + f n = sumF g n + g n
    rw [sumF_congr n fun i hi => h i (by omega), h n (by omega)]
theorem sumF_shift (f : Nat → Int) : ∀ n, sumF f (n + 1) = f 0 + sumF (fun i => f (i + 1)) n
  | 0 => by
    show 0 + f 0 = f 0 + 0
    omega
  | n + 1 => by
    show sumF f (n + 1) + f (n + 1) = f 0 + (sumF (fun i => f (i + 1)) n + f (n + 1))
    rw [sumF_shift f n]
    omega
theorem sumF_add (f g : Nat → Int) : ∀ n, sumF (fun i => f i + g i) n = sumF f n + sumF g n
  | 0 => rfl
  | n + 1 => by
    show sumF _ n + (f n + g n) = sumF f n + f n + (sumF g n + g n)
    rw [sumF_add f g n]
    omega
theorem sumF_mul (c : Int) (f : Nat → Int) : ∀ n, sumF (fun i => c * f i) n = c * sumF f n
  | 0 => by
    show (0 : Int) = c * 0
    rw [Int.mul_zero]
  | n + 1 => by
    show sumF _ n + c * f n = c * (sumF f n + f n)
    rw [sumF_mul c f n, Int.mul_add]
theorem sumF_swap (f : Nat → Nat → Int) (m : Nat) : ∀ n, sumF (fun i => sumF (fun j => f i j) m) n = sumF (fun j => sumF (fun i => f i j) n) m
  | 0 => by
    show (0 : Int) = sumF (fun j => 0) m
    induction m with
    | zero => rfl
    | succ m ih => show 0 = sumF (fun j => 0) m + 0; rw [← ih]; rfl
  | n + 1 => by
    show sumF _ n + sumF (fun j => f n j) m = sumF (fun j => sumF (fun i => f i j) n + f n j) m
    rw [sumF_add, sumF_swap f m n]
theorem sumF_tail (f : Nat → Int) (m : Nat) : ∀ k, (∀ i, m ≤ i → i < m + k → f i = 0) → sumF f (m + k) = sumF f m
  | 0, _ => rfl
  | k + 1, h => by
    show sumF f (m + k) + f (m + k) = _
    rw [sumF_tail f m k (fun i h1 h2 => h i h1 (by omega)), h _ (by omega) (by omega), Int.add_zero]
theorem sum_F : ∀ ns : List Int, ns.sum = sumF (fun i => ns.getD i 0) ns.length
  | [] => rfl
  | a :: r => by
    rw [List.sum_cons, sum_F r, List.length_cons, sumF_shift]
    rfl
/-! ### the finite looks -/
theorem told_lead {s : Srt} {n j i : Nat} (hn : n ≤ 24) (hj : j < cnt s n) (hi : i ≤ j) : (toldR s n j).getD (i * s.step) 0 = if i = j then 1 else 0 := by
  have : chkR (fun s n j => (List.range (j + 1)).all fun i => decide ((toldR s n j).getD (i * s.step) 0 = if i = j then 1 else 0)) = true := by decide +kernel
  exact of_decide_eq_true (List.all_eq_true.mp (chkR_ok this hn hj) i (List.mem_range.mpr (by omega)))
theorem told_tops {s : Srt} {n j : Nat} (hn : n ≤ s.bound) (hj : j < cnt s n) : topsR s.q n (toldR s n j) (n + 1) = (toldR s n j).map fun x => s.q ^ (n / 2) * x := by
  have : chkR (fun s n j => decide (n ≤ s.bound → topsR s.q n (toldR s n j) (n + 1) = (toldR s n j).map fun x => s.q ^ (n / 2) * x)) = true := by decide +kernel
  have b := s.bound_le
  exact of_decide_eq_true (chkR_ok this (by omega) hj) hn
theorem told_sum {s : Srt} {n j : Nat} (hn : n ≤ 24) (hj : j < cnt s n) : (toldR s n j).sum = if j = 0 then s.q ^ (n / 2) else 0 := by
  have : chkR (fun s n j => decide ((toldR s n j).sum = if j = 0 then s.q ^ (n / 2) else 0)) = true := by decide +kernel
  exact of_decide_eq_true (chkR_ok this hn hj)
/-! ### what is made, its numbers -/
theorem made_at (s : Srt) (n : Nat) (ns : List Int) (i : Nat) (hi : i ≤ n) : ∀ k, (madeF s n ns k).getD i 0 = sumF (fun j => ns.getD j 0 * (toldR s n j).getD i 0) k
  | 0 => by
    show (List.replicate (n + 1) (0 : Int)).getD i 0 = 0
    rw [List.getD_eq_getElem?_getD, List.getElem?_replicate]
    split <;> rfl
  | k + 1 => by
    show (adl (madeF s n ns k) (ns.getD k 0) (toldR s n k)).getD i 0 = _
    rw [adl_at _ _ _ (by rw [madeF_len]; omega), made_at s n ns i hi k]
    rfl
def nuF (s : Srt) (n : Nat) (xs : List Int) (k : Nat) : Int := (numF s n xs k).1.getD (k * s.step) 0
theorem num_list (s : Srt) (n : Nat) (xs : List Int) : ∀ k, (numF s n xs k).2 = (List.range k).map (nuF s n xs)
  | 0 => rfl
  | k + 1 => by
    show (numF s n xs k).2 ++ [nuF s n xs k] = _
    rw [num_list s n xs k, List.range_succ, List.map_append]
    rfl
theorem num_left (s : Srt) (n : Nat) (xs : List Int) (i : Nat) (hi : i < xs.length) : ∀ k, (numF s n xs k).1.getD i 0 = xs.getD i 0 - sumF (fun j => nuF s n xs j * (toldR s n j).getD i 0) k
  | 0 => by
    show xs.getD i 0 = xs.getD i 0 - 0
    omega
  | k + 1 => by
    show (adl (numF s n xs k).1 (-(nuF s n xs k)) (toldR s n k)).getD i 0 = _
    rw [adl_at _ _ _ (by rw [(numF_len s n xs k).1]; exact hi), num_left s n xs i hi k]
    show _ = xs.getD i 0 - (sumF _ k + nuF s n xs k * (toldR s n k).getD i 0)
    rw [Int.neg_mul]
    omega
theorem nu_made {s : Srt} {n : Nat} {ns : List Int} (hn : n ≤ 24) : ∀ k, k < cnt s n → nuF s n (madeF s n ns (cnt s n)) k = ns.getD k 0 := by
  intro k
  induction k using Nat.strongRecOn with
  | ind k ih =>
    intro hk
    have ok := cnt_ok hk
    have ib : k * s.step ≤ n := by
      have : k * s.step ≤ k * s.great := Nat.mul_le_mul_left _ (by cases s <;> decide)
      omega
    unfold nuF
    rw [num_left _ _ _ _ (by rw [madeF_len]; omega), made_at s n ns _ ib]
    have e1 : sumF (fun j => nuF s n (madeF s n ns (cnt s n)) j * (toldR s n j).getD (k * s.step) 0) k = sumF (fun j => ns.getD j 0 * (toldR s n j).getD (k * s.step) 0) k := sumF_congr _ fun j hj => by rw [ih j hj (by omega)]
    rw [e1]
    have e2 : sumF (fun j => ns.getD j 0 * (toldR s n j).getD (k * s.step) 0) (cnt s n) = sumF (fun j => ns.getD j 0 * (toldR s n j).getD (k * s.step) 0) (k + 1) := by
      have := sumF_tail (fun j => ns.getD j 0 * (toldR s n j).getD (k * s.step) 0) (k + 1) (cnt s n - (k + 1)) fun i h1 h2 => by
        rw [told_lead hn (by omega) (show k ≤ i by omega), if_neg (by omega), Int.mul_zero]
      rw [show k + 1 + (cnt s n - (k + 1)) = cnt s n by omega] at this
      exact this
    rw [e2]
    show sumF _ k + ns.getD k 0 * (toldR s n k).getD (k * s.step) 0 - _ = _
    rw [told_lead hn hk (Nat.le_refl _), if_pos rfl, Int.mul_one]
    omega
theorem num_made {s : Srt} {n : Nat} {ns : List Int} (hn : n ≤ 24) (hl : ns.length = cnt s n) : (numF s n (madeF s n ns (cnt s n)) (cnt s n)).1 = List.replicate (n + 1) 0 ∧ (numF s n (madeF s n ns (cnt s n)) (cnt s n)).2 = ns := by
  constructor
  · apply ext_getD (d := 0)
    · rw [(numF_len ..).1, madeF_len, List.length_replicate]
    · intro i hi
      rw [(numF_len ..).1, madeF_len] at hi
      rw [num_left _ _ _ _ (by rw [madeF_len]; exact hi), made_at s n ns i (by omega)]
      have e1 : sumF (fun j => nuF s n (madeF s n ns (cnt s n)) j * (toldR s n j).getD i 0) (cnt s n) = sumF (fun j => ns.getD j 0 * (toldR s n j).getD i 0) (cnt s n) := sumF_congr _ fun j hj => by rw [nu_made hn j hj]
      rw [e1, Int.sub_self, List.getD_eq_getElem?_getD, List.getElem?_replicate]
      split <;> rfl
  · rw [num_list]
    apply ext_getD (d := 0)
    · rw [List.length_map, List.length_range, hl]
    · intro i hi
      rw [List.length_map, List.length_range] at hi
      rw [getD_rangeMap _ hi, nu_made hn i hi]
theorem made_num {s : Srt} {n : Nat} {xs : List Int} (hl : xs.length = n + 1) (h : (numF s n xs (cnt s n)).1 = List.replicate (n + 1) 0) : madeF s n (numF s n xs (cnt s n)).2 (cnt s n) = xs := by
  apply ext_getD (d := 0)
  · rw [madeF_len, hl]
  · intro i hi
    rw [madeF_len] at hi
    rw [made_at s n _ i (by omega), num_list]
    have z := num_left s n xs i (by omega) (cnt s n)
    rw [h, List.getD_eq_getElem?_getD, List.getElem?_replicate] at z
    have z0 : ((if i < n + 1 then some (0 : Int) else none).getD 0) = 0 := by split <;> rfl
    rw [z0] at z
    have e1 : sumF (fun j => ((List.range (cnt s n)).map (nuF s n xs)).getD j 0 * (toldR s n j).getD i 0) (cnt s n) = sumF (fun j => nuF s n xs j * (toldR s n j).getD i 0) (cnt s n) := sumF_congr _ fun j hj => by rw [getD_rangeMap _ hj]
    rw [e1]
    omega
/-! ### what is told of what is made -/
theorem topsL_at (q : Int) (n : Nat) (ns : List Int) (k : Nat) (hk : k < n + 1) : ∀ x, (topsR q n ns x).getD k 0 = sumF (fun x => ns.getD x 0 * (stepRow q x n).getD k 0) x
  | 0 => by
    show (List.replicate (n + 1) (0 : Int)).getD k 0 = 0
    rw [List.getD_eq_getElem?_getD, List.getElem?_replicate, if_pos hk]
    rfl
  | x + 1 => by
    show (addTo (topsR q n ns x) (stepRow q x n) (ns.getD x 0) (n + 1)).getD k 0 = _
    rw [addTo_at (by rw [tops_len]; exact hk), if_pos hk, topsL_at q n ns k hk x]
    rfl
theorem getD_mapI (f : Int → Int) (h0 : f 0 = 0) (xs : List Int) (i : Nat) : (xs.map f).getD i 0 = f (xs.getD i 0) := by
  rw [List.getD_eq_getElem?_getD, List.getElem?_map, List.getD_eq_getElem?_getD]
  cases xs[i]? with
  | none => exact h0.symm
  | some v => rfl
theorem made_tops {s : Srt} {n : Nat} {ns : List Int} (hn : n ≤ s.bound) : topsR s.q n (madeF s n ns (cnt s n)) (n + 1) = (madeF s n ns (cnt s n)).map fun x => s.q ^ (n / 2) * x := by
  apply ext_getD (d := 0)
  · rw [tops_len, List.length_map, madeF_len]
  · intro k hk
    rw [tops_len] at hk
    rw [topsL_at _ _ _ k hk, getD_mapI _ (Int.mul_zero _), made_at s n ns k (by omega), ← sumF_mul]
    have e1 : sumF (fun x => (madeF s n ns (cnt s n)).getD x 0 * (stepRow s.q x n).getD k 0) (n + 1) = sumF (fun x => sumF (fun j => ns.getD j 0 * ((toldR s n j).getD x 0 * (stepRow s.q x n).getD k 0)) (cnt s n)) (n + 1) := by
      refine sumF_congr _ fun x hx => ?_
      rw [made_at s n ns x (by omega), Int.mul_comm, ← sumF_mul]
      refine sumF_congr _ fun j _ => ?_
      rw [Int.mul_left_comm, Int.mul_comm (stepRow _ _ _ |>.getD k 0)]
    rw [e1, sumF_swap]
    refine sumF_congr _ fun j hj => ?_
    rw [sumF_mul]
    have e2 : sumF (fun x => (toldR s n j).getD x 0 * (stepRow s.q x n).getD k 0) (n + 1) = s.q ^ (n / 2) * (toldR s n j).getD k 0 := by
      rw [← topsL_at s.q n (toldR s n j) k hk, told_tops hn hj, getD_mapI _ (Int.mul_zero _)]
    rw [e2, Int.mul_left_comm]
theorem made_sum {s : Srt} {n : Nat} {ns : List Int} (hn : n ≤ 24) (hc : 0 < cnt s n) : (madeF s n ns (cnt s n)).sum = ns.getD 0 0 * s.q ^ (n / 2) := by
  rw [sum_F, madeF_len]
  have e1 : sumF (fun i => (madeF s n ns (cnt s n)).getD i 0) (n + 1) = sumF (fun i => sumF (fun j => ns.getD j 0 * (toldR s n j).getD i 0) (cnt s n)) (n + 1) := sumF_congr _ fun i hi => made_at s n ns i (by omega) _
  rw [e1, sumF_swap]
  have e2 : sumF (fun j => sumF (fun i => ns.getD j 0 * (toldR s n j).getD i 0) (n + 1)) (cnt s n) = sumF (fun j => if j = 0 then ns.getD 0 0 * s.q ^ (n / 2) else 0) (cnt s n) := by
    refine sumF_congr _ fun j hj => ?_
    have ok := cnt_ok hj
    have e3 : sumF (fun i => (toldR s n j).getD i 0) (n + 1) = (toldR s n j).sum := by rw [sum_F, toldR_len s n j ok.1 ok.2]
    rw [sumF_mul, e3, told_sum hn hj]
    by_cases c : j = 0
    · subst c
      rw [if_pos rfl, if_pos rfl]
    · rw [if_neg c, if_neg c, Int.mul_zero]
  rw [e2]
  have := sumF_tail (fun j => if j = 0 then ns.getD 0 0 * s.q ^ (n / 2) else 0) 1 (cnt s n - 1) fun i h1 _ => by rw [if_neg (by omega)]
  rw [show 1 + (cnt s n - 1) = cnt s n by omega] at this
  rw [this]
  show 0 + (if 0 = 0 then _ else _) = _
  rw [if_pos rfl, Int.zero_add]
theorem frac_scale {Q b x : Int} (hQ : 0 < Q) (hb : 0 < b) : frac (b * Q) (Q * x) = frac b x := by
  have g : gcdI (Q * x) (b * Q) = Q * gcdI x b := by
    unfold gcdI
    rw [Int.natAbs_mul, Int.natAbs_mul, Nat.mul_comm b.natAbs, Nat.gcd_mul_left, Int.natCast_mul]
    rw [show ((Q.natAbs : Nat) : Int) = Q by omega]
  have gp := (gcd_pos (t := x) hb).1
  unfold frac
  rw [g, Int.mul_ediv_mul_of_pos _ _ hQ, Int.mul_comm b, Int.mul_ediv_mul_of_pos _ _ hQ]
theorem made_told {s : Srt} {n : Nat} {ns : List Int} (hn : n ≤ s.bound) (hc : 0 < cnt s n) (h0 : 0 < ns.getD 0 0) : (topsR s.q n (madeF s n ns (cnt s n)) (n + 1)).map (frac (madeF s n ns (cnt s n)).sum) = (madeF s n ns (cnt s n)).map (frac (ns.getD 0 0)) := by
  have b := s.bound_le
  rw [made_tops hn, made_sum (by omega) hc, List.map_map]
  apply List.map_congr_left
  intro x _
  exact frac_scale (Int.pow_pos (by cases s <;> decide)) h0
end K60

namespace K60
open PySem PySem.Spec PyProof.Rows L2 Evl Own
theorem kb_told_top_length_sort {K : PySem.W.Frag} {f : Addr} {fd : FuncData} (F : FnP K "told_top" s_told_top f fd) : KBinds K fd ["sort", "length"] ["length", "sort"] (pick 2 [1, 0]) (pick 2 [1, 0]) := kb_of 2 [1, 0] F (by decide) (fun kV doc pm an cdv ct ws hw => match ws, hw with | [w0, w1], _ => rfl)
theorem kb_told_row_j_sort_length {K : PySem.W.Frag} {f : Addr} {fd : FuncData} (F : FnP K "told_row" s_told_row f fd) : KBinds K fd ["sort", "length", "j"] ["j", "sort", "length"] (pick 3 [1, 2, 0]) (pick 3 [1, 2, 0]) := kb_of 3 [1, 2, 0] F (by decide) (fun kV doc pm an cdv ct ws hw => match ws, hw with | [w0, w1, w2], _ => rfl)
theorem kb_told_numbers_counts_length_sort {K : PySem.W.Frag} {f : Addr} {fd : FuncData} (F : FnP K "told_numbers" s_told_numbers f fd) : KBinds K fd ["sort", "length", "counts"] ["counts", "length", "sort"] (pick 3 [2, 1, 0]) (pick 3 [2, 1, 0]) := kb_of 3 [2, 1, 0] F (by decide) (fun kV doc pm an cdv ct ws hw => match ws, hw with | [w0, w1, w2], _ => rfl)
theorem kb_made_of_told_numbers_sort_length {K : PySem.W.Frag} {f : Addr} {fd : FuncData} (F : FnP K "made_of_told" s_made_of_told f fd) : KBinds K fd ["sort", "length", "numbers"] ["numbers", "sort", "length"] (pick 3 [1, 2, 0]) (pick 3 [1, 2, 0]) := kb_of 3 [1, 2, 0] F (by decide) (fun kV doc pm an cdv ct ws hw => match ws, hw with | [w0, w1, w2], _ => rfl)
def spRowsR : Sp := fun vs H Q _ => ∃ (s : Srt) (n : Nat), vs = [.str s.s, .int (n : Int)] ∧ n ≤ 24 ∧ ∀ H', Ex H H' → Q (.bl true) H'
def spSpoilt (K : PySem.W.Frag) : Sp := fun vs H Q _ => ∃ (a l : Addr) (R : Hp) (s : Srt) (n : Nat) (p : Addr) (xs : List Int), vs = [.ref a, .str s.s, .int (n : Int), .ref p] ∧ Wl 2 a l R H ∧ n ≤ 24 ∧ Tp K R p (xs.map V.int) ∧ xs.length = n + 1 ∧
  ∀ (g : Addr) (es : List Addr) (xss : List (List Int)) (R1 H1 : Hp), Ex R R1 → Wl 2 a l R1 H1 → R1 g = some (.lst (es.map V.ref)) → LstG iL K R1 es xss → (∀ ys ∈ xss, ys.length = n + 1) → xss.length ≤ 100 → Q (.ref g) H1
section
variable {P : Program} {w : World} {K : PySem.W.Frag} {mg : Str → Option Value} {base : Heap} {f : Addr} {fd : FuncData}
theorem ok__law_rows_are_right (F : FnP K "_law_rows_are_right" s__law_rows_are_right f fd) (Z : Zs mg) (G__law_top : Fn P w K mg base CX0 2 "_law_top" s__law_top ["sort", "length"] spLTop) (G_told_top : Fn P w K mg base CX0 2 "told_top" s_told_top ["sort", "length"] spTop) (G__law_told : Fn P w K mg base CX0 2 "_law_told" s__law_told ["sort", "length", "j"] (spRow K))
    (G_told_row : Fn P w K mg base CX0 3 "told_row" s_told_row ["sort", "length", "j"] (spRow K)) (G__law_same : Fn P w K mg base CX0 4 "_law_same" s__law_same ["told", "due"] (spSame K 2)) : FnOk P w K mg base CX0 5 f fd ["sort", "length"] spRowsR := by
  refine F.ok sc__law_rows_are_right (fun vs H Q E h => ?_) (fun cdv A outer s H vs Q E hr h => ⟨_, PSs.nox (pss_cons (ps_set (i := 2) sc__law_rows_are_right.nd rfl (by first | exact Or.inl rfl | exact Or.inr rfl) (pe_callF G__law_top (hr.mono (by decide)) rfl pass0 (pa_cons (pv 0) (pa_cons (pv 1) pa_nil))))
  (pss_cons (ps_if (PW.pt (pw_or (pt_not (pt_val (pe_callF G__law_same (hr.mono (by decide)) rfl pass0 (pa_cons (pe_callF G_told_top (hr.mono (by decide)) rfl pass0 (pa_cons (pv 0) (pa_cons (pv 1) pa_nil))) (pa_cons (pv 2) pa_nil))))) (pw_or1 (pt_not (pt_val (pe_callF G__law_same (hr.mono (by decide)) rfl pass0 (pa_cons (pe_call0KF G_told_top (hr.mono (by decide)) kb_told_top_length_sort pass0 (pk_cons (pv 1) (pk_cons (pv 0) pk_nil))) (pa_cons (pv 2) pa_nil)))))))) (pss_one (ps_ret pe_bl)) pss_nil)
  (pss_cons (ps_for PassesOwn.never rfl (pi_range1 (by rfl) Z.range (pa_cons (pe_op op_add (pv 2) pe_int) pa_nil)) (pg_name (i := 3) sc__law_rows_are_right.nd rfl (by first | exact Or.inl rfl | exact Or.inr rfl)) (pss_cons (ps_set (i := 4) sc__law_rows_are_right.nd rfl (by first | exact Or.inl rfl | exact Or.inr rfl) (pe_callF G__law_told (hr.mono (by decide)) rfl pass0 (pa_cons (pv 0) (pa_cons (pv 1) (pa_cons (pv 3) pa_nil)))))
  (pss_one (ps_if (PW.pt (pw_or (pt_not (pt_val (pe_callF G__law_same (hr.mono (by decide)) rfl pass0 (pa_cons (pe_callF G_told_row (hr.mono (by decide)) rfl pass0 (pa_cons (pv 0) (pa_cons (pv 1) (pa_cons (pv 3) pa_nil)))) (pa_cons (pv 4) pa_nil))))) (pw_or1 (pt_not (pt_val (pe_callF G__law_same (hr.mono (by decide)) rfl pass0 (pa_cons (pe_call0KF G_told_row (hr.mono (by decide)) kb_told_row_j_sort_length pass0 (pk_cons (pv 3) (pk_cons (pv 0) (pk_cons (pv 1) pk_nil)))) (pa_cons (pv 4) pa_nil)))))))) (pss_one (ps_ret pe_bl)) pss_nil))))
  (pss_one (ps_ret pe_bl))))), ?_⟩)
  · obtain ⟨s, n, rfl, _⟩ := h
    rfl
  · obtain ⟨s, n, rfl, hn, k⟩ := h
    have cl := cnt_le s n hn
    refine ⟨_, rfl, _, rfl, s, n, rfl, fun H1 e1 => ?_⟩
    refine ⟨_, rfl, _, rfl, s, n, rfl, _, rfl, _, _, rfl, Sm.scal rfl 2, fun H2 e2 => ⟨_, rfl, iteF ?_⟩⟩
    refine ⟨_, rfl, _, rfl, s, n, rfl, _, rfl, _, _, rfl, Sm.scal rfl 2, fun H3 e3 => ⟨_, rfl, iteF ?_⟩⟩
    refine ⟨_, rfl, _, _, rfl, rfl, (cnt s n : Int), by simp, by omega, by omega, ?_⟩
    rw [Int.toNat_natCast]
    refine for_range (lo := 0) (n := cnt s n) (fun i σ H' => Ex H H' ∧ ∃ v3 v4, σ = [some (.str s.s), some (.int (n : Int)), some (.int ((cnt s n : Int) - 1)), v3, v4]) ⟨e1.trans (e2.trans e3), none, none, rfl⟩ (fun i σ H' hi y => ?_) (fun σ H' y => ?_)
    · obtain ⟨ex, v3, v4, rfl⟩ := y
      have e0 : (0 : Int) + (i : Int) = (i : Int) := by omega
      show gName _ (V.int ((0 : Int) + (i : Int))) _ _ _
      rw [e0]
      have ok := cnt_ok hi
      have tl := toldR_len s n i ok.1 ok.2
      refine ⟨_, rfl, _, rfl, _, rfl, s, n, i, rfl, hn, hi, fun d H4 e4 hd => ?_⟩
      refine ⟨_, rfl, _, rfl, _, rfl, s, n, i, rfl, hn, hi, fun g H5 e5 hg => ⟨_, rfl, _, _, rfl, .tup hg (hd.ex e5) (scal_ints _) (by rw [List.length_map]; omega) 1, fun H6 e6 => ⟨_, rfl, iteF ?_⟩⟩⟩
      have e46 := e5.trans e6
      refine ⟨_, rfl, _, rfl, _, rfl, s, n, i, rfl, hn, hi, fun g2 H7 e7 hg2 => ⟨_, rfl, _, _, rfl, .tup hg2 (hd.ex (e46.trans e7)) (scal_ints _) (by rw [List.length_map]; omega) 1, fun H8 e8 => ⟨_, rfl, iteF ?_⟩⟩⟩
      exact ⟨ex.trans (e4.trans (e46.trans (e7.trans e8))), _, _, rfl⟩
    · obtain ⟨ex, v3, v4, rfl⟩ := y
      exact k _ ex
theorem set_len {ys : List Int} {j : Nat} {v : Int} {m : Nat} (h : ys.length = m) : (ys.set j v).length = m := by rw [List.length_set]; exact h
theorem ok__law_spoilt (F : FnP K "_law_spoilt" s__law_spoilt f fd) (Z : Zs mg) (G__law_any : Fn P w K mg base CX0 1 "_law_any" s__law_any ["deal", "bound"] (spAny 2)) (G__law_of : Fn P w K mg base CX0 2 "_law_of" s__law_of ["deal", "some"] (spOf 2 K)) (G__law_top : Fn P w K mg base CX0 2 "_law_top" s__law_top ["sort", "length"] spLTop)
    (G__law_made : Fn P w K mg base CX0 3 "_law_made" s__law_made ["sort", "length", "numbers"] (spLMade K)) : FnOk P w K mg base CX0 4 f fd ["deal", "sort", "length", "row"] (spSpoilt K) := by
  refine F.ok sc__law_spoilt (fun vs H Q E h => ?_) (fun cdv A outer s H vs Q E hr h => ⟨_, PSs.nox (pss_cons (ps_set (i := 4) sc__law_spoilt.nd rfl (by first | exact Or.inl rfl | exact Or.inr rfl) (pe_lst pa_nil))
  (pss_cons (ps_for PassesOwn.never rfl (pi_range1 (by rfl) Z.range (pa_cons pe_int pa_nil)) (pg_name (i := 5) sc__law_spoilt.nd rfl (by first | exact Or.inl rfl | exact Or.inr rfl)) (pss_cons (ps_setLc (i := 6) (own := [("one", 7)]) (g := (gName 7)) rfl sc__law_spoilt.nd rfl rfl (sw_true rfl rfl rfl (by decide +kernel)) (pi_tup (pv 3)) (blkOk_by (own := [("one", 7)]) (N := ["deal", "sort", "length", "row", "some", "turn", "other", "one", "place", "at", "odd", "more", "j"]) (sc := defScope s__law_spoilt) (by decide +kernel)) (fun _ _ _ _ _ => (pg_name (i := 7) sc__law_spoilt.nd rfl (Or.inl rfl))) (fun _ _ _ _ _ => pts_nil) (fun _ _ _ _ _ => (pv 7)))
  (pss_cons (ps_for PassesOwn.never rfl (pi_range1 (by rfl) Z.range (pa_cons (pe_op op_add pe_int (pe_callF G__law_any (hr.mono (by decide)) rfl pass0 (pa_cons (pv 0) (pa_cons pe_int pa_nil)))) pa_nil)) (pg_name (i := 8) sc__law_spoilt.nd rfl (by first | exact Or.inl rfl | exact Or.inr rfl)) (pss_cons (ps_set (i := 9) sc__law_spoilt.nd rfl (by first | exact Or.inl rfl | exact Or.inr rfl) (pe_callF G__law_any (hr.mono (by decide)) rfl pass0 (pa_cons (pv 0) (pa_cons (pe_op op_add (pv 2) pe_int) pa_nil))))
  (pss_one (ps_asg (pe_op op_add (pe_ix (kx_list (K := K)) (pv 6) (pv 9) (fun _ _ => rfl)) (pe_callF G__law_of (hr.mono (by decide)) rfl pass0 (pa_cons (pv 0) (pa_cons (pe_lst (pa_cons pe_int (pa_cons (pe_op op_sub pe_int pe_int) (pa_cons (pe_op op_pow pe_int pe_int) (pa_cons (pe_op op_add pe_int (pe_callF G__law_any (hr.mono (by decide)) rfl pass0 (pa_cons (pv 0) (pa_cons pe_int pa_nil)))) pa_nil))))) pa_nil)))) (pg_sub (pv 6) (pv 9) set_list)))))
  (pss_one (ps_expr (km_bm (K := K) PySem.F.plainAttrs_list PySem.F.slot_list_append PySem.F.type_list_append mt_append (pv 4) (pa_cons (pe_callTy (kc_tuple (K := K)) (by rfl) Z.tuple (by decide +kernel) (pa_cons (pv 6) pa_nil)) pa_nil)))))))
  (pss_cons (ps_setLc (i := 10) (own := [("one", 7)]) (g := (gName 7)) rfl sc__law_spoilt.nd rfl rfl (sw_true rfl rfl rfl (by decide +kernel)) (pi_tup (pv 3)) (blkOk_by (own := [("one", 7)]) (N := ["deal", "sort", "length", "row", "some", "turn", "other", "one", "place", "at", "odd", "more", "j"]) (sc := defScope s__law_spoilt) (by decide +kernel)) (fun _ _ _ _ _ => (pg_name (i := 7) sc__law_spoilt.nd rfl (Or.inl rfl))) (fun _ _ _ _ _ => pts_nil) (fun _ _ _ _ _ => (pv 7)))
  (pss_cons (ps_asg (pe_op op_add (pe_ix (kx_list (K := K)) (pv 10) (pv 2) (fun _ _ => rfl)) pe_int) (pg_sub (pv 10) (pv 2) set_list))
  (pss_cons (ps_set (i := 11) sc__law_spoilt.nd rfl (by first | exact Or.inl rfl | exact Or.inr rfl) (pe_callF G__law_made (hr.mono (by decide)) rfl pass0 (pa_cons (pv 1) (pa_cons (pv 2) (pa_cons (pe_lc (own := [("j", 12)]) (g := (gName 12)) rfl sc__law_spoilt.nd (pi_range1 (by rfl) Z.range (pa_cons (pe_op op_add (pe_callF G__law_top (hr.mono (by decide)) rfl pass0 (pa_cons (pv 1) (pa_cons (pv 2) pa_nil))) pe_int) pa_nil)) (blkOk_by (own := [("j", 12)]) (N := ["deal", "sort", "length", "row", "some", "turn", "other", "one", "place", "at", "odd", "more", "j"]) (sc := defScope s__law_spoilt) (by decide +kernel)) (fun _ _ _ _ _ => (pg_name (i := 12) sc__law_spoilt.nd rfl (Or.inl rfl))) (fun _ _ _ _ _ => pts_nil) (fun _ _ _ _ _ => (pe_op op_sub (pe_callF G__law_any (hr.mono (by decide)) rfl pass0 (pa_cons (pv 0) (pa_cons pe_int pa_nil))) pe_int))) pa_nil)))))
  (pss_one (ps_ret (pe_op op_cat (pv 4) (pe_lst (pa_cons (pe_callTy (kc_tuple (K := K)) (by rfl) Z.tuple (by decide +kernel) (pa_cons (pv 10) pa_nil)) (pa_cons (pe_callTy (kc_tuple (K := K)) (by rfl) Z.tuple (by decide +kernel) (pa_cons (pe_lc (own := [("one", 7), ("other", 6)]) (g := (gTup K 2 (gCons (gName 7) (gCons (gName 6) gNil)))) rfl sc__law_spoilt.nd (pi_zipB (by rfl) Z.zip (pa_cons (pv 3) (pa_cons (pv 11) pa_nil))) (blkOk_by (own := [("one", 7), ("other", 6)]) (N := ["deal", "sort", "length", "row", "some", "turn", "other", "one", "place", "at", "odd", "more", "j"]) (sc := defScope s__law_spoilt) (by decide +kernel)) (fun _ _ _ _ _ => (pg_tup rfl (pgs_cons (pg_name (i := 7) sc__law_spoilt.nd rfl (Or.inl rfl)) (pgs_cons (pg_name (i := 6) sc__law_spoilt.nd rfl (Or.inl rfl)) pgs_nil)))) (fun _ _ _ _ _ => pts_nil) (fun _ _ _ _ _ => (pe_op op_add (pv 7) (pv 6)))) pa_nil)) (pa_cons (pe_op (ko_rep (K := K)) (pe_tupF (pa_cons pe_int pa_nil)) (pe_op op_add (pv 2) pe_int)) (pa_cons (pe_op (ko_cat (K := K)) (pe_tupF (pa_cons pe_int pa_nil)) (pe_op (ko_rep (K := K)) (pe_tupF (pa_cons pe_int pa_nil)) (pv 2))) pa_nil))))))))))))), ?_⟩)
  · obtain ⟨a, l, R, s, n, p, xs, rfl, _⟩ := h
    rfl
  · obtain ⟨a, l, R, s, n, p, xs, rfl, hw, hn, hp, hl, k⟩ := h
    have cl := cnt_le s n hn
    refine ⟨by decide, fun S hS => ?_⟩
    have RS := hw.free hS
    have w1 := hw.new (o := .lst []) hS
    have e1 := Ex.new (o := .lst []) RS
    have s1 : upd R S (.lst []) S = some (.lst (([] : List Addr).map V.ref)) := upd_same
    generalize upd R S (.lst []) = R1 at w1 e1 s1
    generalize upd H S (.lst []) = H1 at w1 ⊢
    refine ⟨3, rfl, by decide, by decide, ?_⟩
    refine for_range (lo := 0) (n := 3) (fun i σ H' => ∃ (es : List Addr) (xss : List (List Int)) (R' : Hp) (v5 v6 v8 v9 : Option V), Ex R R' ∧ Wl 2 a l R' H' ∧ R' S = some (.lst (es.map V.ref)) ∧ LstG iL K R' es xss ∧ (∀ ys ∈ xss, ys.length = n + 1) ∧ xss.length = i ∧ σ = [some (.ref a), some (.str s.s), some (.int (n : Int)), some (.ref p), some (.ref S), v5, v6, none, v8, v9, none, none, none]) ⟨[], [], R1, none, none, none, none, e1, w1, s1, LstG.nil, by simp, rfl, rfl⟩ (fun i σ H' hi y => ?_) (fun σ H' y => ?_)
    · obtain ⟨es, xss, R', v5, v6, v8, v9, ex, w2, s2, lg, lens, xl, rfl⟩ := y
      have hp2 := (hp.ex ex).ex w2.ex
      refine ⟨_, rfl, p, rfl, ⟨_, hp2.sq⟩, lcP (walk_tup (xs := xs.map V.int)) (fun H' e => (hp2.ex e).sq) (by rw [List.length_map]; omega) (fun _ => true) (fun i => V.int (xs.getD i 0)) (fun i H2 x H3 hi e y K1 K0 k1 k0 => ?_) (fun D H2 hD e2 h2 => ?_)⟩
      · obtain ⟨rfl, g⟩ := y
        obtain ⟨rfl, _⟩ := int_at g
        exact ⟨rfl, yes_go ⟨_, rfl, k1 rfl _ (Ex.refl _)⟩⟩
      rw [given_all, List.length_map, range_map 0 V.int xs] at h2
      obtain ⟨R2, er2, w3, d3, RD⟩ := (show ∃ R1, Ex R' R1 ∧ Wl 2 a l R1 H2 ∧ R1 D = some (.lst (xs.map V.int)) ∧ R' D = none by
        obtain ⟨R1, e1, w1, m⟩ := w2.more e2
        have := w2.deal.off hD
        exact ⟨R1, e1, w1, m _ _ this.1 this.2 h2, w2.free hD⟩)
      have DS : D ≠ S := fun z => by
        rw [z, s2] at RD
        cases RD
      refine ⟨_, rfl, a, l, R2, 2, rfl, w3, by decide, log_lt (by decide) (by decide), fun r1 H3 r10 r11 w4 => ⟨_, _, rfl, rfl, 1 + r1, rfl, by omega, by omega, ?_⟩⟩
      refine for_range (lo := 0) (n := (1 + r1).toNat) (fun j σ H'' => ∃ (ys : List Int) (R3 : Hp) (v8 v9 : Option V), ys.length = n + 1 ∧ Ex R' R3 ∧ Wl 2 a l R3 H'' ∧ R3 D = some (.lst (ys.map V.int)) ∧ σ = [some (.ref a), some (.str s.s), some (.int (n : Int)), some (.ref p), some (.ref S), some (.int (0 + (i : Int))), some (.ref D), none, v8, v9, none, none, none]) ⟨xs, R2, v8, v9, hl, er2, w4, d3, rfl⟩ (fun j σ H'' hj y => ?_) (fun σ H'' y => ?_)
      · obtain ⟨ys, R3, v8, v9, yl, er3, w5, d5, rfl⟩ := y
        refine ⟨_, rfl, _, rfl, _, _, rfl, rfl, a, l, R3, _, rfl, w5, by omega, log_lt (by omega) (by omega), fun r2 H5 r20 r21 w6 => ?_⟩
        obtain ⟨m, rfl⟩ : ∃ m : Nat, r2 = (m : Int) := ⟨r2.toNat, by omega⟩
        have hm : m < ys.length := by omega
        refine ⟨_, rfl, _, rfl, D, _, _, _, rfl, rfl, sq_of (w6.ex _ _ d5), atI_int hm, _, rfl, _, _, rfl, rfl, _, _, rfl, rfl, ⟨by decide, by decide, by decide⟩, _, rfl, a, l, R3, 99, rfl, w6, by decide, log_lt (by decide) (by decide), fun r3 H6 r30 r31 w7 => ⟨_, _, rfl, rfl, by show 4 ≤ sizeLine; decide, fun u hu => ?_⟩⟩
        have w8 := w7.new (o := .lst [V.int 1, .int (0 - 1), .int (10 ^ (20 : Int).toNat), .int (1 + r3)]) hu
        refine ⟨a, l, u, _, [V.int 1, .int (0 - 1), .int (10 ^ (20 : Int).toNat), .int (1 + r3)], rfl, w8, sq_of upd_same, by simp, by show 4 ≤ 100; decide, fun v H8 hv w9' => ?_⟩
        have w9 := w9'.weak (Ex.new (w7.free hu))
        have hx : ∃ x : Int, v = .int x := by
          rcases List.mem_cons.mp hv with rfl | hv
          · exact ⟨_, rfl⟩
          rcases List.mem_cons.mp hv with rfl | hv
          · exact ⟨_, rfl⟩
          rcases List.mem_cons.mp hv with rfl | hv
          · exact ⟨_, rfl⟩
          · rw [List.mem_singleton.mp hv]
            exact ⟨_, rfl⟩
        obtain ⟨x, rfl⟩ := hx
        refine ⟨_, _, rfl, rfl, _, rfl, _, rfl, D, _, _, m, rfl, rfl, w9.ex _ _ d5, ixN_nat (by rw [List.length_map]; exact hm), ?_⟩
        rw [int_set]
        exact ⟨ys.set m (ys.getD m 0 + x), _, _, _, set_len yl, ex_side er3 RD, w9.mut d5, upd_same, rfl⟩
      · obtain ⟨ys, R3, v8, v9, yl, er3, w5, d5, rfl⟩ := y
        refine ⟨_, rfl, .inl ⟨rfl, _, sq_of (w5.ex _ _ (er3 _ _ s2))⟩, _, rfl, D, _, rfl, .inl ⟨sq_of (w5.ex _ _ d5), fun T o hT ho => ?_⟩⟩
        have w6 := w5.new (o := .frz o (.tup (ys.map V.int))) hT
        have eT := Ex.new (o := .frz o (.tup (ys.map V.int))) (w5.free hT)
        have tT : Tp K (upd R3 T (.frz o (.tup (ys.map V.int)))) T (iL ys) := Tp.of ho upd_same
        have er4 := er3.trans eT
        generalize upd R3 T (.frz o (.tup (ys.map V.int))) = R4 at w6 tT er4
        generalize upd H'' T (.frz o (.tup (ys.map V.int))) = H6 at w6 ⊢
        have s4 := er4 _ _ s2
        have lg4 := (lg.ex er4).push (f := iL) tT
        refine ⟨S, _, _, rfl, rfl, w6.ex _ _ s4, sz_lt (by rw [List.length_map, lg.len]; omega), ?_⟩
        have em : es.map V.ref ++ [V.ref T] = (es ++ [T]).map V.ref := by rw [List.map_append]; rfl
        rw [em]
        refine ⟨es ++ [T], xss ++ [ys], _, _, _, _, _, ex_side (ex.trans er4) RS, w6.mut s4, upd_same, lg4.mut s4, fun zs hz => ?_, by rw [List.length_append, xl]; rfl, rfl⟩
        rcases List.mem_append.mp hz with h | h
        · exact lens zs h
        · rw [List.mem_singleton.mp h]
          exact yl
    · obtain ⟨es, xss, R', v5, v6, v8, v9, ex, w2, s2, lg, lens, xl, rfl⟩ := y
      have hp2 := (hp.ex ex).ex w2.ex
      refine ⟨_, rfl, p, rfl, ⟨_, hp2.sq⟩, lcP (walk_tup (xs := xs.map V.int)) (fun H' e => (hp2.ex e).sq) (by rw [List.length_map]; omega) (fun _ => true) (fun i => V.int (xs.getD i 0)) (fun i H2 x H3 hi e y K1 K0 k1 k0 => ?_) (fun D H2 hD e2 h2 => ?_)⟩
      · obtain ⟨rfl, g⟩ := y
        obtain ⟨rfl, _⟩ := int_at g
        exact ⟨rfl, yes_go ⟨_, rfl, k1 rfl _ (Ex.refl _)⟩⟩
      rw [given_all, List.length_map, range_map 0 V.int xs] at h2
      obtain ⟨R2, er2, w3, d3, RD⟩ := (show ∃ R1, Ex R' R1 ∧ Wl 2 a l R1 H2 ∧ R1 D = some (.lst (xs.map V.int)) ∧ R' D = none by
        obtain ⟨R1, e1, w1, m⟩ := w2.more e2
        have := w2.deal.off hD
        exact ⟨R1, e1, w1, m _ _ this.1 this.2 h2, w2.free hD⟩)
      have nb : n < xs.length := by omega
      refine ⟨_, rfl, _, rfl, D, _, _, _, rfl, rfl, sq_of (w3.ex _ _ d3), atI_int nb, _, _, rfl, rfl, _, rfl, _, rfl, D, _, _, n, rfl, rfl, w3.ex _ _ d3, ixN_nat (by rw [List.length_map]; exact nb), ?_⟩
      rw [int_set]
      have w4 := w3.mut (o' := .lst ((xs.set n (xs.getD n 0 + 1)).map V.int)) d3
      have er4 := ex_side (o := .lst ((xs.set n (xs.getD n 0 + 1)).map V.int)) er2 RD
      have d4 : upd R2 D (.lst ((xs.set n (xs.getD n 0 + 1)).map V.int)) D = some (.lst ((xs.set n (xs.getD n 0 + 1)).map V.int)) := upd_same
      have ol : (xs.set n (xs.getD n 0 + 1)).length = n + 1 := set_len hl
      generalize upd R2 D (.lst ((xs.set n (xs.getD n 0 + 1)).map V.int)) = R4 at w4 er4 d4
      generalize upd H2 D (.lst ((xs.set n (xs.getD n 0 + 1)).map V.int)) = H4 at w4 ⊢
      generalize xs.set n (xs.getD n 0 + 1) = os at d4 ol
      refine ⟨_, rfl, _, rfl, _, rfl, _, rfl, s, n, rfl, fun H5 e5 => ⟨_, _, rfl, rfl, (cnt s n : Int), by simp, by omega, by omega, ?_⟩⟩
      rw [Int.toNat_natCast]
      have w5 := w4.keep e5
      refine lcW (fun i acc Rd => ∃ ns : List Int, acc = ns.map V.int ∧ ns.length = i ∧ i ≤ cnt s n) (walk_range (lo := 0)) w5 (fun D hD => ⟨[], rfl, rfl, by omega⟩) (fun _ _ _ _ => trivial) (fun i acc Rd st => ?_)
        (fun i D' acc Rd H6 x H7 hi ex' w6 hD hacc st y K1 K0 k1 k0 => ?_) (fun D' acc Rd H6 hD' ex' w6 hacc st => ?_)
      · obtain ⟨ns, rfl, h1, h2⟩ := st
        rw [List.length_map]
        omega
      · obtain ⟨rfl, rfl⟩ := y
        obtain ⟨ns, rfl, h1, h2⟩ := st
        exact ⟨rfl, yes_go ⟨_, rfl, a, l, Rd, 5, rfl, w6, by decide, log_lt (by decide) (by decide), fun r H8 r0 r1 w8 => ⟨_, _, rfl, rfl, k1 _ Rd H8 ex' w8 hacc ⟨ns ++ [r - 2], by rw [List.map_append]; rfl, by rw [List.length_append, h1]; rfl, by omega⟩⟩⟩⟩
      · obtain ⟨ns, rfl, h1, h2⟩ := st
        refine ⟨s, n, false, D', ns, rfl, hn, sqb_l (w6.ex _ _ hacc), h1, fun mo H7 e7 hmo => ?_⟩
        have ml := madeF_len s n ns (cnt s n)
        generalize madeF s n ns (cnt s n) = ms at hmo ml
        obtain ⟨R7, er7, w7, tm7⟩ := w6.tp e7 hmo
        have er := er4.trans (ex'.trans er7)
        have s7 := er _ _ s2
        have lg7 := lg.ex er
        have d7 := (ex'.trans er7) _ _ d4
        have hp7 := hp.ex (ex.trans er)
        clear hmo e7
        -- the last list
        refine ⟨_, rfl, _, rfl, D, _, rfl, .inl ⟨sq_of (w7.ex _ _ d7), fun T1 o1 hT1 ho1 => ?_⟩⟩
        have e8 := Ex.new (o := .frz o1 (.tup (os.map V.int))) hT1
        have t8 : Tp K (upd H7 T1 (.frz o1 (.tup (os.map V.int)))) T1 (iL os) := Tp.of ho1 upd_same
        generalize upd H7 T1 (.frz o1 (.tup (os.map V.int))) = H8 at e8 t8 ⊢
        have hp8 := (hp7.ex w7.ex).ex e8
        have tm8 := (tm7.ex w7.ex).ex e8
        refine ⟨_, rfl, _, rfl, p, mo, true, true, _, _, rfl, sqb_t hp8, sqb_t tm8, lcP (walk_zipB (n := n + 1) (by rw [List.length_map, List.length_map]; omega)) (fun H' e => ⟨sqb_t (hp8.ex e), sqb_t (tm8.ex e)⟩) (by omega) (fun _ => true) (fun i => V.int (xs.getD i 0 + ms.getD i 0)) (fun i H9 x H10 hi e y K1 K0 k1 k0 => ?_) (fun g2 H9 hg2 e9 h9 => ?_)⟩
        · obtain ⟨T, x1, y1, rfl, nT, rfl, q1, q2⟩ := y
          obtain ⟨rfl, _⟩ := int_at q1
          obtain ⟨rfl, _⟩ := int_at q2
          exact ⟨T, _, rfl, .inl (.inl upd_same), rfl, _, _, rfl, _, _, rfl, rfl, rfl, yes_go ⟨_, rfl, _, rfl, _, _, rfl, rfl, k1 rfl _ (Ex.new nT)⟩⟩
        rw [given_all] at h9
        have e91 : (List.range (n + 1)).map (fun i => V.int (xs.getD i 0 + ms.getD i 0)) = iL ((List.range (n + 1)).map fun i => xs.getD i 0 + ms.getD i 0) := by
          unfold iL
          rw [List.map_map]
          rfl
        rw [e91] at h9
        have zl : ((List.range (n + 1)).map fun i => xs.getD i 0 + ms.getD i 0).length = n + 1 := by rw [List.length_map, List.length_range]
        generalize ((List.range (n + 1)).map fun i => xs.getD i 0 + ms.getD i 0) = zs at h9 zl
        refine ⟨g2, _, rfl, .inl ⟨sq_of h9, fun T2 o2 hT2 ho2 => ?_⟩⟩
        have e10 := Ex.new (o := .frz o2 (.tup (iL zs))) hT2
        have t10 : Tp K (upd H9 T2 (.frz o2 (.tup (iL zs)))) T2 (iL zs) := Tp.of ho2 upd_same
        have e810 := e9.trans e10
        generalize upd H9 T2 (.frz o2 (.tup (iL zs))) = H10 at e810 t10 ⊢
        refine ⟨by show 1 ≤ sizeLine; decide, fun T3 o3 hT3 ho3 => ⟨_, rfl, _, _, rfl, rfl, rep_one (by omega) (by omega) (fun T4 H11 e11 t11 => ?_) T3 o3 hT3 ho3⟩⟩
        rw [show ((n : Int) + 1).toNat = n + 1 by omega] at t11
        refine ⟨by show 1 ≤ sizeLine; decide, fun T5 o5 hT5 ho5 => ?_⟩
        have e12 := Ex.new (o := .frz o5 (.tup [.int 1])) hT5
        have t12 : Tp K (upd H11 T5 (.frz o5 (.tup [.int 1]))) T5 [.int 1] := Tp.of ho5 upd_same
        generalize upd H11 T5 (.frz o5 (.tup [.int 1])) = H12 at e12 t12 ⊢
        refine ⟨by show 1 ≤ sizeLine; decide, fun T6 o6 hT6 ho6 => ⟨_, rfl, rep_one (by omega) (by omega) (fun T7 H13 e13 t13 => ?_) T6 o6 hT6 ho6⟩⟩
        rw [Int.toNat_natCast] at t13
        refine cat_ret (t12.ex e13) t13 (Nat.le_of_lt (sz_lt (by rw [List.length_replicate]; simp only [List.length_singleton]; omega))) (Ex.refl _) fun T8 H14 e14 t14 => ?_
        refine ⟨by show 4 ≤ sizeLine; decide, fun u hu => ?_⟩
        have e15 := Ex.new (o := .lst [V.ref T1, .ref T2, .ref T4, .ref T8]) hu
        have u15 : upd H14 u (.lst [V.ref T1, .ref T2, .ref T4, .ref T8]) u = some (.lst [V.ref T1, .ref T2, .ref T4, .ref T8]) := upd_same
        generalize upd H14 u (.lst [V.ref T1, .ref T2, .ref T4, .ref T8]) = H15 at e15 u15 ⊢
        have e1215 := e13.trans (e14.trans e15)
        have e1015 := e11.trans (e12.trans e1215)
        have e715 := e8.trans (e810.trans e1015)
        have S15 := e715 _ _ (w7.ex _ _ s7)
        refine ⟨S, u, _, _, rfl, rfl, S15, u15, Nat.le_of_lt (sz_lt (by rw [List.length_map, lg.len, xl]; show 3 + 4 < 100000; decide)), fun g hg => ?_⟩
        have e16 := Ex.new (o := .lst (es.map V.ref ++ [V.ref T1, .ref T2, .ref T4, .ref T8])) hg
        have hG : H7 g = none := fresh_back e715 hg
        obtain ⟨R9, er9, w9, m9⟩ := w7.more (e715.trans e16)
        have off := w7.deal.off hG
        have g9 := m9 _ _ off.1 off.2 upd_same
        have em : es.map V.ref ++ [V.ref T1, .ref T2, .ref T4, .ref T8] = (es ++ [T1, T2, T4, T8]).map V.ref := by rw [List.map_append]; rfl
        rw [em] at g9
        have r4 : List.replicate (n + 1) (V.int 0) = iL (List.replicate (n + 1) 0) := by
          unfold iL
          rw [List.map_replicate]
        have r8 : [V.int 1] ++ List.replicate n (V.int 0) = iL (1 :: List.replicate n 0) := by
          unfold iL
          rw [List.map_cons, List.map_replicate]
          rfl
        rw [r4] at t11
        rw [r8] at t14
        have l4 : LstG iL K H15 [T1, T2, T4, T8] [os, zs, List.replicate (n + 1) 0, 1 :: List.replicate n 0] :=
          ((((LstG.nil (f := iL)).push (t8.ex (e810.trans e1015))).push (t10.ex e1015)).push (t11.ex (e12.trans e1215))).push (t14.ex e15)
        have lgA := (lg7.ex (w7.ex.trans e715)).app l4
        have lgB := (lgA.ex e16).known w9.deal m9
        refine k g (es ++ [T1, T2, T4, T8]) (xss ++ [os, zs, List.replicate (n + 1) 0, 1 :: List.replicate n 0]) R9 _ (ex.trans (er.trans er9)) w9 g9 lgB (fun ys hy => ?_) (by rw [List.length_append, xl]; show 3 + 4 ≤ 100; decide)
        rcases List.mem_append.mp hy with h | h
        · exact lens ys h
        rcases List.mem_cons.mp h with rfl | h
        · exact ol
        rcases List.mem_cons.mp h with rfl | h
        · exact zl
        rcases List.mem_cons.mp h with rfl | h
        · rw [List.length_replicate]
        · rw [List.mem_singleton.mp h, List.length_cons, List.length_replicate]
end
end K60

namespace K60
open PySem PySem.Spec PyProof.Rows L2 Evl Own
def spMadeR : Sp := fun vs H Q _ => ∃ (a l : Addr) (R : Hp) (s : Srt) (n : Nat), vs = [.ref a, .str s.s, .int (n : Int)] ∧ Wl 2 a l R H ∧ n ≤ 24 ∧ ∀ H', Wl 2 a l R H' → Q (.bl true) H'
def spStays : Sp := fun vs H Q _ => ∃ (a l : Addr) (R : Hp) (s : Srt) (n : Nat), vs = [.ref a, .str s.s, .int (n : Int)] ∧ Wl 2 a l R H ∧ n ≤ s.bound ∧ n % s.small = 0 ∧ ∀ H', Wl 2 a l R H' → Q (.bl true) H'
theorem get_g {es : List Addr} {xss : List (List Int)} {K : PySem.W.Frag} {H : Hp} {i : Nat} {z : V} (l : LstG iL K H es xss) (h : (es.map V.ref)[i]? = some z) : ∃ e ys, z = .ref e ∧ ys ∈ xss ∧ Tp K H e (ys.map V.int) := by
  obtain ⟨e, ys, h1, h2, h3, h4⟩ := l.get h
  exact ⟨e, ys, h1, List.mem_of_getElem? h3, h4⟩
section
variable {P : Program} {w : World} {K : PySem.W.Frag} {mg : Str → Option Value} {base : Heap} {f : Addr} {fd : FuncData}
theorem ok__law_made_is_right (F : FnP K "_law_made_is_right" s__law_made_is_right f fd) (Z : Zs mg) (G__law_top : Fn P w K mg base CX0 2 "_law_top" s__law_top ["sort", "length"] spLTop) (G__law_integer : Fn P w K mg base CX0 3 "_law_integer" s__law_integer ["deal"] spInteger) (G__law_made : Fn P w K mg base CX0 3 "_law_made" s__law_made ["sort", "length", "numbers"] (spLMade K))
    (G__law_same : Fn P w K mg base CX0 4 "_law_same" s__law_same ["told", "due"] (spSame K 2)) (G_made_of_told : Fn P w K mg base CX0 5 "made_of_told" s_made_of_told ["sort", "length", "numbers"] (spMade K)) (G_told_numbers : Fn P w K mg base CX0 5 "told_numbers" s_told_numbers ["sort", "length", "counts"] (spNumbers K))
    (G__law_spoilt : Fn P w K mg base CX0 4 "_law_spoilt" s__law_spoilt ["deal", "sort", "length", "row"] (spSpoilt K)) (G__law_numbers : Fn P w K mg base CX0 3 "_law_numbers" s__law_numbers ["sort", "length", "row"] (spNumbers K)) : FnOk P w K mg base CX0 6 f fd ["deal", "sort", "length"] spMadeR := by
  refine F.ok sc__law_made_is_right (fun vs H Q E h => ?_) (fun cdv A outer s H vs Q E hr h => ⟨_, PSs.nox (pss_cons (ps_set (i := 3) sc__law_made_is_right.nd rfl (by first | exact Or.inl rfl | exact Or.inr rfl) (pe_callTy (kc_tuple (K := K)) (by rfl) Z.tuple (by decide +kernel) (pa_cons (pe_lc (own := [("j", 4)]) (g := (gName 4)) rfl sc__law_made_is_right.nd (pi_range1 (by rfl) Z.range (pa_cons (pe_op op_add (pe_callF G__law_top (hr.mono (by decide)) rfl pass0 (pa_cons (pv 1) (pa_cons (pv 2) pa_nil))) pe_int) pa_nil)) (blkOk_by (own := [("j", 4)]) (N := ["deal", "sort", "length", "numbers", "j", "row", "other", "due"]) (sc := defScope s__law_made_is_right) (by decide +kernel)) (fun _ _ _ _ _ => (pg_name (i := 4) sc__law_made_is_right.nd rfl (Or.inl rfl))) (fun _ _ _ _ _ => pts_nil) (fun _ _ _ _ _ => (pe_callF G__law_integer (hr.mono (by decide)) rfl pass0 (pa_cons (pv 0) pa_nil)))) pa_nil)))
  (pss_cons (ps_set (i := 5) sc__law_made_is_right.nd rfl (by first | exact Or.inl rfl | exact Or.inr rfl) (pe_callF G__law_made (hr.mono (by decide)) rfl pass0 (pa_cons (pv 1) (pa_cons (pv 2) (pa_cons (pv 3) pa_nil)))))
  (pss_cons (ps_if (PW.pt (pw_or (pt_not (pt_val (pe_callF G__law_same (hr.mono (by decide)) rfl pass0 (pa_cons (pe_callF G_made_of_told (hr.mono (by decide)) rfl pass0 (pa_cons (pv 1) (pa_cons (pv 2) (pa_cons (pv 3) pa_nil)))) (pa_cons (pv 5) pa_nil))))) (pw_or1 (pt_not (pt_val (pe_callF G__law_same (hr.mono (by decide)) rfl pass0 (pa_cons (pe_callF G_told_numbers (hr.mono (by decide)) rfl pass0 (pa_cons (pv 1) (pa_cons (pv 2) (pa_cons (pv 5) pa_nil)))) (pa_cons (pv 3) pa_nil)))))))) (pss_one (ps_ret pe_bl)) pss_nil)
  (pss_cons (ps_for PassesOwn.never rfl (pi_list (pe_callF G__law_spoilt (hr.mono (by decide)) rfl pass0 (pa_cons (pv 0) (pa_cons (pv 1) (pa_cons (pv 2) (pa_cons (pv 5) pa_nil)))))) (pg_name (i := 6) sc__law_made_is_right.nd rfl (by first | exact Or.inl rfl | exact Or.inr rfl)) (pss_cons (ps_set (i := 7) sc__law_made_is_right.nd rfl (by first | exact Or.inl rfl | exact Or.inr rfl) (pe_callF G__law_numbers (hr.mono (by decide)) rfl pass0 (pa_cons (pv 1) (pa_cons (pv 2) (pa_cons (pv 6) pa_nil)))))
  (pss_cons (ps_if (PW.pt (pw_or (pt_not (pt_val (pe_callF G__law_same (hr.mono (by decide)) rfl pass0 (pa_cons (pe_callF G_told_numbers (hr.mono (by decide)) rfl pass0 (pa_cons (pv 1) (pa_cons (pv 2) (pa_cons (pv 6) pa_nil)))) (pa_cons (pv 7) pa_nil))))) (pw_or1 (pt_not (pt_val (pe_callF G__law_same (hr.mono (by decide)) rfl pass0 (pa_cons (pe_call0KF G_told_numbers (hr.mono (by decide)) kb_told_numbers_counts_length_sort pass0 (pk_cons (pv 6) (pk_cons (pv 2) (pk_cons (pv 1) pk_nil)))) (pa_cons (pv 7) pa_nil)))))))) (pss_one (ps_ret pe_bl)) pss_nil)
  (pss_one (ps_if (PW.pt (pw_and (pt_cmpR op_notN (pv 7) pe_non (nomark _)) (pw_and1 (pt_not (pt_val (pe_callF G__law_same (hr.mono (by decide)) rfl pass0 (pa_cons (pe_call0KF G_made_of_told (hr.mono (by decide)) kb_made_of_told_numbers_sort_length pass0 (pk_cons (pv 7) (pk_cons (pv 1) (pk_cons (pv 2) pk_nil)))) (pa_cons (pv 6) pa_nil)))))))) (pss_one (ps_ret pe_bl)) pss_nil)))))
  (pss_one (ps_ret (pe_callF G__law_same (hr.mono (by decide)) rfl pass0 (pa_cons (pe_callF G_told_numbers (hr.mono (by decide)) rfl pass0 (pa_cons (pv 1) (pa_cons (pv 2) (pa_cons (pv 5) pa_nil)))) (pa_cons (pv 3) pa_nil))))))))), ?_⟩)
  · obtain ⟨a, l, R, s, n, rfl, _⟩ := h
    rfl
  · obtain ⟨a, l, R, s, n, rfl, hw, hn, k⟩ := h
    have cl := cnt_le s n hn
    refine ⟨_, rfl, _, rfl, s, n, rfl, fun H1 e1 => ⟨_, _, rfl, rfl, (cnt s n : Int), by simp, by omega, by omega, ?_⟩⟩
    rw [Int.toNat_natCast]
    have w1 := hw.keep e1
    refine lcW (fun i acc Rd => ∃ ns : List Int, acc = ns.map V.int ∧ ns.length = i ∧ i ≤ cnt s n) (walk_range (lo := 0)) w1 (fun D hD => ⟨[], rfl, rfl, by omega⟩) (fun _ _ _ _ => trivial) (fun i acc Rd st => ?_)
      (fun i D' acc Rd H6 x H7 hi ex' w6 hD hacc st y K1 K0 k1 k0 => ?_) (fun D' acc Rd H6 hD' ex' w6 hacc st => ?_)
    · obtain ⟨ns, rfl, h1, h2⟩ := st
      rw [List.length_map]
      omega
    · obtain ⟨rfl, rfl⟩ := y
      obtain ⟨ns, rfl, h1, h2⟩ := st
      exact ⟨rfl, yes_go ⟨_, rfl, a, l, Rd, rfl, w6, fun r H8 w8 => k1 _ Rd H8 ex' w8 hacc ⟨ns ++ [r], by rw [List.map_append]; rfl, by rw [List.length_append, h1]; rfl, by omega⟩⟩⟩
    · obtain ⟨ns, rfl, nl, _⟩ := st
      refine ⟨D', _, rfl, .inl ⟨sq_of (w6.ex _ _ hacc), fun T o hT ho => ?_⟩⟩
      have w7 := w6.new (o := .frz o (.tup (ns.map V.int))) hT
      have eT := Ex.new (o := .frz o (.tup (ns.map V.int))) (w6.free hT)
      have tn : Tp K (upd Rd T (.frz o (.tup (ns.map V.int)))) T (ns.map V.int) := Tp.of ho upd_same
      have er7 := ex'.trans eT
      generalize upd Rd T (.frz o (.tup (ns.map V.int))) = R7 at w7 er7 tn
      generalize upd H6 T (.frz o (.tup (ns.map V.int))) = H7 at w7 ⊢
      have ml := madeF_len s n ns (cnt s n)
      have nm := num_made (s := s) (n := n) (ns := ns) hn nl
      refine ⟨_, rfl, _, rfl, _, rfl, s, n, true, T, ns, rfl, hn, sqb_t (tn.ex w7.ex), nl, fun r H8 e8 hr8 => ?_⟩
      obtain ⟨R8, er8, w8, tr⟩ := w7.tp e8 hr8
      have tn8 := tn.ex er8
      refine ⟨_, rfl, _, rfl, _, rfl, s, n, T, ns, rfl, hn, tn8.ex w8.ex, nl, fun c1 H9 e9 hc1 => ?_⟩
      refine ⟨_, rfl, _, _, rfl, .tup hc1 ((tr.ex w8.ex).ex e9) (scal_ints _) (by rw [List.length_map]; omega) 1, fun H10 e10 => ⟨_, rfl, iteF ?_⟩⟩
      have w10 := w8.keep (e9.trans e10)
      refine ⟨_, rfl, _, rfl, _, rfl, s, n, r, _, rfl, hn, tr.ex w10.ex, ml, fun _ => ?_, fun z => absurd nm.1 z⟩
      rw [nm.2]
      intro c2 H11 e11 hc2
      refine ⟨_, rfl, _, _, rfl, .tup hc2 ((tn8.ex w10.ex).ex e11) (scal_ints _) (by rw [List.length_map]; omega) 1, fun H12 e12 => ⟨_, rfl, iteF ?_⟩⟩
      have w12 := w10.keep (e11.trans e12)
      refine ⟨_, rfl, _, rfl, _, rfl, _, rfl, a, l, R8, s, n, r, _, rfl, w12, hn, tr, ml, fun g es xss R9 H13 er9 w13 hg lg lens few => ?_⟩
      refine ⟨g, rfl, ⟨_, sq_of (w13.ex _ _ hg)⟩, for_list (xs := es.map V.ref) (fun i σ H' => Wl 2 a l R9 H' ∧ ∃ v7 v8, σ = [some (.ref a), some (.str s.s), some (.int (n : Int)), some (.ref T), none, some (.ref r), v7, v8]) ⟨w13, none, none, rfl⟩ (fun i σ H' _ h => sq_of (h.1.ex _ _ hg)) (fun i z σ H' hz h => ?_) (fun σ H' h => ?_)⟩
      · obtain ⟨w14, v7, v8, rfl⟩ := h
        obtain ⟨e, ys, rfl, my, te⟩ := get_g lg hz
        have yl := lens ys my
        have te14 := te.ex w14.ex
        by_cases z : (numF s n ys (cnt s n)).1 = List.replicate (n + 1) 0
        · have mn := made_num yl z
          have nl2 := (numF_len s n ys (cnt s n)).2
          refine ⟨_, rfl, _, rfl, _, rfl, s, n, e, ys, rfl, hn, te14, yl, fun _ d H15 e15 hd => ?_, fun q => absurd z q⟩
          refine ⟨_, rfl, _, rfl, _, rfl, s, n, e, ys, rfl, hn, te14.ex e15, yl, fun _ d2 H16 e16 hd2 => ?_, fun q => absurd z q⟩
          refine ⟨_, rfl, _, _, rfl, .tup hd2 (hd.ex e16) (scal_ints _) (by rw [List.length_map]; omega) 1, fun H17 e17 => ⟨_, rfl, iteF ?_⟩⟩
          have e1617 := e16.trans e17
          refine ⟨_, rfl, _, rfl, _, rfl, s, n, e, ys, rfl, hn, te14.ex (e15.trans e1617), yl, fun _ d3 H18 e18 hd3 => ?_, fun q => absurd z q⟩
          refine ⟨_, rfl, _, _, rfl, .tup hd3 (hd.ex (e1617.trans e18)) (scal_ints _) (by rw [List.length_map]; omega) 1, fun H19 e19 => ⟨_, rfl, iteF ?_⟩⟩
          have e1619 := e1617.trans (e18.trans e19)
          refine ⟨_, rfl, rfl, _, rfl, iteT ?_⟩
          refine ⟨_, rfl, _, rfl, _, rfl, s, n, d, _, rfl, hn, hd.ex e1619, nl2, fun c3 H20 e20 hc3 => ?_⟩
          rw [mn] at hc3
          refine ⟨_, rfl, _, _, rfl, .tup hc3 (te14.ex (e15.trans (e1619.trans e20))) (scal_ints _) (by rw [List.length_map]; omega) 1, fun H21 e21 => ⟨_, rfl, iteF ?_⟩⟩
          exact ⟨w14.keep (e15.trans (e1619.trans (e20.trans e21))), _, _, rfl⟩
        · refine ⟨_, rfl, _, rfl, _, rfl, s, n, e, ys, rfl, hn, te14, yl, fun q => absurd q z, fun _ H15 e15 => ?_⟩
          refine ⟨_, rfl, _, rfl, _, rfl, s, n, e, ys, rfl, hn, te14.ex e15, yl, fun q => absurd q z, fun _ H16 e16 => ?_⟩
          refine ⟨_, rfl, _, _, rfl, Sm.scal rfl 2, fun H17 e17 => ⟨_, rfl, iteF ?_⟩⟩
          have e1617 := e16.trans e17
          refine ⟨_, rfl, _, rfl, _, rfl, s, n, e, ys, rfl, hn, te14.ex (e15.trans e1617), yl, fun q => absurd q z, fun _ H18 e18 => ?_⟩
          refine ⟨_, rfl, _, _, rfl, Sm.scal rfl 2, fun H19 e19 => ⟨_, rfl, iteF ?_⟩⟩
          refine ⟨_, rfl, rfl, _, rfl, iteF ?_⟩
          exact ⟨w14.keep (e15.trans (e1617.trans (e18.trans e19))), _, _, rfl⟩
      · obtain ⟨w14, v7, v8, rfl⟩ := h
        have tr14 := (tr.ex er9).ex w14.ex
        have tn14 := (tn8.ex er9).ex w14.ex
        refine ⟨_, rfl, _, rfl, _, rfl, s, n, r, _, rfl, hn, tr14, ml, fun _ => ?_, fun z => absurd nm.1 z⟩
        rw [nm.2]
        intro c4 H15 e15 hc4
        exact ⟨_, rfl, _, _, rfl, .tup hc4 (tn14.ex e15) (scal_ints _) (by rw [List.length_map]; omega) 1, fun H16 e16 => k _ ((w14.weak (er7.trans (er8.trans er9))).keep (e15.trans e16))⟩
theorem ok__law_stays (F : FnP K "_law_stays" s__law_stays f fd) (Z : Zs mg) (G__law_any : Fn P w K mg base CX0 1 "_law_any" s__law_any ["deal", "bound"] (spAny 2)) (G__law_top : Fn P w K mg base CX0 2 "_law_top" s__law_top ["sort", "length"] spLTop) (G__law_integer : Fn P w K mg base CX0 3 "_law_integer" s__law_integer ["deal"] spInteger) (G_made_of_told : Fn P w K mg base CX0 5 "made_of_told" s_made_of_told ["sort", "length", "numbers"] (spMade K))
    (G__law_made : Fn P w K mg base CX0 3 "_law_made" s__law_made ["sort", "length", "numbers"] (spLMade K)) (G__law_same : Fn P w K mg base CX0 4 "_law_same" s__law_same ["told", "due"] (spSame K 2)) (G_told_counts : Fn P w K mg base CX0 4 "told_counts" s_told_counts ["letters", "length", "counts"] (spCounts K)) (G__law_lowest : Fn P w K mg base CX0 1 "_law_lowest" s__law_lowest ["top", "bottom"] (spLowest K)) : FnOk P w K mg base CX0 6 f fd ["deal", "sort", "length"] spStays := by
  refine F.ok sc__law_stays (fun vs H Q E h => ?_) (fun cdv A outer s H vs Q E hr h => ⟨_, PSs.nox (pss_cons (ps_asg (pe_tupF (pa_cons (pe_dget (hu_of hr) (pe_disp (pps_cons pe_str pe_int (pps_cons pe_str pe_int (pps_cons pe_str pe_int pps_nil))) (by rfl) (by rfl) (fun z => by cases z) (by decide)) (pv 1) (fun _ _ => rfl)) (pa_cons pe_int pa_nil))) (pg_tup rfl (pgs_cons (pg_name (i := 3) sc__law_stays.nd rfl (by first | exact Or.inl rfl | exact Or.inr rfl)) (pgs_cons (pg_name (i := 4) sc__law_stays.nd rfl (by first | exact Or.inl rfl | exact Or.inr rfl)) pgs_nil))))
  (pss_cons (ps_for PassesOwn.never rfl (pi_range1 (by rfl) Z.range (pa_cons (pe_callF G__law_any (hr.mono (by decide)) rfl pass0 (pa_cons (pv 0) (pa_cons pe_int pa_nil))) pa_nil)) (pg_name (i := 5) sc__law_stays.nd rfl (by first | exact Or.inl rfl | exact Or.inr rfl)) (pss_one (ps_set (i := 4) sc__law_stays.nd rfl (by first | exact Or.inl rfl | exact Or.inr rfl) (pe_op op_mul (pv 4) (pv 3)))))
  (pss_cons (ps_set (i := 6) sc__law_stays.nd rfl (by first | exact Or.inl rfl | exact Or.inr rfl) (pe_op (ko_cat (K := K)) (pe_tupF (pa_cons (pv 4) pa_nil)) (pe_callTy (kc_tuple (K := K)) (by rfl) Z.tuple (by decide +kernel) (pa_cons (pe_lc (own := [("j", 7)]) (g := (gName 7)) rfl sc__law_stays.nd (pi_range1 (by rfl) Z.range (pa_cons (pe_callF G__law_top (hr.mono (by decide)) rfl pass0 (pa_cons (pv 1) (pa_cons (pv 2) pa_nil))) pa_nil)) (blkOk_by (own := [("j", 7)]) (N := ["deal", "sort", "length", "letters", "first", "turn", "numbers", "j", "row", "due", "one"]) (sc := defScope s__law_stays) (by decide +kernel)) (fun _ _ _ _ _ => (pg_name (i := 7) sc__law_stays.nd rfl (Or.inl rfl))) (fun _ _ _ _ _ => pts_nil) (fun _ _ _ _ _ => (pe_callF G__law_integer (hr.mono (by decide)) rfl pass0 (pa_cons (pv 0) pa_nil)))) pa_nil))))
  (pss_cons (ps_set (i := 8) sc__law_stays.nd rfl (by first | exact Or.inl rfl | exact Or.inr rfl) (pe_callF G_made_of_told (hr.mono (by decide)) rfl pass0 (pa_cons (pv 1) (pa_cons (pv 2) (pa_cons (pv 6) pa_nil)))))
  (pss_cons (ps_set (i := 9) sc__law_stays.nd rfl (by first | exact Or.inl rfl | exact Or.inr rfl) (pe_callF G__law_made (hr.mono (by decide)) rfl pass0 (pa_cons (pv 1) (pa_cons (pv 2) (pa_cons (pv 6) pa_nil)))))
  (pss_one (ps_ret (pe_and (pe_callF G__law_same (hr.mono (by decide)) rfl pass0 (pa_cons (pv 8) (pa_cons (pv 9) pa_nil))) (pe_one (pe_callF G__law_same (hr.mono (by decide)) rfl pass0 (pa_cons (pe_callF G_told_counts (hr.mono (by decide)) rfl pass0 (pa_cons (pv 3) (pa_cons (pv 2) (pa_cons (pv 8) pa_nil)))) (pa_cons (pe_callTy (kc_tuple (K := K)) (by rfl) Z.tuple (by decide +kernel) (pa_cons (pe_lc (own := [("one", 10)]) (g := (gName 10)) rfl sc__law_stays.nd (pi_tup (pv 9)) (blkOk_by (own := [("one", 10)]) (N := ["deal", "sort", "length", "letters", "first", "turn", "numbers", "j", "row", "due", "one"]) (sc := defScope s__law_stays) (by decide +kernel)) (fun _ _ _ _ _ => (pg_name (i := 10) sc__law_stays.nd rfl (Or.inl rfl))) (fun _ _ _ _ _ => pts_nil) (fun _ _ _ _ _ => (pe_callF G__law_lowest (hr.mono (by decide)) rfl pass0 (pa_cons (pv 10) (pa_cons (pv 4) pa_nil))))) pa_nil)) pa_nil)))))))))))), ?_⟩)
  · obtain ⟨a, l, R, s, n, rfl, _⟩ := h
    rfl
  · obtain ⟨a, l, R, s, n, rfl, hw, hb, hs, k⟩ := h
    have bl := s.bound_le
    have hn : n ≤ 24 := by omega
    have cl := cnt_le s n hn
    have c0 : 0 < cnt s n := by
      unfold cnt
      rw [if_pos hs]
      exact Nat.succ_pos _
    have q0 : 2 ≤ s.q ∧ s.q ≤ 3 := by cases s <;> decide
    refine fun p hp => ?_
    have w0 := hw.new (o := .dK (mergeK [] [(Sum.inr "two", .int 2), (Sum.inr "twice", .int 2), (Sum.inr "three", .int 3)])) hp
    have ud : upd (upd H p (.dK [])) p (.dK (mergeK [] [(Sum.inr "two", .int 2), (Sum.inr "twice", .int 2), (Sum.inr "three", .int 3)])) = upd H p (.dK (mergeK [] [(Sum.inr "two", .int 2), (Sum.inr "twice", .int 2), (Sum.inr "three", .int 3)])) := by
      funext x
      by_cases e : x = p
      · subst e
        rw [upd_same, upd_same]
      · rw [upd_ne e, upd_ne e, upd_ne e]
    refine ⟨upd_same, [(Sum.inr "two", .int 2), (Sum.inr "twice", .int 2), (Sum.inr "three", .int 3)], rfl, by show 3 ≤ 15; decide, ?_⟩
    rw [ud]
    have hd : upd H p (.dK (mergeK [] [(Sum.inr "two", .int 2), (Sum.inr "twice", .int 2), (Sum.inr "three", .int 3)])) p = some (.dK (mergeK [] [(Sum.inr "two", .int 2), (Sum.inr "twice", .int 2), (Sum.inr "three", .int 3)])) := upd_same
    have w1 := w0.weak (Ex.new (hw.free hp))
    generalize upd H p (.dK (mergeK [] [(Sum.inr "two", .int 2), (Sum.inr "twice", .int 2), (Sum.inr "three", .int 3)])) = H1 at hd w1 ⊢
    refine ⟨_, rfl, p, .int s.q, rfl, ?_, by show 2 ≤ sizeLine; decide, fun T o hT ho => ?_⟩
    · cases s
      · exact DGet.k (k := Sum.inr "two") hd
      · exact DGet.k (k := Sum.inr "twice") hd
      · exact DGet.k (k := Sum.inr "three") hd
    have w2 := w1.keep (Ex.new (o := .frz o (.tup [.int s.q, .int 1])) hT)
    refine ⟨T, _, rfl, (Tp.of ho upd_same).sq, rfl, _, _, rfl, _, _, rfl, rfl, ?_⟩
    generalize upd H1 T (.frz o (.tup [.int s.q, .int 1])) = H2 at w2 ⊢
    refine ⟨_, rfl, a, l, R, 4, rfl, w2, by decide, log_lt (by decide) (by decide), fun r1 H3 r10 r11 w3 => ⟨r1, rfl, by omega, by omega, ?_⟩⟩
    obtain ⟨m, rfl⟩ : ∃ m : Nat, r1 = (m : Int) := ⟨r1.toNat, by omega⟩
    rw [Int.toNat_natCast]
    refine for_range (lo := 0) (n := m) (fun i σ H' => Wl 2 a l R H' ∧ ∃ v5, σ = [some (.ref a), some (.str s.s), some (.int (n : Int)), some (.int s.q), some (.int (s.q ^ i)), v5, none, none, none, none, none]) ⟨w3, none, by rw [Int.pow_zero]; rfl⟩ (fun i σ H' hi y => ?_) (fun σ H' y => ?_)
    · obtain ⟨w4, v5, rfl⟩ := y
      refine ⟨_, rfl, _, rfl, _, _, rfl, rfl, .inr ⟨by omega, by omega⟩, w4, some (.int (0 + (i : Int))), ?_⟩
      rw [Int.pow_succ]
      rfl
    · obtain ⟨w4, v5, rfl⟩ := y
      have f0 : 0 < s.q ^ m := Int.pow_pos (by omega)
      have f1 : s.q ^ m ≤ 27 := by
        have : m = 0 ∨ m = 1 ∨ m = 2 ∨ m = 3 := by omega
        rcases this with rfl | rfl | rfl | rfl <;> cases s <;> decide
      generalize s.q ^ m = first at f0 f1
      refine ⟨_, rfl, by show 1 ≤ sizeLine; decide, fun T1 o1 hT1 ho1 => ?_⟩
      have w5 := w4.new (o := .frz o1 (.tup [.int first])) hT1
      have er5 := Ex.new (o := .frz o1 (.tup [.int first])) (w4.free hT1)
      have t5 : Tp K (upd R T1 (.frz o1 (.tup [.int first]))) T1 [.int first] := Tp.of ho1 upd_same
      generalize upd R T1 (.frz o1 (.tup [.int first])) = R5 at w5 er5 t5
      generalize upd H' T1 (.frz o1 (.tup [.int first])) = H5 at w5 ⊢
      refine ⟨_, rfl, _, rfl, s, n, rfl, fun H6 e6 => ⟨(cnt s n : Int) - 1, rfl, by omega, by omega, ?_⟩⟩
      rw [show ((cnt s n : Int) - 1).toNat = cnt s n - 1 by omega]
      have w6 := w5.keep e6
      refine lcW (fun i acc Rd => ∃ ns : List Int, acc = ns.map V.int ∧ ns.length = i ∧ i ≤ cnt s n) (walk_range (lo := 0)) w6 (fun D hD => ⟨[], rfl, rfl, by omega⟩) (fun _ _ _ _ => trivial) (fun i acc Rd st => ?_)
        (fun i D' acc Rd H6 x H7 hi ex' w6 hD hacc st y K1 K0 k1 k0 => ?_) (fun D' acc Rd H7 hD' ex' w7 hacc st => ?_)
      · obtain ⟨ns, rfl, h1, h2⟩ := st
        rw [List.length_map]
        omega
      · obtain ⟨rfl, rfl⟩ := y
        obtain ⟨ns, rfl, h1, h2⟩ := st
        exact ⟨rfl, yes_go ⟨_, rfl, a, l, Rd, rfl, w6, fun r H8 w8 => k1 _ Rd H8 ex' w8 hacc ⟨ns ++ [r], by rw [List.map_append]; rfl, by rw [List.length_append, h1]; rfl, by omega⟩⟩⟩
      · obtain ⟨ns, rfl, nl, _⟩ := st
        refine ⟨D', _, rfl, .inl ⟨sq_of (w7.ex _ _ hacc), RetU.new (K := K) (H := H7) (fun T2 H8 e8 t8 => ?_) (Ex.refl _)⟩⟩
        refine cat_ret (((t5.ex ex').ex w7.ex).ex e8) t8 (Nat.le_of_lt (sz_lt (by rw [List.length_map]; simp only [List.length_singleton]; omega))) (Ex.refl _) fun nt H9 e9 hnt => ?_
        have hnt' : Tp K H9 nt ((first :: ns).map V.int) := hnt
        have nl' : (first :: ns).length = cnt s n := by rw [List.length_cons, nl]; omega
        have h0 : 0 < (first :: ns).getD 0 0 := f0
        have mt := made_told (s := s) (n := n) (ns := first :: ns) hb c0 h0
        have ms := made_sum (s := s) (n := n) (ns := first :: ns) hn c0
        have ml := madeF_len s n (first :: ns) (cnt s n)
        have w9 := (w7.weak (er5.trans ex')).keep (e8.trans e9)
        have qp : 0 < s.q ^ (n / 2) := Int.pow_pos (by omega)
        have S0 : 0 < (madeF s n (first :: ns) (cnt s n)).sum := by
          rw [ms]
          exact Int.mul_pos f0 qp
        have S1 : (madeF s n (first :: ns) (cnt s n)).sum < 2 ^ 500 := by
          rw [ms]
          have hq : s.q ^ (n / 2) ≤ 3 ^ 12 := by
            have h1 : ∀ q : Int, q = 2 ∨ q = 3 → q ^ (n / 2) ≤ 3 ^ 12 := by
              intro q hq
              obtain ⟨mm, rfl⟩ : ∃ mm : Nat, q = (mm : Int) := ⟨q.toNat, by omega⟩
              have a1 : mm ^ (n / 2) ≤ 3 ^ (n / 2) := Nat.pow_le_pow_left (by omega) _
              have a2 : 3 ^ (n / 2) ≤ 3 ^ 12 := Nat.pow_le_pow_right (by decide) (by omega)
              have a3 : ((mm ^ (n / 2) : Nat) : Int) ≤ ((3 ^ 12 : Nat) : Int) := Int.ofNat_le.mpr (Nat.le_trans a1 a2)
              rw [Int.natCast_pow] at a3
              exact a3
            exact h1 _ (by omega)
          have h2 : (first :: ns).getD 0 0 * s.q ^ (n / 2) ≤ 27 * 3 ^ 12 := Int.mul_le_mul f1 hq (by omega) (by decide)
          have h3 : (27 : Int) * 3 ^ 12 < 2 ^ 500 := by decide +kernel
          omega
        have lgS := log_lt S0 S1
        refine ⟨_, rfl, _, rfl, _, rfl, s, n, nt, first :: ns, rfl, hn, hnt', nl', fun row H10 e10 hrow => ?_⟩
        refine ⟨_, rfl, _, rfl, _, rfl, s, n, true, nt, first :: ns, rfl, hn, sqb_t (hnt'.ex e10), nl', fun due H11 e11 hdue => ?_⟩
        have hrow11 := hrow.ex e11
        have e911 := e10.trans e11
        generalize madeF s n (first :: ns) (cnt s n) = ms at mt ml S0 S1 lgS hrow11 hdue
        refine ⟨_, rfl, _, rfl, _, _, rfl, .tup hrow11 hdue (scal_ints _) (by rw [List.length_map]; omega) 1, fun H12 e12 => ⟨_, rfl, iteT ?_⟩⟩
        have hr12 := hrow11.ex e12
        refine ⟨_, rfl, _, rfl, _, rfl, s.q, n, row, ms, rfl, q0.1, q0.2, hn, hr12, ml, S0, lgS, fun tc H13 e13 htc => ?_⟩
        rw [mt] at htc
        have hdue13 := (hdue.ex e12).ex e13
        refine ⟨_, rfl, due, rfl, ⟨_, hdue13.sq⟩, lcX (fun i acc H' => ∃ es, acc = es.map V.ref ∧ LstP K H' es ((ms.take i).map (frac first)) ∧ i ≤ ms.length) (walk_tup (xs := ms.map V.int)) (fun D _ => ⟨[], rfl, ⟨rfl, fun i e f h => by cases h⟩, by omega⟩) (fun H' e => (hdue13.ex e).sq) (fun i acc H' s => ?_)
          (fun i D acc H2 x H3 hi ex hD hacc s y K1 K0 k1 k0 => ?_) (fun D acc H14 hD ex hacc s => ?_)⟩
        · obtain ⟨es, rfl, l, hi⟩ := s
          rw [List.length_map, l.len, List.length_map, List.length_take]
          omega
        · obtain ⟨rfl, g⟩ := y
          obtain ⟨rfl, hi'⟩ := int_at g
          obtain ⟨es, rfl, l, _⟩ := s
          have fb : first < 2 ^ 500 := by
            have : (27 : Int) < 2 ^ 500 := by decide +kernel
            omega
          refine ⟨rfl, yes_go ⟨_, rfl, _, rfl, ms.getD i 0, first, rfl, f0, fb, fun e H5 e5 he => ?_⟩⟩
          refine k1 _ H5 e5 ⟨es ++ [e], by rw [List.map_append]; rfl, ?_, by omega⟩
          have tk : (ms.take (i + 1)).map (frac first) = (ms.take i).map (frac first) ++ [frac first (ms.getD i 0)] := by
            rw [List.take_succ, List.getElem?_eq_getElem hi', List.map_append, List.getD_eq_getElem?_getD, List.getElem?_eq_getElem hi']
            rfl
          rw [tk]
          exact ((l.ex e5).push he).mut (e5 _ _ hacc)
        · obtain ⟨es, rfl, l, _⟩ := s
          rw [List.length_map, List.take_of_length_le (Nat.le_refl _)] at l
          refine ⟨D, _, rfl, .inl ⟨sq_of hacc, RetU.new (K := K) (H := H14) (fun td H15 e15 htd => ?_) (Ex.refl _)⟩⟩
          have tdP : TpP K H15 td (ms.map (frac first)) := ⟨es, htd, l.ex e15⟩
          refine ⟨_, _, rfl, Sm.pairs (htc.ex (ex.trans e15)) tdP (by rw [List.length_map]; omega) 0, fun H16 e16 => ?_⟩
          exact k _ (w9.keep (e911.trans (e12.trans (e13.trans (ex.trans (e15.trans e16))))))
def spLaw (K : PySem.W.Frag) : Sp := fun vs H Q _ => ∃ (a : Addr) (ns : List Int), vs = [.ref a] ∧ SqL K H a (ns.map V.int) ∧ ∀ H', Q (.bl true) H'
theorem ok_law (F : FnP K "law" s_law f fd) (Z : Zs mg) (G__law_deal : Fn P w K mg base CX0 1 "_law_deal" s__law_deal ["script", "salt"] (spDeal 2 K)) (G__law_any : Fn P w K mg base CX0 1 "_law_any" s__law_any ["deal", "bound"] (spAny 2)) (G__law_of : Fn P w K mg base CX0 2 "_law_of" s__law_of ["deal", "some"] (spOf 2 K)) (G__law_small : Fn P w K mg base CX0 1 "_law_small" s__law_small ["sort"] (spSmall K))
    (G__law_rows_are_right : Fn P w K mg base CX0 5 "_law_rows_are_right" s__law_rows_are_right ["sort", "length"] spRowsR) (G__law_made_is_right : Fn P w K mg base CX0 6 "_law_made_is_right" s__law_made_is_right ["deal", "sort", "length"] spMadeR) (G__law_stays : Fn P w K mg base CX0 6 "_law_stays" s__law_stays ["deal", "sort", "length"] spStays) : FnOk P w K mg base CX0 7 f fd ["script"] (spLaw K) := by
  refine F.ok sc_law (fun vs H Q E h => ?_) (fun cdv A outer s H vs Q E hr h => ⟨_, PSs.nox (pss_cons (ps_set (i := 1) sc_law.nd rfl (by first | exact Or.inl rfl | exact Or.inr rfl) (pe_callF G__law_deal (hr.mono (by decide)) rfl pass0 (pa_cons (pv 0) (pa_cons pe_int pa_nil))))
  (pss_cons (ps_for PassesOwn.never rfl (pi_list (pe_lst (pa_cons (pe_tupF (pa_cons pe_str (pa_cons pe_int pa_nil))) (pa_cons (pe_tupF (pa_cons pe_str (pa_cons pe_int pa_nil))) (pa_cons (pe_tupF (pa_cons pe_str (pa_cons pe_int pa_nil))) pa_nil))))) (pg_tup rfl (pgs_cons (pg_name (i := 2) sc_law.nd rfl (by first | exact Or.inl rfl | exact Or.inr rfl)) (pgs_cons (pg_name (i := 3) sc_law.nd rfl (by first | exact Or.inl rfl | exact Or.inr rfl)) pgs_nil))) (pss_cons (ps_set (i := 4) sc_law.nd rfl (by first | exact Or.inl rfl | exact Or.inr rfl) (pe_ix (kx_tup (K := K)) (pe_callF G__law_small (hr.mono (by decide)) rfl pass0 (pa_cons (pv 2) pa_nil)) pe_int (fun _ _ => rfl)))
  (pss_cons (ps_set (i := 5) sc_law.nd rfl (by first | exact Or.inl rfl | exact Or.inr rfl) (pe_op op_mul (pv 4) (pe_callF G__law_any (hr.mono (by decide)) rfl pass0 (pa_cons (pv 1) (pa_cons (pe_op op_add (pe_op op_fdivW (pv 3) (pv 4)) pe_int) pa_nil)))))
  (pss_cons (ps_for PassesOwn.never rfl (pi_list (pe_lst (pa_cons (pv 3) (pa_cons (pv 5) (pa_cons (pe_callF G__law_any (hr.mono (by decide)) rfl pass0 (pa_cons (pv 1) (pa_cons (pe_op op_add (pv 3) pe_int) pa_nil))) pa_nil))))) (pg_name (i := 6) sc_law.nd rfl (by first | exact Or.inl rfl | exact Or.inr rfl)) (pss_one (ps_if (pt_not (pt_val (pe_callF G__law_rows_are_right (hr.mono (by decide)) rfl pass0 (pa_cons (pv 2) (pa_cons (pv 6) pa_nil))))) (pss_one (ps_ret pe_bl)) pss_nil)))
  (pss_cons (ps_for PassesOwn.never rfl (pi_list (pe_lst (pa_cons (pe_callF G__law_of (hr.mono (by decide)) rfl pass0 (pa_cons (pv 1) (pa_cons (pe_lst (pa_cons (pv 3) (pa_cons (pv 5) pa_nil))) pa_nil))) (pa_cons (pe_callF G__law_any (hr.mono (by decide)) rfl pass0 (pa_cons (pv 1) (pa_cons (pe_op op_add (pv 3) pe_int) pa_nil))) pa_nil)))) (pg_name (i := 6) sc_law.nd rfl (by first | exact Or.inl rfl | exact Or.inr rfl)) (pss_one (ps_if (pt_not (pt_val (pe_callF G__law_made_is_right (hr.mono (by decide)) rfl pass0 (pa_cons (pv 1) (pa_cons (pv 2) (pa_cons (pv 6) pa_nil)))))) (pss_one (ps_ret pe_bl)) pss_nil)))
  (pss_one (ps_if (pt_not (pt_val (pe_callF G__law_stays (hr.mono (by decide)) rfl pass0 (pa_cons (pv 1) (pa_cons (pv 2) (pa_cons (pv 5) pa_nil)))))) (pss_one (ps_ret pe_bl)) pss_nil)))))))
  (pss_one (ps_ret pe_bl)))), ?_⟩)
  · obtain ⟨a, ns, rfl, _⟩ := h
    rfl
  · obtain ⟨a, ns, rfl, ha, k⟩ := h
    refine ⟨_, rfl, a, ns, 60, rfl, ha, by decide, by decide, fun d l H1 w1 => ?_⟩
    refine ⟨by show 2 ≤ sizeLine; decide, fun T1 o1 hT1 ho1 => ⟨by show 2 ≤ sizeLine; decide, fun T2 o2 hT2 ho2 => ⟨by show 2 ≤ sizeLine; decide, fun T3 o3 hT3 ho3 => ⟨by show 3 ≤ sizeLine; decide, fun L hL => ?_⟩⟩⟩⟩
    have w2 := w1.new (o := .frz o1 (.tup [.str "two", .int 24])) hT1
    have t1 : Tp K (upd H T1 (.frz o1 (.tup [.str "two", .int 24]))) T1 [.str Srt.two.s, .int ((Srt.two.bound : Nat) : Int)] := Tp.of ho1 upd_same
    generalize upd H T1 (.frz o1 (.tup [.str "two", .int 24])) = R2 at w2 t1
    have w3 := w2.new (o := .frz o2 (.tup [.str "twice", .int 24])) hT2
    have e3 := Ex.new (o := .frz o2 (.tup [.str "twice", .int 24])) (w2.free hT2)
    have t2 : Tp K (upd R2 T2 (.frz o2 (.tup [.str "twice", .int 24]))) T2 [.str Srt.twice.s, .int ((Srt.twice.bound : Nat) : Int)] := Tp.of ho2 upd_same
    have t1' := t1.ex e3
    generalize upd R2 T2 (.frz o2 (.tup [.str "twice", .int 24])) = R3 at w3 t2 t1'
    have w4 := w3.new (o := .frz o3 (.tup [.str "three", .int 16])) hT3
    have e4 := Ex.new (o := .frz o3 (.tup [.str "three", .int 16])) (w3.free hT3)
    have t3 : Tp K (upd R3 T3 (.frz o3 (.tup [.str "three", .int 16]))) T3 [.str Srt.three.s, .int ((Srt.three.bound : Nat) : Int)] := Tp.of ho3 upd_same
    have t1'' := t1'.ex e4
    have t2' := t2.ex e4
    generalize upd R3 T3 (.frz o3 (.tup [.str "three", .int 16])) = R4 at w4 t3 t1'' t2'
    have w5 := w4.new (o := .lst [V.ref T1, .ref T2, .ref T3]) hL
    have e5 := Ex.new (o := .lst [V.ref T1, .ref T2, .ref T3]) (w4.free hL)
    have hL5 : upd R4 L (.lst [V.ref T1, .ref T2, .ref T3]) L = some (.lst [V.ref T1, .ref T2, .ref T3]) := upd_same
    have f1 := t1''.ex e5
    have f2 := t2'.ex e5
    have f3 := t3.ex e5
    generalize upd R4 L (.lst [V.ref T1, .ref T2, .ref T3]) = R5 at w5 hL5 f1 f2 f3
    refine ⟨L, rfl, ⟨_, sq_of (w5.ex _ _ hL5)⟩, for_list (xs := [V.ref T1, .ref T2, .ref T3]) (fun i σ H' => Wl 2 d l R5 H' ∧ ∃ v2 v3 v4 v5 v6, σ = [some (.ref a), some (.ref d), v2, v3, v4, v5, v6]) ⟨w5, none, none, none, none, none, rfl⟩ (fun i σ H' _ h => sq_of (h.1.ex _ _ hL5)) (fun i z σ H' hz h => ?_) (fun σ H' h => k _)⟩
    obtain ⟨w6, v2, v3, v4, v5, v6, rfl⟩ := h
    have hz2 : ∃ (s : Srt) (T : Addr), z = .ref T ∧ Tp K R5 T [.str s.s, .int ((s.bound : Nat) : Int)] := by
      have h := List.mem_of_getElem? hz
      rcases List.mem_cons.mp h with rfl | h
      · exact ⟨.two, T1, rfl, f1⟩
      rcases List.mem_cons.mp h with rfl | h
      · exact ⟨.twice, T2, rfl, f2⟩
      · rw [List.mem_singleton.mp h]
        exact ⟨.three, T3, rfl, f3⟩
    obtain ⟨s, T, rfl, hT⟩ := hz2
    have bl := s.bound_le
    have sp := s.small_pos
    have sl := s.small_le
    refine ⟨T, _, rfl, (hT.ex w6.ex).sq, rfl, _, _, rfl, _, _, rfl, rfl, ?_⟩
    refine ⟨_, rfl, s, rfl, fun r f1 H7 e7 hf hr => ⟨r, _, 1, _, rfl, rfl, hr.sq, rfl, ?_⟩⟩
    have w7 := w6.keep e7
    have db : (s.bound : Int) / (s.small : Int) = ((s.bound / s.small : Nat) : Int) := by rw [Int.natCast_ediv]
    have db2 : s.bound / s.small ≤ 24 := Nat.le_trans (Nat.div_le_self _ _) bl
    have dbI : 0 < (s.bound : Int) / (s.small : Int) + 1 ∧ (s.bound : Int) / (s.small : Int) + 1 ≤ 25 := by
      rw [db]
      generalize s.bound / s.small = D at db2
      omega
    refine ⟨_, rfl, _, rfl, _, rfl, _, rfl, _, _, rfl, rfl, ⟨by omega, ?_⟩, _, _, rfl, rfl, d, l, R5, (s.bound : Int) / (s.small : Int) + 1, rfl, w7, dbI.1, log_lt dbI.1 (Int.lt_of_le_of_lt dbI.2 (by decide +kernel)), fun r1 H8 r10 r11 w8 => ⟨_, _, rfl, rfl, .inl ⟨by omega, by omega⟩, ?_⟩⟩
    · have := Nat.log2_le_self s.small
      show (s.small : Nat).log2 < 9000
      omega
    obtain ⟨m, rfl⟩ : ∃ m : Nat, r1 = (m : Int) := ⟨r1.toNat, by omega⟩
    have hm : m ≤ s.bound / s.small := by
      rw [db] at r11
      omega
    have ec : (s.small : Int) * (m : Int) = ((s.small * m : Nat) : Int) := by rw [Int.natCast_mul]
    have cb : s.small * m ≤ s.bound := Nat.le_trans (Nat.mul_le_mul_left _ hm) (Nat.mul_div_le _ _)
    have cm : (s.small * m) % s.small = 0 := Nat.mul_mod_right _ _
    show gName 5 (V.int ((s.small : Int) * (m : Int))) _ _ _
    rw [ec]
    generalize s.small * m = c at cb cm
    refine ⟨_, rfl, _, rfl, _, rfl, _, rfl, _, _, rfl, rfl, d, l, R5, _, rfl, w8, by omega, log_lt (by omega) (by omega), fun r2 H9 r20 r21 w9 => ⟨by show 3 ≤ sizeLine; decide, fun M hM => ?_⟩⟩
    have w10 := w9.new (o := .lst [V.int (s.bound : Int), .int (c : Int), .int r2]) hM
    have e10 := Ex.new (o := .lst [V.int (s.bound : Int), .int (c : Int), .int r2]) (w9.free hM)
    have hM10 : upd R5 M (.lst [V.int (s.bound : Int), .int (c : Int), .int r2]) M = some (.lst [V.int (s.bound : Int), .int (c : Int), .int r2]) := upd_same
    generalize upd R5 M (.lst [V.int (s.bound : Int), .int (c : Int), .int r2]) = R10 at w10 e10 hM10
    refine ⟨M, rfl, ⟨_, sq_of (w10.ex _ _ hM10)⟩, for_list (xs := [V.int (s.bound : Int), .int (c : Int), .int r2]) (fun i σ H' => Wl 2 d l R10 H' ∧ ∃ v6, σ = [some (.ref a), some (.ref d), some (.str s.s), some (.int (s.bound : Int)), some (.int (s.small : Int)), some (.int (c : Int)), v6]) ⟨w10, _, rfl⟩ (fun i σ H' _ h => sq_of (h.1.ex _ _ hM10)) (fun i z σ H' hz h => ?_) (fun σ H' h => ?_)⟩
    · obtain ⟨w11, v6, rfl⟩ := h
      have hn : ∃ n : Nat, z = .int (n : Int) ∧ n ≤ 24 := by
        have h := List.mem_of_getElem? hz
        rcases List.mem_cons.mp h with rfl | h
        · exact ⟨s.bound, rfl, bl⟩
        rcases List.mem_cons.mp h with rfl | h
        · exact ⟨c, rfl, by omega⟩
        · rw [List.mem_singleton.mp h]
          exact ⟨r2.toNat, by rw [show ((r2.toNat : Nat) : Int) = r2 by omega], by omega⟩
      obtain ⟨n, rfl, n24⟩ := hn
      exact ⟨_, rfl, _, rfl, s, n, rfl, n24, fun H12 e12 => ⟨_, rfl, iteF ⟨w11.keep e12, _, rfl⟩⟩⟩
    · obtain ⟨w11', v6, rfl⟩ := h
      have w11 := w11'.weak e10
      refine ⟨_, rfl, _, rfl, _, rfl, by show 2 ≤ sizeLine; decide, fun u hu => ?_⟩
      have w12 := w11.new (o := .lst [V.int (s.bound : Int), .int (c : Int)]) hu
      refine ⟨d, l, u, _, [V.int (s.bound : Int), .int (c : Int)], rfl, w12, sq_of upd_same, by simp, by show 2 ≤ 100; decide, fun v H13 hv w13' => ?_⟩
      have w13 := w13'.weak (Ex.new (w11.free hu))
      have hv2 : ∃ n : Nat, v = .int (n : Int) ∧ n ≤ 24 := by
        rcases List.mem_cons.mp hv with rfl | h
        · exact ⟨s.bound, rfl, bl⟩
        · rw [List.mem_singleton.mp h]
          exact ⟨c, rfl, by omega⟩
      obtain ⟨n1, rfl, n124⟩ := hv2
      refine ⟨_, rfl, _, rfl, _, _, rfl, rfl, d, l, R5, _, rfl, w13, by omega, log_lt (by omega) (by omega), fun r3 H14 r30 r31 w14 => ⟨by show 2 ≤ sizeLine; decide, fun M2 hM2 => ?_⟩⟩
      have w15 := w14.new (o := .lst [V.int (n1 : Int), .int r3]) hM2
      have e15 := Ex.new (o := .lst [V.int (n1 : Int), .int r3]) (w14.free hM2)
      have hM15 : upd R5 M2 (.lst [V.int (n1 : Int), .int r3]) M2 = some (.lst [V.int (n1 : Int), .int r3]) := upd_same
      generalize upd R5 M2 (.lst [V.int (n1 : Int), .int r3]) = R15 at w15 e15 hM15
      refine ⟨M2, rfl, ⟨_, sq_of (w15.ex _ _ hM15)⟩, for_list (xs := [V.int (n1 : Int), .int r3]) (fun i σ H' => Wl 2 d l R15 H' ∧ ∃ v6, σ = [some (.ref a), some (.ref d), some (.str s.s), some (.int (s.bound : Int)), some (.int (s.small : Int)), some (.int (c : Int)), v6]) ⟨w15, _, rfl⟩ (fun i σ H' _ h => sq_of (h.1.ex _ _ hM15)) (fun i z σ H' hz h => ?_) (fun σ H' h => ?_)⟩
      · obtain ⟨w16, v6, rfl⟩ := h
        have hn : ∃ n : Nat, z = .int (n : Int) ∧ n ≤ 24 := by
          have h := List.mem_of_getElem? hz
          rcases List.mem_cons.mp h with rfl | h
          · exact ⟨n1, rfl, n124⟩
          · rw [List.mem_singleton.mp h]
            exact ⟨r3.toNat, by rw [show ((r3.toNat : Nat) : Int) = r3 by omega], by omega⟩
        obtain ⟨n, rfl, n24⟩ := hn
        exact ⟨_, rfl, _, rfl, _, rfl, d, l, R15, s, n, rfl, w16, n24, fun H17 w17 => ⟨_, rfl, iteF ⟨w17, _, rfl⟩⟩⟩
      · obtain ⟨w16', v6, rfl⟩ := h
        have w16 := w16'.weak e15
        exact ⟨_, rfl, _, rfl, _, rfl, d, l, R5, s, c, rfl, w16, cb, cm, fun H17 w17 => ⟨_, rfl, iteF ⟨w17, _, _, _, _, _, rfl⟩⟩⟩
end
end K60

set_option maxHeartbeats 0
namespace K60
open PySem PySem.Spec PyProof.Rows L2 Own
/-! ### the head: facts by names, the run -/
def d_fraction_of : He.DefD := ⟨("fraction_of", none), "fraction_of", "fraction_of", defArgs s_fraction_of, defBody s_fraction_of, defScope s_fraction_of, [], []⟩
def d_longer : He.DefD := ⟨("longer", none), "longer", "longer", defArgs s_longer, defBody s_longer, defScope s_longer, [], []⟩
def d_step_row : He.DefD := ⟨("step_row", none), "step_row", "step_row", defArgs s_step_row, defBody s_step_row, defScope s_step_row, [], []⟩
def d_told_tops : He.DefD := ⟨("told_tops", none), "told_tops", "told_tops", defArgs s_told_tops, defBody s_told_tops, defScope s_told_tops, [], []⟩
def d_told_counts : He.DefD := ⟨("told_counts", none), "told_counts", "told_counts", defArgs s_told_counts, defBody s_told_counts, defScope s_told_counts, [], []⟩
def d_nought_counts : He.DefD := ⟨("nought_counts", none), "nought_counts", "nought_counts", defArgs s_nought_counts, defBody s_nought_counts, defScope s_nought_counts, [], []⟩
def d_times_row : He.DefD := ⟨("times_row", none), "times_row", "times_row", defArgs s_times_row, defBody s_times_row, defScope s_times_row, [], []⟩
def d_power_row : He.DefD := ⟨("power_row", none), "power_row", "power_row", defArgs s_power_row, defBody s_power_row, defScope s_power_row, [], []⟩
def d_with_times : He.DefD := ⟨("with_times", none), "with_times", "with_times", defArgs s_with_times, defBody s_with_times, defScope s_with_times, [], []⟩
def d_is_nought_row : He.DefD := ⟨("is_nought_row", none), "is_nought_row", "is_nought_row", defArgs s_is_nought_row, defBody s_is_nought_row, defScope s_is_nought_row, [], []⟩
def d_has_length : He.DefD := ⟨("has_length", none), "has_length", "has_length", defArgs s_has_length, defBody s_has_length, defScope s_has_length, [], []⟩
def d_told_top : He.DefD := ⟨("told_top", none), "told_top", "told_top", defArgs s_told_top, defBody s_told_top, defScope s_told_top, [], []⟩
def d_told_row : He.DefD := ⟨("told_row", none), "told_row", "told_row", defArgs s_told_row, defBody s_told_row, defScope s_told_row, [], []⟩
def d_told_rows : He.DefD := ⟨("told_rows", none), "told_rows", "told_rows", defArgs s_told_rows, defBody s_told_rows, defScope s_told_rows, [], []⟩
def d_made_of_told : He.DefD := ⟨("made_of_told", none), "made_of_told", "made_of_told", defArgs s_made_of_told, defBody s_made_of_told, defScope s_made_of_told, [], []⟩
def d_told_numbers : He.DefD := ⟨("told_numbers", none), "told_numbers", "told_numbers", defArgs s_told_numbers, defBody s_told_numbers, defScope s_told_numbers, [], []⟩
def d__law_deal : He.DefD := ⟨("_law_deal", none), "_law_deal", "_law_deal", defArgs s__law_deal, defBody s__law_deal, defScope s__law_deal, [], []⟩
def d__law_any : He.DefD := ⟨("_law_any", none), "_law_any", "_law_any", defArgs s__law_any, defBody s__law_any, defScope s__law_any, [], []⟩
def d__law_of : He.DefD := ⟨("_law_of", none), "_law_of", "_law_of", defArgs s__law_of, defBody s__law_of, defScope s__law_of, [], []⟩
def d__law_same : He.DefD := ⟨("_law_same", none), "_law_same", "_law_same", defArgs s__law_same, defBody s__law_same, defScope s__law_same, [], []⟩
def d__law_small : He.DefD := ⟨("_law_small", none), "_law_small", "_law_small", defArgs s__law_small, defBody s__law_small, defScope s__law_small, [], []⟩
def d__law_times : He.DefD := ⟨("_law_times", none), "_law_times", "_law_times", defArgs s__law_times, defBody s__law_times, defScope s__law_times, [], []⟩
def d__law_top : He.DefD := ⟨("_law_top", none), "_law_top", "_law_top", defArgs s__law_top, defBody s__law_top, defScope s__law_top, [], []⟩
def d__law_told : He.DefD := ⟨("_law_told", none), "_law_told", "_law_told", defArgs s__law_told, defBody s__law_told, defScope s__law_told, [], []⟩
def d__law_made : He.DefD := ⟨("_law_made", none), "_law_made", "_law_made", defArgs s__law_made, defBody s__law_made, defScope s__law_made, [], []⟩
def d__law_numbers : He.DefD := ⟨("_law_numbers", none), "_law_numbers", "_law_numbers", defArgs s__law_numbers, defBody s__law_numbers, defScope s__law_numbers, [], []⟩
def d__law_lowest : He.DefD := ⟨("_law_lowest", none), "_law_lowest", "_law_lowest", defArgs s__law_lowest, defBody s__law_lowest, defScope s__law_lowest, [], []⟩
def d__law_integer : He.DefD := ⟨("_law_integer", none), "_law_integer", "_law_integer", defArgs s__law_integer, defBody s__law_integer, defScope s__law_integer, [], []⟩
def d__law_rows_are_right : He.DefD := ⟨("_law_rows_are_right", none), "_law_rows_are_right", "_law_rows_are_right", defArgs s__law_rows_are_right, defBody s__law_rows_are_right, defScope s__law_rows_are_right, [], []⟩
def d__law_spoilt : He.DefD := ⟨("_law_spoilt", none), "_law_spoilt", "_law_spoilt", defArgs s__law_spoilt, defBody s__law_spoilt, defScope s__law_spoilt, [], []⟩
def d__law_made_is_right : He.DefD := ⟨("_law_made_is_right", none), "_law_made_is_right", "_law_made_is_right", defArgs s__law_made_is_right, defBody s__law_made_is_right, defScope s__law_made_is_right, [], []⟩
def d__law_stays : He.DefD := ⟨("_law_stays", none), "_law_stays", "_law_stays", defArgs s__law_stays, defBody s__law_stays, defScope s__law_stays, [], []⟩
def d_law : He.DefD := ⟨("law", none), "law", "law", defArgs s_law, defBody s_law, defScope s_law, [], []⟩
def fnL : List He.DefD := [d_fraction_of, d_longer, d_step_row, d_told_tops, d_told_counts, d_nought_counts, d_times_row, d_power_row, d_with_times, d_is_nought_row, d_has_length, d_told_top, d_told_row, d_told_rows, d_made_of_told, d_told_numbers, d__law_deal, d__law_any, d__law_of, d__law_same, d__law_small, d__law_times, d__law_top, d__law_told, d__law_made, d__law_numbers, d__law_lowest, d__law_integer, d__law_rows_are_right, d__law_spoilt, d__law_made_is_right, d__law_stays, d_law]
def faL : List He.Fa := [.glo "fraction_of", .glo "longer", .glo "step_row", .glo "told_tops", .glo "told_counts", .glo "nought_counts", .glo "times_row", .glo "power_row", .glo "with_times", .glo "is_nought_row", .glo "has_length", .glo "told_top", .glo "told_row", .glo "told_rows", .glo "made_of_told", .glo "told_numbers", .glo "_law_deal", .glo "_law_any", .glo "_law_of", .glo "_law_same", .glo "_law_small", .glo "_law_times", .glo "_law_top", .glo "_law_told", .glo "_law_made", .glo "_law_numbers", .glo "_law_lowest", .glo "_law_integer", .glo "_law_rows_are_right", .glo "_law_spoilt", .glo "_law_made_is_right", .glo "_law_stays", .glo "law", .free "abs", .free "bool", .free "enumerate", .free "int", .free "isinstance", .free "len", .free "range", .free "str", .free "sum", .free "tuple", .free "zip"]
def exL : List ExD := []
def koD : KoD := { bs := [("gcd", "math.gcd")], dics := [("STEPS", dSTEPS), ("LENGTHS", dLENGTHS), ("FIRST", dFIRST), ("SECOND", dSECOND)] }
abbrev RR : PySem.W.OpenRow := PySem.W.OpenLaw.row PySem.Challenge.rw_ownmirrors_k60_told_rows_and_what_is_mad
abbrev PR : Program := PySem.Challenge.pw_ownmirrors_k60_told_rows_and_what_is_mad
abbrev fileS : Str := PR.main.file
abbrev hk : PySem.W.Hook := hookK fileS 6 koD faL fnL exL
def ob (s : PySem.W.SharedT) : AlK := obsKG fileS 6 koD faL fnL exL (HandSHeadRun.getT s)
theorem ob_eq (s : PySem.W.SharedT) : ob s = hk.obs s.abs := obsKG_eq (HandSHeadRun.getT_eq s)
def looseL : List Str := (["gcd", "fraction_of", "longer", "step_row", "told_tops", "told_counts", "STEPS", "LENGTHS", "FIRST", "SECOND", "nought_counts", "times_row", "power_row", "with_times", "is_nought_row", "has_length", "told_top", "told_row", "told_rows", "made_of_told", "told_numbers", "_law_deal", "_law_any", "_law_of", "_law_same", "_law_small", "_law_times", "_law_top", "_law_told", "_law_made"] : List Str) ++ (["_law_numbers", "_law_lowest", "_law_integer", "_law_rows_are_right", "_law_spoilt", "_law_made_is_right", "_law_stays"] : List Str)
theorem run0 (w : World) : HandSHeadRun.RunEqI RR (PySem.W.view RR.prog [0, 41]) hk ob 4000 looseL (w.withFollow "special-get-raises" false) := by
  unfold HandSHeadRun.RunEqI
  kernel_rfl
theorem run1 (w : World) : HandSHeadRun.RunEqI RR (PySem.W.view RR.prog [0, 41]) hk ob 4000 looseL (w.withFollow "special-get-raises" true) := by
  unfold HandSHeadRun.RunEqI
  kernel_rfl
theorem run (w : World) : HandSHeadRun.RunEqI RR (PySem.W.view RR.prog [0, 41]) hk ob 4000 looseL w :=
  PySem.W.byRow2 "special-get-raises" (P := fun w => HandSHeadRun.RunEqI RR (PySem.W.view RR.prog [0, 41]) hk ob 4000 looseL w) run0 run1 w
theorem facts {w : World} {K : PySem.W.Frag} {h : Heap} {mg : Str → Option Value} {f : Addr} (X : K.In h) (G : h.Ns mainGlobals mg) (hfa : mg ("law" : Str) = some (.ref f)) (c : SaysK fileS koD faL fnL exL w K) :
    ∃ fd : FuncData, (∀ (s : Shared) (v : Value), BindsTo s fd ⟨[v], []⟩ [("script", v)]) ∧ ∀ base : Heap, K.In base → base.Ns mainGlobals mg → FnOk PR w K mg base CX0 7 f fd ["script"] (spLaw K) := by
  obtain ⟨fd_fraction_of, F_fraction_of⟩ := c.saysD.def_ 0 (d := d_fraction_of) rfl
  have m_fraction_of : mg "fraction_of" = some (.ref (He.ga K "fraction_of")) := He.glo_ok X G (c.saysD.fact 0 (f := .glo "fraction_of") rfl)
  have b_fraction_of : Binds K fd_fraction_of ["top", "bottom"] [] := FunD.bindsN F_fraction_of fun _ _ _ _ _ _ us hl => match us, hl with | [_, _], _ => rfl
  obtain ⟨fd_longer, F_longer⟩ := c.saysD.def_ 1 (d := d_longer) rfl
  have m_longer : mg "longer" = some (.ref (He.ga K "longer")) := He.glo_ok X G (c.saysD.fact 1 (f := .glo "longer") rfl)
  have b_longer : Binds K fd_longer ["found", "times"] [] := FunD.bindsN F_longer fun _ _ _ _ _ _ us hl => match us, hl with | [_, _], _ => rfl
  obtain ⟨fd_step_row, F_step_row⟩ := c.saysD.def_ 2 (d := d_step_row) rfl
  have m_step_row : mg "step_row" = some (.ref (He.ga K "step_row")) := He.glo_ok X G (c.saysD.fact 2 (f := .glo "step_row") rfl)
  have b_step_row : Binds K fd_step_row ["letters", "length", "x"] [] := FunD.bindsN F_step_row fun _ _ _ _ _ _ us hl => match us, hl with | [_, _, _], _ => rfl
  obtain ⟨fd_told_tops, F_told_tops⟩ := c.saysD.def_ 3 (d := d_told_tops) rfl
  have m_told_tops : mg "told_tops" = some (.ref (He.ga K "told_tops")) := He.glo_ok X G (c.saysD.fact 3 (f := .glo "told_tops") rfl)
  have b_told_tops : Binds K fd_told_tops ["letters", "length", "numbers"] [] := FunD.bindsN F_told_tops fun _ _ _ _ _ _ us hl => match us, hl with | [_, _, _], _ => rfl
  obtain ⟨fd_told_counts, F_told_counts⟩ := c.saysD.def_ 4 (d := d_told_counts) rfl
  have m_told_counts : mg "told_counts" = some (.ref (He.ga K "told_counts")) := He.glo_ok X G (c.saysD.fact 4 (f := .glo "told_counts") rfl)
  have b_told_counts : Binds K fd_told_counts ["letters", "length", "counts"] [] := FunD.bindsN F_told_counts fun _ _ _ _ _ _ us hl => match us, hl with | [_, _, _], _ => rfl
  obtain ⟨fd_nought_counts, F_nought_counts⟩ := c.saysD.def_ 5 (d := d_nought_counts) rfl
  have m_nought_counts : mg "nought_counts" = some (.ref (He.ga K "nought_counts")) := He.glo_ok X G (c.saysD.fact 5 (f := .glo "nought_counts") rfl)
  have b_nought_counts : Binds K fd_nought_counts ["length"] [] := FunD.bindsN F_nought_counts fun _ _ _ _ _ _ us hl => match us, hl with | [_], _ => rfl
  obtain ⟨fd_times_row, F_times_row⟩ := c.saysD.def_ 6 (d := d_times_row) rfl
  have m_times_row : mg "times_row" = some (.ref (He.ga K "times_row")) := He.glo_ok X G (c.saysD.fact 6 (f := .glo "times_row") rfl)
  have b_times_row : Binds K fd_times_row ["one", "other"] [] := FunD.bindsN F_times_row fun _ _ _ _ _ _ us hl => match us, hl with | [_, _], _ => rfl
  obtain ⟨fd_power_row, F_power_row⟩ := c.saysD.def_ 7 (d := d_power_row) rfl
  have m_power_row : mg "power_row" = some (.ref (He.ga K "power_row")) := He.glo_ok X G (c.saysD.fact 7 (f := .glo "power_row") rfl)
  have b_power_row : Binds K fd_power_row ["row", "many"] [] := FunD.bindsN F_power_row fun _ _ _ _ _ _ us hl => match us, hl with | [_, _], _ => rfl
  obtain ⟨fd_with_times, F_with_times⟩ := c.saysD.def_ 8 (d := d_with_times) rfl
  have m_with_times : mg "with_times" = some (.ref (He.ga K "with_times")) := He.glo_ok X G (c.saysD.fact 8 (f := .glo "with_times") rfl)
  have b_with_times : Binds K fd_with_times ["row", "number", "other"] [] := FunD.bindsN F_with_times fun _ _ _ _ _ _ us hl => match us, hl with | [_, _, _], _ => rfl
  obtain ⟨fd_is_nought_row, F_is_nought_row⟩ := c.saysD.def_ 9 (d := d_is_nought_row) rfl
  have m_is_nought_row : mg "is_nought_row" = some (.ref (He.ga K "is_nought_row")) := He.glo_ok X G (c.saysD.fact 9 (f := .glo "is_nought_row") rfl)
  have b_is_nought_row : Binds K fd_is_nought_row ["row"] [] := FunD.bindsN F_is_nought_row fun _ _ _ _ _ _ us hl => match us, hl with | [_], _ => rfl
  obtain ⟨fd_has_length, F_has_length⟩ := c.saysD.def_ 10 (d := d_has_length) rfl
  have m_has_length : mg "has_length" = some (.ref (He.ga K "has_length")) := He.glo_ok X G (c.saysD.fact 10 (f := .glo "has_length") rfl)
  have b_has_length : Binds K fd_has_length ["sort", "length"] [] := FunD.bindsN F_has_length fun _ _ _ _ _ _ us hl => match us, hl with | [_, _], _ => rfl
  obtain ⟨fd_told_top, F_told_top⟩ := c.saysD.def_ 11 (d := d_told_top) rfl
  have m_told_top : mg "told_top" = some (.ref (He.ga K "told_top")) := He.glo_ok X G (c.saysD.fact 11 (f := .glo "told_top") rfl)
  have b_told_top : Binds K fd_told_top ["sort", "length"] [] := FunD.bindsN F_told_top fun _ _ _ _ _ _ us hl => match us, hl with | [_, _], _ => rfl
  obtain ⟨fd_told_row, F_told_row⟩ := c.saysD.def_ 12 (d := d_told_row) rfl
  have m_told_row : mg "told_row" = some (.ref (He.ga K "told_row")) := He.glo_ok X G (c.saysD.fact 12 (f := .glo "told_row") rfl)
  have b_told_row : Binds K fd_told_row ["sort", "length", "j"] [] := FunD.bindsN F_told_row fun _ _ _ _ _ _ us hl => match us, hl with | [_, _, _], _ => rfl
  obtain ⟨fd_told_rows, F_told_rows⟩ := c.saysD.def_ 13 (d := d_told_rows) rfl
  have m_told_rows : mg "told_rows" = some (.ref (He.ga K "told_rows")) := He.glo_ok X G (c.saysD.fact 13 (f := .glo "told_rows") rfl)
  have b_told_rows : Binds K fd_told_rows ["sort", "length"] [] := FunD.bindsN F_told_rows fun _ _ _ _ _ _ us hl => match us, hl with | [_, _], _ => rfl
  obtain ⟨fd_made_of_told, F_made_of_told⟩ := c.saysD.def_ 14 (d := d_made_of_told) rfl
  have m_made_of_told : mg "made_of_told" = some (.ref (He.ga K "made_of_told")) := He.glo_ok X G (c.saysD.fact 14 (f := .glo "made_of_told") rfl)
  have b_made_of_told : Binds K fd_made_of_told ["sort", "length", "numbers"] [] := FunD.bindsN F_made_of_told fun _ _ _ _ _ _ us hl => match us, hl with | [_, _, _], _ => rfl
  obtain ⟨fd_told_numbers, F_told_numbers⟩ := c.saysD.def_ 15 (d := d_told_numbers) rfl
  have m_told_numbers : mg "told_numbers" = some (.ref (He.ga K "told_numbers")) := He.glo_ok X G (c.saysD.fact 15 (f := .glo "told_numbers") rfl)
  have b_told_numbers : Binds K fd_told_numbers ["sort", "length", "counts"] [] := FunD.bindsN F_told_numbers fun _ _ _ _ _ _ us hl => match us, hl with | [_, _, _], _ => rfl
  obtain ⟨fd__law_deal, F__law_deal⟩ := c.saysD.def_ 16 (d := d__law_deal) rfl
  have m__law_deal : mg "_law_deal" = some (.ref (He.ga K "_law_deal")) := He.glo_ok X G (c.saysD.fact 16 (f := .glo "_law_deal") rfl)
  have b__law_deal : Binds K fd__law_deal ["script", "salt"] [] := FunD.bindsN F__law_deal fun _ _ _ _ _ _ us hl => match us, hl with | [_, _], _ => rfl
  obtain ⟨fd__law_any, F__law_any⟩ := c.saysD.def_ 17 (d := d__law_any) rfl
  have m__law_any : mg "_law_any" = some (.ref (He.ga K "_law_any")) := He.glo_ok X G (c.saysD.fact 17 (f := .glo "_law_any") rfl)
  have b__law_any : Binds K fd__law_any ["deal", "bound"] [] := FunD.bindsN F__law_any fun _ _ _ _ _ _ us hl => match us, hl with | [_, _], _ => rfl
  obtain ⟨fd__law_of, F__law_of⟩ := c.saysD.def_ 18 (d := d__law_of) rfl
  have m__law_of : mg "_law_of" = some (.ref (He.ga K "_law_of")) := He.glo_ok X G (c.saysD.fact 18 (f := .glo "_law_of") rfl)
  have b__law_of : Binds K fd__law_of ["deal", "some"] [] := FunD.bindsN F__law_of fun _ _ _ _ _ _ us hl => match us, hl with | [_, _], _ => rfl
  obtain ⟨fd__law_same, F__law_same⟩ := c.saysD.def_ 19 (d := d__law_same) rfl
  have m__law_same : mg "_law_same" = some (.ref (He.ga K "_law_same")) := He.glo_ok X G (c.saysD.fact 19 (f := .glo "_law_same") rfl)
  have b__law_same : Binds K fd__law_same ["told", "due"] [] := FunD.bindsN F__law_same fun _ _ _ _ _ _ us hl => match us, hl with | [_, _], _ => rfl
  obtain ⟨fd__law_small, F__law_small⟩ := c.saysD.def_ 20 (d := d__law_small) rfl
  have m__law_small : mg "_law_small" = some (.ref (He.ga K "_law_small")) := He.glo_ok X G (c.saysD.fact 20 (f := .glo "_law_small") rfl)
  have b__law_small : Binds K fd__law_small ["sort"] [] := FunD.bindsN F__law_small fun _ _ _ _ _ _ us hl => match us, hl with | [_], _ => rfl
  obtain ⟨fd__law_times, F__law_times⟩ := c.saysD.def_ 21 (d := d__law_times) rfl
  have m__law_times : mg "_law_times" = some (.ref (He.ga K "_law_times")) := He.glo_ok X G (c.saysD.fact 21 (f := .glo "_law_times") rfl)
  have b__law_times : Binds K fd__law_times ["row", "factor"] [] := FunD.bindsN F__law_times fun _ _ _ _ _ _ us hl => match us, hl with | [_, _], _ => rfl
  obtain ⟨fd__law_top, F__law_top⟩ := c.saysD.def_ 22 (d := d__law_top) rfl
  have m__law_top : mg "_law_top" = some (.ref (He.ga K "_law_top")) := He.glo_ok X G (c.saysD.fact 22 (f := .glo "_law_top") rfl)
  have b__law_top : Binds K fd__law_top ["sort", "length"] [] := FunD.bindsN F__law_top fun _ _ _ _ _ _ us hl => match us, hl with | [_, _], _ => rfl
  obtain ⟨fd__law_told, F__law_told⟩ := c.saysD.def_ 23 (d := d__law_told) rfl
  have m__law_told : mg "_law_told" = some (.ref (He.ga K "_law_told")) := He.glo_ok X G (c.saysD.fact 23 (f := .glo "_law_told") rfl)
  have b__law_told : Binds K fd__law_told ["sort", "length", "j"] [] := FunD.bindsN F__law_told fun _ _ _ _ _ _ us hl => match us, hl with | [_, _, _], _ => rfl
  obtain ⟨fd__law_made, F__law_made⟩ := c.saysD.def_ 24 (d := d__law_made) rfl
  have m__law_made : mg "_law_made" = some (.ref (He.ga K "_law_made")) := He.glo_ok X G (c.saysD.fact 24 (f := .glo "_law_made") rfl)
  have b__law_made : Binds K fd__law_made ["sort", "length", "numbers"] [] := FunD.bindsN F__law_made fun _ _ _ _ _ _ us hl => match us, hl with | [_, _, _], _ => rfl
  obtain ⟨fd__law_numbers, F__law_numbers⟩ := c.saysD.def_ 25 (d := d__law_numbers) rfl
  have m__law_numbers : mg "_law_numbers" = some (.ref (He.ga K "_law_numbers")) := He.glo_ok X G (c.saysD.fact 25 (f := .glo "_law_numbers") rfl)
  have b__law_numbers : Binds K fd__law_numbers ["sort", "length", "row"] [] := FunD.bindsN F__law_numbers fun _ _ _ _ _ _ us hl => match us, hl with | [_, _, _], _ => rfl
  obtain ⟨fd__law_lowest, F__law_lowest⟩ := c.saysD.def_ 26 (d := d__law_lowest) rfl
  have m__law_lowest : mg "_law_lowest" = some (.ref (He.ga K "_law_lowest")) := He.glo_ok X G (c.saysD.fact 26 (f := .glo "_law_lowest") rfl)
  have b__law_lowest : Binds K fd__law_lowest ["top", "bottom"] [] := FunD.bindsN F__law_lowest fun _ _ _ _ _ _ us hl => match us, hl with | [_, _], _ => rfl
  obtain ⟨fd__law_integer, F__law_integer⟩ := c.saysD.def_ 27 (d := d__law_integer) rfl
  have m__law_integer : mg "_law_integer" = some (.ref (He.ga K "_law_integer")) := He.glo_ok X G (c.saysD.fact 27 (f := .glo "_law_integer") rfl)
  have b__law_integer : Binds K fd__law_integer ["deal"] [] := FunD.bindsN F__law_integer fun _ _ _ _ _ _ us hl => match us, hl with | [_], _ => rfl
  obtain ⟨fd__law_rows_are_right, F__law_rows_are_right⟩ := c.saysD.def_ 28 (d := d__law_rows_are_right) rfl
  have m__law_rows_are_right : mg "_law_rows_are_right" = some (.ref (He.ga K "_law_rows_are_right")) := He.glo_ok X G (c.saysD.fact 28 (f := .glo "_law_rows_are_right") rfl)
  have b__law_rows_are_right : Binds K fd__law_rows_are_right ["sort", "length"] [] := FunD.bindsN F__law_rows_are_right fun _ _ _ _ _ _ us hl => match us, hl with | [_, _], _ => rfl
  obtain ⟨fd__law_spoilt, F__law_spoilt⟩ := c.saysD.def_ 29 (d := d__law_spoilt) rfl
  have m__law_spoilt : mg "_law_spoilt" = some (.ref (He.ga K "_law_spoilt")) := He.glo_ok X G (c.saysD.fact 29 (f := .glo "_law_spoilt") rfl)
  have b__law_spoilt : Binds K fd__law_spoilt ["deal", "sort", "length", "row"] [] := FunD.bindsN F__law_spoilt fun _ _ _ _ _ _ us hl => match us, hl with | [_, _, _, _], _ => rfl
  obtain ⟨fd__law_made_is_right, F__law_made_is_right⟩ := c.saysD.def_ 30 (d := d__law_made_is_right) rfl
  have m__law_made_is_right : mg "_law_made_is_right" = some (.ref (He.ga K "_law_made_is_right")) := He.glo_ok X G (c.saysD.fact 30 (f := .glo "_law_made_is_right") rfl)
  have b__law_made_is_right : Binds K fd__law_made_is_right ["deal", "sort", "length"] [] := FunD.bindsN F__law_made_is_right fun _ _ _ _ _ _ us hl => match us, hl with | [_, _, _], _ => rfl
  obtain ⟨fd__law_stays, F__law_stays⟩ := c.saysD.def_ 31 (d := d__law_stays) rfl
  have m__law_stays : mg "_law_stays" = some (.ref (He.ga K "_law_stays")) := He.glo_ok X G (c.saysD.fact 31 (f := .glo "_law_stays") rfl)
  have b__law_stays : Binds K fd__law_stays ["deal", "sort", "length"] [] := FunD.bindsN F__law_stays fun _ _ _ _ _ _ us hl => match us, hl with | [_, _, _], _ => rfl
  obtain ⟨fd_law, F_law⟩ := c.saysD.def_ 32 (d := d_law) rfl
  have m_law : mg "law" = some (.ref (He.ga K "law")) := He.glo_ok X G (c.saysD.fact 32 (f := .glo "law") rfl)
  have b_law : Binds K fd_law ["script"] [] := FunD.bindsN F_law fun _ _ _ _ _ _ us hl => match us, hl with | [_], _ => rfl
  have Z : Zs mg := ⟨He.free_ok X G (c.saysD.fact 33 (f := .free "abs") rfl), He.free_ok X G (c.saysD.fact 34 (f := .free "bool") rfl), He.free_ok X G (c.saysD.fact 35 (f := .free "enumerate") rfl), He.free_ok X G (c.saysD.fact 36 (f := .free "int") rfl), He.free_ok X G (c.saysD.fact 37 (f := .free "isinstance") rfl), He.free_ok X G (c.saysD.fact 38 (f := .free "len") rfl), He.free_ok X G (c.saysD.fact 39 (f := .free "range") rfl), He.free_ok X G (c.saysD.fact 40 (f := .free "str") rfl), He.free_ok X G (c.saysD.fact 41 (f := .free "sum") rfl), He.free_ok X G (c.saysD.fact 42 (f := .free "tuple") rfl), He.free_ok X G (c.saysD.fact 43 (f := .free "zip") rfl)⟩
  have M : Ms mg := ⟨c.bi X G 0⟩
  have C : Cs K w mg := ⟨c.dic X G 0, c.dic X G 1, c.dic X G 2, c.dic X G 3⟩
  have e := hfa.symm.trans m_law
  cases e
  have b := FunD.bindsA (ps := ["script"]) F_law fun _ _ _ _ _ _ us hl => match us, hl with | [_], _ => rfl
  refine ⟨fd_law, fun s v => b s [v] rfl, fun base _ _ => ?_⟩
  have G__law_deal : Fn PR w K mg base CX0 1 "_law_deal" s__law_deal ["script", "salt"] (spDeal 2 K) := ⟨_, _, m__law_deal, F__law_deal, b__law_deal, ok__law_deal F__law_deal Z⟩
  have G__law_any : Fn PR w K mg base CX0 1 "_law_any" s__law_any ["deal", "bound"] (spAny 2) := ⟨_, _, m__law_any, F__law_any, b__law_any, ok__law_any F__law_any Z⟩
  have G__law_of : Fn PR w K mg base CX0 2 "_law_of" s__law_of ["deal", "some"] (spOf 2 K) := ⟨_, _, m__law_of, F__law_of, b__law_of, ok__law_of F__law_of Z G__law_any⟩
  have G__law_small : Fn PR w K mg base CX0 1 "_law_small" s__law_small ["sort"] (spSmall K) := ⟨_, _, m__law_small, F__law_small, b__law_small, ok__law_small F__law_small Z⟩
  have G__law_top : Fn PR w K mg base CX0 2 "_law_top" s__law_top ["sort", "length"] spLTop := ⟨_, _, m__law_top, F__law_top, b__law_top, ok__law_top F__law_top Z G__law_small⟩
  have G_has_length : Fn PR w K mg base CX0 1 "has_length" s_has_length ["sort", "length"] spHas := ⟨_, _, m_has_length, F_has_length, b_has_length, ok_has_length F_has_length Z C⟩
  have G_told_top : Fn PR w K mg base CX0 2 "told_top" s_told_top ["sort", "length"] spTop := ⟨_, _, m_told_top, F_told_top, b_told_top, ok_told_top F_told_top Z C G_has_length⟩
  have G__law_times : Fn PR w K mg base CX0 1 "_law_times" s__law_times ["row", "factor"] (spLTimes K) := ⟨_, _, m__law_times, F__law_times, b__law_times, ok__law_times F__law_times Z⟩
  have G__law_told : Fn PR w K mg base CX0 2 "_law_told" s__law_told ["sort", "length", "j"] (spRow K) := ⟨_, _, m__law_told, F__law_told, b__law_told, ok__law_told F__law_told Z G__law_small G__law_times⟩
  have G_times_row : Fn PR w K mg base CX0 1 "times_row" s_times_row ["one", "other"] (spTimesT K) := ⟨_, _, m_times_row, F_times_row, b_times_row, ok_times_row F_times_row Z⟩
  have G_power_row : Fn PR w K mg base CX0 2 "power_row" s_power_row ["row", "many"] (spPowerRow K) := ⟨_, _, m_power_row, F_power_row, b_power_row, ok_power_row F_power_row Z G_times_row⟩
  have G_told_row : Fn PR w K mg base CX0 3 "told_row" s_told_row ["sort", "length", "j"] (spRow K) := ⟨_, _, m_told_row, F_told_row, b_told_row, ok_told_row F_told_row Z C G_times_row G_power_row⟩
  have G__law_same : Fn PR w K mg base CX0 4 "_law_same" s__law_same ["told", "due"] (spSame K 2) := ⟨_, _, m__law_same, F__law_same, b__law_same, ok__law_same F__law_same b__law_same m__law_same Z 2⟩
  have G__law_rows_are_right : Fn PR w K mg base CX0 5 "_law_rows_are_right" s__law_rows_are_right ["sort", "length"] spRowsR := ⟨_, _, m__law_rows_are_right, F__law_rows_are_right, b__law_rows_are_right, ok__law_rows_are_right F__law_rows_are_right Z G__law_top G_told_top G__law_told G_told_row G__law_same⟩
  have G__law_integer : Fn PR w K mg base CX0 3 "_law_integer" s__law_integer ["deal"] spInteger := ⟨_, _, m__law_integer, F__law_integer, b__law_integer, ok__law_integer F__law_integer Z G__law_any G__law_of⟩
  have G__law_made : Fn PR w K mg base CX0 3 "_law_made" s__law_made ["sort", "length", "numbers"] (spLMade K) := ⟨_, _, m__law_made, F__law_made, b__law_made, ok__law_made F__law_made Z G__law_told⟩
  have G_nought_counts : Fn PR w K mg base CX0 1 "nought_counts" s_nought_counts ["length"] (spNought K) := ⟨_, _, m_nought_counts, F_nought_counts, b_nought_counts, ok_nought_counts F_nought_counts Z⟩
  have G_told_rows : Fn PR w K mg base CX0 4 "told_rows" s_told_rows ["sort", "length"] (spRows K) := ⟨_, _, m_told_rows, F_told_rows, b_told_rows, ok_told_rows F_told_rows Z G_told_top G_told_row⟩
  have G_with_times : Fn PR w K mg base CX0 1 "with_times" s_with_times ["row", "number", "other"] (spWith K) := ⟨_, _, m_with_times, F_with_times, b_with_times, ok_with_times F_with_times Z⟩
  have G_made_of_told : Fn PR w K mg base CX0 5 "made_of_told" s_made_of_told ["sort", "length", "numbers"] (spMade K) := ⟨_, _, m_made_of_told, F_made_of_told, b_made_of_told, ok_made_of_told F_made_of_told Z G_nought_counts G_told_rows G_with_times⟩
  have G_is_nought_row : Fn PR w K mg base CX0 1 "is_nought_row" s_is_nought_row ["row"] (spIsNought K) := ⟨_, _, m_is_nought_row, F_is_nought_row, b_is_nought_row, ok_is_nought_row F_is_nought_row Z⟩
  have G_told_numbers : Fn PR w K mg base CX0 5 "told_numbers" s_told_numbers ["sort", "length", "counts"] (spNumbers K) := ⟨_, _, m_told_numbers, F_told_numbers, b_told_numbers, ok_told_numbers F_told_numbers Z C G_told_rows G_with_times G_is_nought_row⟩
  have G__law_spoilt : Fn PR w K mg base CX0 4 "_law_spoilt" s__law_spoilt ["deal", "sort", "length", "row"] (spSpoilt K) := ⟨_, _, m__law_spoilt, F__law_spoilt, b__law_spoilt, ok__law_spoilt F__law_spoilt Z G__law_any G__law_of G__law_top G__law_made⟩
  have G__law_numbers : Fn PR w K mg base CX0 3 "_law_numbers" s__law_numbers ["sort", "length", "row"] (spNumbers K) := ⟨_, _, m__law_numbers, F__law_numbers, b__law_numbers, ok__law_numbers F__law_numbers Z G__law_small G__law_top G__law_told⟩
  have G__law_made_is_right : Fn PR w K mg base CX0 6 "_law_made_is_right" s__law_made_is_right ["deal", "sort", "length"] spMadeR := ⟨_, _, m__law_made_is_right, F__law_made_is_right, b__law_made_is_right, ok__law_made_is_right F__law_made_is_right Z G__law_top G__law_integer G__law_made G__law_same G_made_of_told G_told_numbers G__law_spoilt G__law_numbers⟩
  have G_fraction_of : Fn PR w K mg base CX0 1 "fraction_of" s_fraction_of ["top", "bottom"] (spFrac K) := ⟨_, _, m_fraction_of, F_fraction_of, b_fraction_of, ok_fraction_of F_fraction_of Z M⟩
  have G_longer : Fn PR w K mg base CX0 1 "longer" s_longer ["found", "times"] (spLonger K) := ⟨_, _, m_longer, F_longer, b_longer, ok_longer F_longer Z⟩
  have G_step_row : Fn PR w K mg base CX0 2 "step_row" s_step_row ["letters", "length", "x"] (spStepRow K) := ⟨_, _, m_step_row, F_step_row, b_step_row, ok_step_row F_step_row Z G_longer⟩
  have G_told_tops : Fn PR w K mg base CX0 3 "told_tops" s_told_tops ["letters", "length", "numbers"] (spTops K) := ⟨_, _, m_told_tops, F_told_tops, b_told_tops, ok_told_tops F_told_tops Z G_step_row⟩
  have G_told_counts : Fn PR w K mg base CX0 4 "told_counts" s_told_counts ["letters", "length", "counts"] (spCounts K) := ⟨_, _, m_told_counts, F_told_counts, b_told_counts, ok_told_counts F_told_counts Z G_fraction_of G_told_tops⟩
  have G__law_lowest : Fn PR w K mg base CX0 1 "_law_lowest" s__law_lowest ["top", "bottom"] (spLowest K) := ⟨_, _, m__law_lowest, F__law_lowest, b__law_lowest, ok__law_lowest F__law_lowest Z⟩
  have G__law_stays : Fn PR w K mg base CX0 6 "_law_stays" s__law_stays ["deal", "sort", "length"] spStays := ⟨_, _, m__law_stays, F__law_stays, b__law_stays, ok__law_stays F__law_stays Z G__law_any G__law_top G__law_integer G_made_of_told G__law_made G__law_same G_told_counts G__law_lowest⟩
  exact ok_law F_law Z G__law_deal G__law_any G__law_of G__law_small G__law_rows_are_right G__law_made_is_right G__law_stays
end K60
open PySem PySem.W PySem.Calls PyProof.Rows
theorem PySem.Challenge.cw_ownmirrors_k60_told_rows_and_what_is_mad_holds : PySem.Challenge.rw_ownmirrors_k60_told_rows_and_what_is_mad.Holds := by
  w_on; o_law
  refine HandSHeadRun.head_imp (r := OpenLaw.row PySem.Challenge.rw_ownmirrors_k60_told_rows_and_what_is_mad) (q := view (OpenLaw.row PySem.Challenge.rw_ownmirrors_k60_told_rows_and_what_is_mad).prog [0, 41]) (H := K60.hk) (ob := K60.ob) (M := 4000) (loose := K60.looseL) (d := HandSHeadRun.topDef (OpenLaw.row PySem.Challenge.rw_ownmirrors_k60_told_rows_and_what_is_mad).prog 41) (kwd := []) K60.ob_eq
    K60.run (by kernel_rfl) (by kernel_rfl) (by kernel_rfl) (by rfl) (by first | assumption | decide +kernel) (by decide +kernel) ⟨rfl, rfl, rfl, rfl, rfl, by decide +kernel⟩ ?hw ?hc
  case hw => w_witness2
  case hc =>
    refine L2.walk_ofE (l := PySem.Challenge.rw_ownmirrors_k60_told_rows_and_what_is_mad) (n := 63) (k := 7) (x := "script") (CX := L2.CX0) rfl (by decide) (by kernel_rfl) ⟨rfl, by decide, by decide⟩ ?F (fun _ _ _ _ z => z)
    intro w mg fa h Y G hmg0
    obtain ⟨K, KX, c⟩ := Y
    have hmg : mg ("law" : PySem.Str) = some (.ref fa) := by
      have e : (HandSHeadRun.topDef (OpenLaw.row PySem.Challenge.rw_ownmirrors_k60_told_rows_and_what_is_mad).prog 41).name = ("law" : PySem.Str) := by kernel_rfl
      rw [← e]
      exact hmg0
    obtain ⟨fd, hb, hF⟩ := K60.facts (w := w) KX G hmg c
    exact ⟨K, fd, K60.spLaw K, KX, hb, fun H a ns hl _ hS => ⟨a, ns, rfl, hS, fun _ => rfl⟩, hF⟩
