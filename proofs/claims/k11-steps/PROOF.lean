import PyProof.Rows.All
import Wide.All
import OpenK.AllK
import Wide.FinOn
import HandS.Base
import HandS.Call
import HandS.List
import HandS.Comp
import HandS.Words
import HandS.TupMul
import HandS.TupAny
import PyProof.ListMulRoad
import PyProof.FactsAll.tuple_2
import HandS.SetFor
import HandS.More
import PyProof.EqAt
import OpenK.KMore
import HandS.ExcSuper
import HandS.Exc
import KE.KSuper
import KE.KExcSuper
import HandS.Defaults
import HandS.Walk
import HandS.Evl
import HandS.Zip
import HandS.Style
import HandS.IsInst
import HandS.Text
import HandS.TupLe
import HandS.TryOnly
import HandS.Conv
import HandS.RevTup
import HandS.HeadHook2
import HandS.HeadEnd
import HandS.Head0
import HandS.Head1
import HandS.Head2
import KE.KIntText
import KE.IntTextLaws
import PyProof.Conv_int
import PyProof.StrOps2
import HandS.Wide
import KE.KEqSeq
import HandS.ExcOwn
import HandS.WordsExc
import HandS.HeadHook1
import HandS.Gcd
import HandS.Iter
import KE.KMathGC
import KE.GoesEnum
import KE.GoesMore
import KE.KTupSum
import PySem.Challenge.RW_ownmirrors_k11_whole_steps_and_what_is_t
import HandS.Head3
set_option Elab.async false
set_option linter.all false
set_option maxRecDepth 100000
set_option maxHeartbeats 2000000
/-! Tuples tracked together with their very object, so that their methods can be called. -/
namespace Own
open PySem PySem.Spec PyProof.Rows L2

def Tp (K : PySem.W.Frag) (H : Hp) (p : Addr) (xs : List V) : Prop :=
  (∃ o : Obj, o.dict = none ∧ H p = some (.frz o (.tup xs))) ∨
    ∃ (o : Obj) (its : Array Value) (n : Nat), K.lookup p = some o ∧ o.cls = .type "tuple" ∧ o.dict = none ∧ o.data = .seq its n ∧ its.size ≤ sizeLine ∧ Vals xs its.toList
theorem Tp.sq {K : PySem.W.Frag} {H : Hp} {p : Addr} {xs : List V} (h : Tp K H p xs) : SqT K H p xs := by
  rcases h with ⟨o, _, h⟩ | ⟨o, its, n, h1, h2, _, h4, h5, h6⟩
  · exact .inl (.inr ⟨o, h⟩)
  · exact .inr ⟨o, its, n, h1, h2, h4, h5, h6⟩
theorem Tp.of {K : PySem.W.Frag} {H : Hp} {p : Addr} {o : Obj} {xs : List V} (hd : o.dict = none) (h : H p = some (.frz o (.tup xs))) : Tp K H p xs := .inl ⟨o, hd, h⟩
/-- a new tuple: what is wanted of it -/
def NewT (xs : List V) (H : Hp) (Q : VK) : Prop := ∀ (p : Addr) (o : Obj), H p = none → o.dict = none → Q (.ref p) (upd H p (.frz o (.tup xs)))
section
variable {X : Cx} {pins : List (Addr × Obj)} {σ : L2.St} {H : Hp} {s : Shared} {Q : VK}
theorem newT_end {xs : List V} {its : List Value} {tk : Nat} (I : Inv X pins σ H s) (r : Vals xs its) (z : xs.length ≤ sizeLine) (q : NewT xs H Q) :
    EP X pins σ Q (.ref s.heap.objs.size) { s with heap := s.heap.push { cls := .type "tuple", data := .seq its.toArray }, toks := tk } := by
  have hf : H s.heap.objs.size = none := I.hok.fresh (Nat.le_refl _)
  refine ⟨.ref s.heap.objs.size, _, I.laid (t' := tk) (o := .frz { cls := .type "tuple", data := .seq its.toArray } (.tup xs)) (fun b u e => Heap.get?_push_of_some _ e) (Nat.le_refl _) ⟨Heap.get?_push_size _ rfl, z, its, r, IsTup.new _ _⟩, rfl, q _ _ hf rfl⟩
end
def tTupF (t : TA) : TE := fun σ H Q => t σ H fun xs H1 => xs.length ≤ sizeLine ∧ NewT xs H1 Q
section
variable {X : Cx} {es : List Expr} {t : TA} {pos : Pos}
/-- (a, b, ..) -/
theorem pe_tupF {x1} (h : PA X es t) : PE X (.Tuple es x1 pos) (tTupF t) := by
  refine ⟨fun pins s σ H Q I hq => ?_⟩
  refine wpAny_Tuple_spliced (thn (h.run pos pins s σ H _ I hq) fun us s1 ⟨xs, H1, I1, r, z, q⟩ => ⟨by rw [← r.length]; exact z, ?_⟩)
  exact newT_end I1 r z q
/-- tuple(list), tuple(tuple) -/
def rTupF (K : PySem.W.Frag) : List V → Hp → VK → Prop := fun xs H Q => ∃ p ys, xs = [.ref p] ∧ ((SqL K H p ys ∧ NewT ys H Q) ∨ (SqT K H p ys ∧ Q (.ref p) H))
theorem call_tupF : CallR X (.type "tuple") (rTupF X.K) := by
  intro pins s σ H xs us Q I r h
  obtain ⟨p, ys, rfl, h⟩ := h
  obtain ⟨u, rfl, rx⟩ := vals1 r
  cases rx
  rcases h with ⟨hq, q⟩ | ⟨hq, q⟩
  · obtain ⟨its, r', pl, hz⟩ := I.list hq
    have hlen := r'.length
    refine call_tuple_list pl.isList (fun h' kp => ?_) (by simp only [List.size_toArray] <;> omega)
    have I1 : Inv X pins σ H { s with heap := h' } := I.kept (t' := s.toks) kp
    exact newT_end (tk := s.toks) I1 r' hz q
  · obtain ⟨its, r', pl, hz⟩ := I.tuple hq
    exact call_tuple_same pl ⟨.ref p, H, I, rfl, q⟩
/-- t + u -/
def rCatF (K : PySem.W.Frag) : R2 := fun x y H Q => ∃ a b xs ys, x = .ref a ∧ y = .ref b ∧ SqT K H a xs ∧ SqT K H b ys ∧ xs.length + ys.length ≤ sizeLine ∧
  (xs = [] → Q (.ref b) H) ∧ (xs ≠ [] → ys = [] → Q (.ref a) H) ∧ (xs ≠ [] → ys ≠ [] → NewT (xs ++ ys) H Q)
theorem op_catF : OpR X (binaryOp .Add) (rCatF X.K) := by
  intro pins s σ H x y v u Q I rx ry h
  obtain ⟨a, b, xs, ys, rfl, rfl, ha, hb, hz, q0, q1, q2⟩ := h
  cases rx
  cases ry
  obtain ⟨its, r1, p1, _⟩ := I.tuple ha
  obtain ⟨its2, r2, p2, _⟩ := I.tuple hb
  by_cases hx : xs = []
  · subst hx
    cases r1
    exact L2.cat_tup0 p1 p2 ⟨.ref b, H, I, rfl, q0 rfl⟩
  · refine HT.cat_tup p1 p2 (fun z => hx (r1.nil_iff.mp z)) (fun z => ⟨.ref a, H, I, rfl, q1 hx (r2.nil_iff.mp z)⟩) (fun z => ?_) (by rw [← r1.length, ← r2.length]; exact hz)
    exact newT_end (tk := s.toks) I (r1.append r2) (by rw [List.length_append]; exact hz) (q2 hx fun w => z (r2.nil_iff.mpr w))
/-- t[lo:hi] -/
def rSlF (K : PySem.W.Frag) : V → Option Int → Option Int → Hp → VK → Prop := fun x lo hi H Q => ∃ a xs, x = .ref a ∧ SqT K H a xs ∧
  (HT.sIx xs.length 0 lo = 0 ∧ HT.sIx xs.length xs.length hi = xs.length → Q (.ref a) H) ∧ (¬ (HT.sIx xs.length 0 lo = 0 ∧ HT.sIx xs.length xs.length hi = xs.length) → NewT (cutV xs lo hi) H Q)
theorem sl_tupF : SlR X (rSlF X.K) := by
  intro pins s σ H x v vl vu lo hi sl Q I rx hs pl pu h
  obtain ⟨a, xs, rfl, hx, q1, q2⟩ := h
  cases rx
  obtain ⟨its, r, ht, hz⟩ := I.tuple hx
  have hlen : its.toArray.size = xs.length := by rw [List.size_toArray]; exact r.length.symm
  refine ⟨"tuple", _, PyProof.Rows.slot_tuple_getitem.lookup, ht.typeIs, ?_⟩
  by_cases hw : HT.sIx xs.length 0 lo = 0 ∧ HT.sIx xs.length xs.length hi = xs.length
  · exact L2.getItem_tuple_whole ht hs pl pu (by rw [hlen]; exact hw) ⟨.ref a, H, I, rfl, q1 hw⟩
  · refine HT.getItem_tuple_cut ht hs pl pu (by rw [hlen]; exact hw) ?_ (by rw [hlen]; exact hz)
    rw [hlen]
    exact newT_end (tk := s.toks) I ((r.drop (HT.sIx xs.length 0 lo)).take (HT.sIx xs.length xs.length hi - HT.sIx xs.length 0 lo)) (Nat.le_trans (cutV_length xs lo hi) hz) (q2 hw)
end
end Own

namespace Own
open PySem PySem.Spec PyProof.Rows L2
/-- t * 1 (or an empty t): t itself; t * 0 .. : a new empty one -/
theorem tuple_mul_same (l : Addr) (items : Array Value) (n : Nat) (dd : Option Addr) (sl : Array (Option Value)) (x : Int) (u : Tok) (c0 : (decide (x < -(2 ^ 63)) || decide (x ≥ 2 ^ 63)) = false) (c1 : (items.isEmpty || x == 1) = true) :
    Meets (Builtin.«tuple.__mul__» ⟨[.ref l, .int x u], []⟩) (fun _ R s => s.heap.get? l = some { cls := .type "tuple", dict := dd, data := .seq items n, slots := sl } ∧ R (.ok (.ret (Value.ref l))) s) :=
  .of_wp fun prog w A R s h => by
    obtain ⟨hp, g, d, tk, os⟩ := s
    obtain ⟨hl, h⟩ := h
    have f1 := AutoSeq1.idx_int
    wp_walk using wpAny_loadPart' hl
    refine wpAny_ite_false (decide_eq_false (by rw [c0]; exact Bool.false_ne_true)) ?_
    wp_walk using wpAny_loadPart' hl
    exact ⟨_, rfl, h⟩
theorem tuple_mul_none (l : Addr) (items : Array Value) (n : Nat) (dd : Option Addr) (sl : Array (Option Value)) (x : Int) (u : Tok) (c0 : (decide (x < -(2 ^ 63)) || decide (x ≥ 2 ^ 63)) = false) (c1 : (items.isEmpty || x == 1) = false) (c2 : (decide (x ≤ 0) || items.isEmpty) = true) :
    Meets (Builtin.«tuple.__mul__» ⟨[.ref l, .int x u], []⟩) (fun _ R s => s.heap.get? l = some { cls := .type "tuple", dict := dd, data := .seq items n, slots := sl } ∧ R (.ok (.ret (Value.ref s.heap.objs.size))) { s with heap := s.heap.push { cls := .type "tuple", data := .seq #[] } }) :=
  .of_wp fun prog w A R s h => by
    obtain ⟨hp, g, d, tk, os⟩ := s
    obtain ⟨hl, h⟩ := h
    have f1 := AutoSeq1.idx_int
    wp_walk using wpAny_loadPart' hl
    refine wpAny_ite_false (decide_eq_false (by rw [c0]; exact Bool.false_ne_true)) ?_
    wp_walk using wpAny_loadPart' hl
    exact ⟨_, rfl, h⟩
/-- t * k, k from below 0 to 1000 -/
def rRepF (K : PySem.W.Frag) : R2 := fun x y H Q => ∃ l k xs, x = .ref l ∧ y = .int k ∧ SqT K H l xs ∧ -1000 ≤ k ∧ k ≤ 1000 ∧ xs.length ≤ 1000 ∧
  ((xs = [] ∨ k = 1) → Q (.ref l) H) ∧ (xs ≠ [] → k ≠ 1 → NewT (List.replicate k.toNat xs).flatten H Q)
section
variable {X : Cx}
theorem op_repF : OpR X (binaryOp .Mult) (rRepF X.K) := by
  intro pins s σ H x y v u Q I rx ry h
  obtain ⟨l, k, xs, rfl, rfl, hT, h1, h2, hz, q0, q1⟩ := h
  cases rx
  obtain ⟨t, rfl⟩ := ry
  obtain ⟨its, r, ⟨⟨cls, dd, data, sl⟩, ho, hc, n, hd⟩, hs⟩ := I.tuple hT
  simp only at hc hd
  subst hc hd
  have hle : its.length = xs.length := r.length.symm
  have hsz0 : its.toArray.size = xs.length := by rw [List.size_toArray, hle]
  have c0 : (decide (k < -(2 ^ 63)) || decide (k ≥ 2 ^ 63)) = false := by
    rw [decide_eq_false (by omega), decide_eq_false (by omega)] <;> rfl
  have mul : ∀ Q' : Value → Shared → Prop, wpAny (model X.prog X.w) X.A (call (.builtin "tuple.__mul__") [.ref l, .int k t]) Q' X.xe s → wpAny (model X.prog X.w) X.A (binaryOp .Mult (.ref l) (.int k t)) Q' X.xe s := fun Q' hc =>
    wpAny_binaryOp_repeat_ref (T := "tuple") (U := "int") (by decide) ⟨_, ho, rfl⟩ (fun s' => typeIs_int s' k t) noFill_tuple_mul F.fills_int_mul F.slot_int_rmul repeat_tuple F.slot_int_index.lookup
      (call_meets F.slot_int_rmul (typeIs_int s k t) F.entry_int_rmul (F.args_int_rmul_2 _ _) (int_rmul_tuple k t l its.toArray n dd sl) ⟨ho, rfl, ⟨_, ho, rfl⟩, hc⟩)
  refine mul _ ?_
  by_cases hs1 : xs = [] ∨ k = 1
  · have c1 : (its.toArray.isEmpty || k == 1) = true := by
      rcases hs1 with e | e
      · rw [show its = [] from List.eq_nil_of_length_eq_zero (by rw [hle, e] <;> rfl)]
        rfl
      · rw [e, beq_self_eq_true, Bool.or_true]
    exact call_meets F.slot_tuple_mul ⟨_, ho, rfl⟩ F.entry_tuple_mul (F.args_tuple_mul_2 _ _) (tuple_mul_same l its.toArray n dd sl k t c0 c1) ⟨ho, .ref l, H, I, rfl, q0 hs1⟩
  · have hne : xs ≠ [] := fun e => hs1 (.inl e)
    have hk1 : k ≠ 1 := fun e => hs1 (.inr e)
    have hn : its ≠ [] := fun e => hne (List.eq_nil_of_length_eq_zero (by rw [← hle, e] <;> rfl))
    have hi : its.toArray.isEmpty = false := by
      cases its with
      | nil => exact absurd rfl hn
      | cons a b => rfl
    have c1 : (its.toArray.isEmpty || k == 1) = false := by
      rw [hi, Bool.false_or]
      exact beq_eq_false_iff_ne.mpr hk1
    by_cases hk0 : k ≤ 0
    · have c2 : (decide (k ≤ 0) || its.toArray.isEmpty) = true := by rw [decide_eq_true hk0, Bool.true_or]
      refine call_meets F.slot_tuple_mul ⟨_, ho, rfl⟩ F.entry_tuple_mul (F.args_tuple_mul_2 _ _) (tuple_mul_none l its.toArray n dd sl k t c0 c1 c2) ⟨ho, ?_⟩
      have z : k.toNat = 0 := by omega
      have q := q1 hne hk1
      rw [z] at q
      exact newT_end (tk := s.toks) (xs := []) (its := []) I .nil (Nat.zero_le _) q
    · have hm : ((its.toArray.size : Nat) : Int) * k ≤ 1000000 := by
        rw [hsz0]
        have a1 : ((xs.length : Nat) : Int) * k ≤ 1000 * k := Int.mul_le_mul_of_nonneg_right (by omega) (by omega)
        omega
      have flen : k.toNat * xs.length ≤ sizeLine := by
        rw [sizeLine_eq]
        have a1 : k.toNat * xs.length ≤ 1000 * 1000 := Nat.mul_le_mul (by omega) hz
        omega
      have c2 : (decide (k ≤ 0) || its.toArray.isEmpty) = false := by
        rw [hi, Bool.or_false]
        exact decide_eq_false hk0
      have c4 : Builtin.Tuple.tupleTooMany (((its.toArray.size : Nat) : Int) * k) = false := by
        unfold Builtin.Tuple.tupleTooMany
        rw [sizeLine_eq]
        exact decide_eq_false (by omega)
      refine call_meets F.slot_tuple_mul ⟨_, ho, rfl⟩ F.entry_tuple_mul (F.args_tuple_mul_2 _ _) (tuple_mulW l its.toArray n dd sl k t c0 c1 c2 (by omega) c4 (by rw [size_rep, List.size_toArray, PyProof.Rows.lm_len_rep_flat, hle]; exact flen)) ⟨ho, ?_⟩
      rw [size_rep]
      exact newT_end (tk := s.toks) I (r.rep k.toNat) (by rw [PyProof.Rows.lm_len_rep_flat]; exact flen) (q1 hne hk1)
end
end Own

namespace Own
open PySem PySem.Spec PyProof.Rows L2
/-! ### t.count(k) -/
theorem Tp.at {K : PySem.W.Frag} {X : Cx} {pins : List (Addr × Obj)} {σ : L2.St} {H : Hp} {s : Shared} {p : Addr} {xs : List V} (I : Inv X pins σ H s) (h : Tp X.K H p xs) :
    ∃ (its : List Value) (o : Obj) (n : Nat), Vals xs its ∧ s.heap.get? p = some o ∧ o.cls = .type "tuple" ∧ o.dict = none ∧ o.data = .seq its.toArray n := by
  rcases h with ⟨o, hd, h⟩ | ⟨o, its, n, h1, h2, h3, h4, h5, h6⟩
  · obtain ⟨e, _, its, r, ob, e2, c, n, d⟩ := I.hok p _ h
    rw [e] at e2
    cases e2
    exact ⟨its, o, n, r, e, c, hd, d⟩
  · exact ⟨its.toList, o, n, h6, I.kIn p o h1, h2, h3, h4⟩
def rTCnt (K : PySem.W.Frag) : V → List V → Hp → VK → Prop := fun x xs H Q => ∃ (p : Addr) (ns : List Int) (k : Int), x = .ref p ∧ xs = [.int k] ∧ Tp K H p (ns.map V.int) ∧ Q (.int (ns.count k : Nat)) H
/-- t.m(e, ..) of a tuple that is tracked with its object -/
def tTM (K : PySem.W.Frag) (r : V → List V → Hp → VK → Prop) (to : TE) (t : TA) : TE := fun σ H Q => to σ H fun x H1 => (∃ p xs, x = .ref p ∧ Tp K H1 p xs) ∧ t σ H1 fun xs H2 => r x xs H2 Q
section
variable {X : Cx} {o e : Expr} {es : List Expr} {to : TE} {t : TA} {name : Str} {apos cpos : Pos} {id : String} {r : V → List V → Hp → VK → Prop}
theorem mt_tcount : MtR X "tuple.count" (rTCnt X.K) := by
  intro pins s σ H x xs v us Q I rx rxs h
  obtain ⟨p, ns, k, rfl, rfl, hs, q⟩ := h
  cases rx
  obtain ⟨u, rfl, ru⟩ := rxs.one
  obtain ⟨t, rfl⟩ := ru
  obtain ⟨its, ⟨cls, dd, data, sl⟩, n, rv, ho, hc, hdn, hd⟩ := Tp.at (K := X.K) I hs
  simp only at hc hd
  subst hc hd
  have hi := ints_of_vals rv
  refine call_meets PySem.F.slot_tuple_count ⟨_, ho, rfl⟩ PySem.F.entry_tuple_count (PySem.F.args_tuple_count_2 _ _)
    (SeqAt.tuple_countAt p its.toArray n dd sl (.int k t) (eqk k)) ⟨ho, fun y hy => (eqk_gives hi y (by simpa using hy)).at _ _, ?_⟩
  have ec : its.toArray.toList.countP (eqk k) = ns.count k := eqk_count hi
  refine ⟨.int (ns.count k : Nat), H, I.tok _, ⟨s.toks, ?_⟩, q⟩
  show Value.int ((its.toArray.toList.countP (eqk k) : Nat) : Int) s.toks = Value.int ((ns.count k : Nat) : Int) s.toks
  rw [ec]
theorem pe_tm (pa : PlainAttrs "tuple") (slot : Slot "tuple" name id) (hty : typeOf (.builtin id) = pure (.type "method_descriptor")) (hm : MtR X id r) (ho : PE X o to) (ha : PA X (e :: es) t)
    (hbase : attributeBase o name X.env (eval o X.env) = eval o X.env := by rfl)
    (hfew : ((backTo cpos (starEach (e :: es) X.env)).all (fun x => !x.1) && (backToKw cpos (keywordEach [] X.env)).all (fun x => x.1.isSome)
      && decide ((e :: es).length + ([] : List Keyword).length + (if ([] : List Keyword).isEmpty then 0 else 1) < 30)) = true := by rfl)
    (hline : (apos.endLine == cpos.line) = true := by rfl) (hs : starEach (e :: es) X.env = (false, eval e X.env) :: starEach es X.env := by rfl) (hplain : (backTo cpos (starEach es X.env)).any (·.1) = false := by rfl) :
    PE X (.Call (.Attribute o name apos) (e :: es) [] cpos) (tTM X.K r to t) := by
  refine ⟨fun pins s σ H Q I h => ?_⟩
  refine wpAny_Call_method_late hbase hfew hline rfl (thn (ho.run pins s σ H _ I h) fun v s1 ⟨x, H1, I1, r1, ⟨p, xs, ex, ty⟩, q1⟩ => ?_)
  subst ex
  obtain rfl : v = Value.ref p := r1
  obtain ⟨its, ob, n, _, g1, g2, g3, _⟩ := Tp.at (K := X.K) I1 ty
  refine ⟨"tuple", id, pa, slot, hty, ⟨ob, g1, g2⟩, fun a ea => ?_, ?_⟩
  · cases ea
    exact ⟨ob, g1, g3⟩
  have hA := ha.run cpos pins s1 σ H1 _ I1 q1
  rw [hs] at hA ⊢
  refine Calls.callWith_builtin (by show (false || (backTo cpos (starEach es X.env)).any (·.1)) = false; rw [hplain] <;> rfl) (Calls.evalArgs_plain ?_)
  exact thn hA fun us s2 ⟨vs, H2, I2, r2, q2⟩ => hm pins s2 σ H2 (.ref p) vs _ us Q I2 (show RelV (V.ref p) (Value.ref p) from rfl) r2 q2
/-- f(k = v, ..): every argument by its name -/
def tCall0K (sp : Sp) (gV : List V → List V → List V) (E : XK) (tk : TA) : TE := fun σ H Q => tk σ H fun zs H2 => sp (gV [] zs) H2 Q E
theorem pe_call0K {CX : CXT} {k : Nat} {f : Addr} {fd : FuncData} {ps ks : List Str} {sp : Sp} {E : XK} {x : Str} {p pos : Pos} {kws : List Keyword} {tk : TA} {g : List Value → List Value → List Value} {gV : List V → List V → List V}
    (F : FnOk X.prog X.w X.K X.mg X.base CX k f fd ps sp) (hr : Room k X.A) (hg : Gl X x) (hm : X.mg x = some (.ref f)) (hk : PySem.W.keepIn X.K (.ref f) = true) (hb : KBinds X.K fd ps ks g gV) (hx : Passes CX X E)
    (hkw : PK X kws tk) (hall : (backToKw pos (keywordEach kws X.env)).all (·.1.isSome) = true := by rfl) (hks : (backToKw pos (keywordEach kws X.env)).filterMap (·.1) = ks := by rfl)
    (hdb : (x == ("__debug__" : Str)) = false := by decide) (hpl : ((backTo pos (starEach [] X.env)).any (·.1) || (backToKw pos (keywordEach kws X.env)).any (·.1.isNone)) = false := by rfl) : PE X (.Call (.Name x p) [] kws pos) (tCall0K sp gV E tk) := by
  refine ⟨fun pins s σ H Q I h => ?_⟩
  refine wpAny_Call_Name_kw (ld_glob I hg hm ?_ hdb)
  refine PySem.W.callWith_KW0 (h₀ := X.base) I.ok.mod.kin hk hall (thn (hkw.run pos pins s σ H _ I h) fun ws s2 ⟨zs, H2, I2, rz, q2⟩ => ⟨I2.kIn, ?_⟩) hpl
  rw [hks]
  exact run_fnk (us := []) F hr hb hx I2 .nil rz q2
end
end Own

set_option maxHeartbeats 4000000
/-! Own errors two classes below Exception, whose __init__ says super().__init__(text) and then stores its arguments. -/
namespace PySem
namespace OwX
open PySem.W PySem.Calls PyProof.Rows PySem.HandSPX
abbrev exT : List Value := [.type "Exception", .type "BaseException", .type "object"]
section
open Builtin Builtin.ObjectAttr
variable {prog : Program} {w : World} {A : Around} {E : Value → Shared → Prop} {R : Result → Shared → Prop} {hp : Heap} {g : Array GenState} {d : Drawn} {t : Nat} {os : OsState}
theorem tail2_has {C M : Addr} (X : String) (hX : exT.contains (.type X) = true) : (Value.ref C :: .ref M :: exT).contains (.type X) = true := by
  rw [List.contains_cons, List.contains_cons, hX, Bool.or_true, Bool.or_true]
theorem mro2_has {K : W.Frag} {C M : Addr} {cd : ClassData} (hcd : W.clsIn K C = some cd) (hm : cd.mro = .ref C :: .ref M :: exT) {b : Value} (hb : (Value.ref C :: .ref M :: exT).contains b = true) : W.mroIn K C b = some true := by
  unfold W.mroIn
  rw [hcd, Option.bind_some, hm, if_neg (show ¬ (List.isEmpty (Value.ref C :: .ref M :: exT) = true) from Bool.false_ne_true), hb]
/-- up to the object's own dict -/
theorem osa_two {K : W.Frag} {name : Str} {tk : Tok} {v : Value} {x C M : Addr} {ox : Obj} {od : Option Obj} {cd : ClassData}
    (X : K.In hp) (I : W.InstAt hp x ox C od) (hcd : W.clsIn K C = some cd) (hm : cd.mro = .ref C :: .ref M :: exT) (ha : W.findIn K (.ref C) name = some none)
    (hq : wpAny (model prog w) A.in1 (storeInOwnDict (.ref x) (.ref C) (.str name tk) name v false)
      (fun fin s' => match fin with | .done f => R (.ok f) s' | .again c' => c'.quiet = true ∧ codeAny (model prog w) A c' R s') (fun e s' => R (.error e) s') ⟨hp, g, d, t, os⟩) :
    codeAny (model prog w) A (.call (.builtin "object.__setattr__") ⟨[.ref x, .str name tk, v], []⟩) R ⟨hp, g, d, t, os⟩ := by
  have SF := F.store_object
  have sub : W.Looks (model prog w) hp (isInstance (.ref x) (.type "object")) true := I.type.andThen (W.looks_mroIn X (mro2_has hcd hm (tail2_has "object" (by decide +kernel))))
  refine codeAny_call_builtin SF.slot.plain SF.entry (@W.check_slot (model prog w) _ _ ⟨hp, g, d, t, os⟩ "object.__setattr__" "object" "__setattr__" (.ref x) [.str name tk, v] [] _ SF.kind SF.split sub (SF.args (.ref x) (.str name tk) v) ?_)
  have hmr : W.Looks (model prog w) hp (mroOf (.ref C)) cd.mro := (W.looks_clsIn X hcd).andThen .now
  have L3 : W.Looks (model prog w) hp (storeTaker? none) none := .now
  have hpass : refuseLoop (.ref x) "__setattr__" cd.mro = pure () := by
    rw [hm, refuseLoop_ref, refuseLoop_ref]
    exact F.store_Exception.passes _
  rw [W.osa_eq, refuse_eq]
  refine wpAny_bind (wpAny_bind (I.type.at (wpAny_bind (hmr.at ?_))))
  rw [hpass]
  refine wpAny_pure (wpAny_bind (I.type.at (wpAny_bind ((W.looks_findIn X ha).at (wpAny_bind (L3.at ?_))))))
  exact hq
theorem osa_two_new {K : W.Frag} {name : Str} {tk : Tok} {v : Value} {x C M : Addr} {fv : Array Value} {cd : ClassData}
    (X : K.In hp) (hx : hp.get? x = some { cls := .ref C, data := .fields fv }) (hcd : W.clsIn K C = some cd) (hm : cd.mro = .ref C :: .ref M :: exT) (hh : cd.hasDict = true) (ha : W.findIn K (.ref C) name = some none)
    (hq : ∀ h' tk' dx, (∀ b o, b ≠ x → hp.get? b = some o → h'.get? b = some o) → hp.objs.size ≤ dx → dx ≠ x → h'.get? x = some { cls := .ref C, dict := some dx, data := .fields fv } →
      h'.Ns1 dx (fun y => if y = name then some v else none) → R (.ok (.ret .none)) ⟨h', g, d, tk', os⟩) :
    codeAny (model prog w) A (.call (.builtin "object.__setattr__") ⟨[.ref x, .str name tk, v], []⟩) R ⟨hp, g, d, t, os⟩ := by
  have I : W.InstAt hp x { cls := .ref C, data := .fields fv } C none := ⟨hx, rfl, rfl, trivial⟩
  have hxs : x ≠ hp.objs.size := Nat.ne_of_lt (Heap.lt_size hx)
  refine osa_two X I hcd hm ha ?_
  have hcls : W.Looks (model prog w) hp (classData C) cd := W.looks_clsIn X hcd
  obtain ⟨nm, bs, mro, ns, qn, hd, sn, sb, ab, col, del⟩ := cd
  dsimp only at hh
  subst hh
  unfold storeInOwnDict ownDictForStores
  repeat (first | with_reducible refine HandSPX.store_in_new ?_ ?_ | with_reducible refine wpAny_loadPart_at hx ?_ | with_reducible refine hcls.at ?_ | wp_step)
  · exact ⟨_, #[], _, (Heap.get?_update_ne _ _ _ _ hxs.symm).trans (Heap.get?_push_at rfl rfl), rfl, fun e he => absurd he (by simp), fun _ => rfl⟩
  · intro h' tk' hn' hs
    have hx1 : (hp.push { cls := .type "dict", data := .dict #[] }).get? x = some { cls := .ref C, data := .fields fv } := Heap.get?_push_of_some _ hx
    refine hq h' tk' hp.objs.size (fun b o hb ho => ?_) (Nat.le_refl _) hxs.symm ?_ hn'
    · exact (hs.2 b (Nat.ne_of_lt (Heap.lt_size ho))).trans ((Heap.get?_update_ne _ _ _ _ hb).trans (Heap.get?_push_of_some _ ho))
    · exact (hs.2 x hxs).trans (Heap.get?_update_self _ hx1 rfl)
end
end OwX
end PySem

namespace PySem
namespace OwXat
open PySem.W PySem.Calls PyProof.Rows PySem.HandSPX PySem.OwX
/-! ### the text of __init__, for one field -/
def iA (p1 p2 : Pos) : Arguments := { posonlyargs := [], args := [{ arg := "self", annotation := none, pos := p1 }, { arg := "at", annotation := none, pos := p2 }], vararg := none, kwonlyargs := [], kw_defaults := [], kwarg := none, defaults := [] }
def iS : Scope := { kind := .function, names := [(PySem.Str.ofString "self", .local), (PySem.Str.ofString "at", .local), (PySem.Str.ofString "__class__", .free), (PySem.Str.ofString "super", .globalImplicit)], isGenerator := false, isCoroutine := false, more := [] }
def sSup (msg : Str) (p0 p1 p2 p3 p4 p5 : Pos) : Stmt := .Expr (.Call (.Attribute (.Call (.Name "super" p0) [] [] p1) "__init__" p2) [.Constant (.str msg) 0 p3] [] p4) p5
def sStore (q1 q2 q3 q4 : Pos) : Stmt := .Assign [.Attribute (.Name "self" q1) "at" q2] (.Name "at" q3) q4
/-- what the written part says of such a class at C, over the one at M, and of its __init__ at fI -/
structure OexT (P : Program) (K : Frag) (C M fI : Addr) : Prop where
  cls : ∃ nm q N bs sn sub ab col dd k0 k1 k2 k3 k5, K.lookup C = some (excClassObj nm q C N bs (.ref M :: exT) true sn sub ab col dd k0 k1 k2 k3 k5 "Exception.__new__")
  sa : findIn K (.ref C) "__setattr__" = some (some (.builtin "object.__setattr__"))
  ga : findIn K (.ref C) "__getattribute__" = some (some (.builtin "BaseException.__getattribute__"))
  gg : findIn K (.ref C) "__getattr__" = some none
  noN : findIn K (.ref C) "at" = some none
  iC : findIn K (.ref C) "__init__" = some (some (.ref fI))
  tC : typeIn K (.ref fI) = some (.type "function")
  kC : keepIn K (.ref C) = true
  exC : subIn K (.ref C) (.type "BaseException") = some true
  exE : subIn K (.ref C) (.type "Exception") = some true
  tyC : typeIn K (.ref C) = some (.type "type")
  hdC : hasDictIn K C = true
  te : exmOne K (.ref C) (.ref C) = some true
  sI : alongIn K "__init__" (.ref M :: exT) = some (some (.builtin "Exception.__init__"))
  op : nsIn K cStatics "thirdparty.any" = some none
  sup : nsIn K mainGlobals "super" = some none
  top : (P.main.scope.names.lookup ("super" : Str)).isSome = false
  fn : ∃ (qual : Str) (oc : Value) (od : Option Addr) (doc pm : Value) (an : Option Addr) (cda cc : Addr) (ct : Value) (osl : Array (Option Value)) (msg : Str) (p1 p2 r0 r1 r2 r3 r4 r5 q1 q2 q3 q4 : Pos) (ccl cl : Value) (cdd cld : Option Addr) (ccs csl : Array (Option Value)) (vs : Array Value) (tf : Tok),
    K.lookup fI = some ⟨oc, od, .func (ksFn "__init__" qual (iA p1 p2) [sSup msg r0 r1 r2 r3 r4 r5, sStore q1 q2 q3 q4] iS .none .none doc pm an (.ref cda) ct cc), osl⟩ ∧ codeIn K (.ref cda) qual = true ∧
      K.lookup cda = some ⟨ccl, cdd, .fields vs, ccs⟩ ∧ vs[2]? = some (.str P.main.file tf) ∧ K.lookup cc = some ⟨cl, cld, .cell (some (.ref C)), csl⟩ ∧
      (∀ env : Env, ∃ pl : Sem Bool, eval (.Call (.Attribute (.Call (.Name "super" r0) [] [] r1) "__init__" r2) [.Constant (.str msg) 0 r3] [] r4) env = (do
        let ov ← attributeBase (.Call (.Name "super" r0) [] [] r1) "__init__" env (eval (.Call (.Name "super" r0) [] [] r1) env)
        standAt r2.atName
        let (f, first) ← holding [ov] (getMethod ov "__init__" pl)
        callWith r4 f first (backTo r4 (starEach [.Constant (.str msg) 0 r3] env)) [])) ∧
      (∀ env : Env, swapsWith (.Call (.Attribute (.Call (.Name "super" r0) [] [] r1) "__init__" r2) [.Constant (.str msg) 0 r3] [] r4) none r5.line env = pure false) ∧
      (∀ env : Env, swapsWith (.Name "at" q3) (some (.Attribute (.Name "self" q1) "at" q2)) q4.line env = pure false)
/-- what __init__ leaves of a fresh exception at x -/
structure InitEnd (h h' : Heap) (x C dx t1 : Addr) (v : Value) : Prop where
  keep : ∀ b o, b ≠ x → h.get? b = some o → h'.get? b = some o
  obj : h'.get? x = some { cls := .ref C, dict := some dx, data := .fields #[.ref t1, .none, .none, .none, .bool false, .none] }
  dbig : h.objs.size ≤ dx
  dne : dx ≠ x
  ns : h'.Ns1 dx (fun y => if y = "at" then some v else none)
section
variable {prog : Program} {w : World} {A : Around} {E : Value → Shared → Prop} {R : Result → Shared → Prop} {s : Shared} {K : Frag} {mg mb : Str → Option Value} {C M fI : Addr}
theorem inv_init (T : OexT prog K C M fI) {x t0 : Addr} {v : Value} (X : K.In s.heap) (hlim : s.heap.NoLimit) (hg : s.heap.Ns mainGlobals mg) (hb : s.heap.Ns builtinsNs mb) (hbb : ∀ y : Str, y ≠ "__name__" → mb y = bootBuiltins y)
    (hx : s.heap.get? x = some (excO C t0)) (hnx : K.lookup x = none) (hroom : A.depth < recursionLimit)
    (hq : ∀ h' tk dx t1, InitEnd s.heap h' x C dx t1 v → R (.ok (.ret .none)) { s with heap := h', toks := tk }) :
    codeAny (model prog w) A (.call (.ref fI) ⟨[.ref x, v], []⟩) R s := by
  obtain ⟨qual, oc, od, doc, pm, an, cda, cc, ct, osl, msg, p1, p2, r0, r1, r2, r3, r4, r5, q1, q2, q3, q4, ccl, cl, cdd, cld, ccs, csl, vs, tf, ho, hcd, hcda, hvs, hcc, hev, hsw, hsw2⟩ := T.fn
  obtain ⟨nm, q, N, bs, sn, sub, ab, col, dd, k0, k1, k2, k3, k5, hC⟩ := T.cls
  have hcl : clsIn K C = some { name := nm, bases := bs, mro := .ref C :: .ref M :: exT, ns := N, qualname := q, hasDict := true, slotNames := sn, subclasses := sub, abstract := ab, collection := col, hasDel := false } := by unfold clsIn; rw [hC] <;> rfl
  refine ks_codeAny_call_defAt (fd := ksFn "__init__" qual (iA p1 p2) [sSup msg r0 r1 r2 r3 r4 r5, sStore q1 q2 q3 q4] iS .none .none doc pm an (.ref cda) ct cc) (body := [sSup msg r0 r1 r2 r3 r4 r5, sStore q1 q2 q3 q4]) (binds := [("self", .ref x), ("at", v)])
    hroom (X _ _ ho) rfl hlim (codeRec_of X hcd) rfl (BindsTo.of_eq (by first | rfl | with_unfolding_all rfl)) (show ∀ y ∈ iS.names, y.2 ≠ .cell by decide +kernel) (by simp only [List.mem_cons, List.not_mem_nil, or_false]; rintro y (rfl | rfl) <;> rfl) (fun h1 hns hk => ?_) rfl rfl rfl
  have X1 : K.In h1 := X.keeps hk
  have hx1 := hk _ _ hx
  have hD1 : h1.get? C = some (excClassObj nm q C N bs (.ref M :: exT) true sn sub ab col dd k0 k1 k2 k3 k5 "Exception.__new__") := X1 _ _ hC
  have hxC : x ≠ C := fun e => by
    rw [e, hD1] at hx1
    cases hx1
  have hmC : Looks (model prog w) h1 (isSubtype (.ref C) (.ref C)) true := looks_mroIn X1 (OwX.mro2_has hcl rfl (by simp))
  have hmg : mg "super" = none := mg_none_of X hg T.sup
  generalize hen : callEnv (ksFn "__init__" qual (iA p1 p2) [sSup msg r0 r1 r2 r3 r4 r5, sStore q1 q2 q3 q4] iS .none .none doc pm an (.ref cda) ct cc) s.heap.objs.size fI = en
  have en1 : en.scope = iS := by rw [← hen] <;> rfl
  have en2 : en.func = some fI := by rw [← hen] <;> rfl
  have en3 : en.code = .ref cda := by rw [← hen] <;> rfl
  have en4 : en.globals = mainGlobals := by rw [← hen] <;> rfl
  have en5 : en.builtins = builtinsNs := by rw [← hen] <;> rfl
  have en6 : en.cells = [(PySem.Str.ofString "__class__", cc)] := by rw [← hen] <;> rfl
  have en7 : en.locals = s.heap.objs.size := by rw [← hen] <;> rfl
  have kd : ∀ y : Str, en.kindOf y = iS.names.lookup y := fun y => by
    show en.scope.names.lookup y = _
    rw [en1]
  obtain ⟨pl, hev1⟩ := hev en
  -- super()
  refine ks_wpAt_execs_cons (ks_wpAt_Expr_any (ks_wpAt_MethodCall (pl := pl) (ks_wpAt_super_base (hks := by rw [kd]; decide +kernel) (hkc := by rw [kd]; decide +kernel) (hat := by decide) (hfu := en2) (hf := X1 _ _ ho) (hfd := rfl) (hp := rfl) (hco := en3) (hcc := X1 _ _ hcda) (hoc := rfl) (hvs := hvs) (hfile := by simp) (htop := T.top) ?_) hev1) (by unfold interactive; rw [en1]; rfl) (hsw en))
  have kf : en.scope.kind = .function := by rw [en1] <;> rfl
  refine ks_loadName_global kf (by rw [kd]; decide +kernel) (loadGlobal_builtin (by rw [en4]; exact hg.keeps hk) hmg (by rw [en5]; exact hb.keeps hk) ((hbb _ (by decide +kernel)).trans (by decide +kernel)) ⟨rfl, ?_⟩)
  refine wpAny_loadName_free kf (by rw [kd]; decide +kernel) (by rw [en6]; rfl) ⟨_, X1 _ _ hcc, rfl⟩ ?_
  refine wpAny_loadName_local (v := .ref x) kf (show en.kindOf "self" = some .local by rw [kd]; decide +kernel) (by rw [en7]; exact hns) (by rfl) ?_
  refine ks_wpAny_isType_cls hD1 rfl ⟨rfl, ?_⟩
  refine ks_wpAny_call_super hD1 rfl hx1 rfl (fun c e => by cases e) hmC (fun h2 hso k2 => ?_)
  have X2 : K.In h2 := X1.keeps k2
  have hx2 := k2 _ _ hx1
  have I2 : InstAt h2 x (excO C t0) C none := ⟨hx2, rfl, rfl, trivial⟩
  refine ESX.getMethod_super hso (looks_opaque X2 T.op) (l₀ := .ref C :: .ref M :: exT) (l := .ref M :: exT) ?_ (by simp [List.dropWhile_cons]) X2 T.sI hxC (by decide) (I2.type.andThen (looks_subIn X2 T.exE)) ?_
  · exact (looks_clsIn X2 hcl).andThen .now
  refine ESX.callWith_bound (x := x) (first := []) ?_
  refine Calls.spliced_cons (Calls.Constant_str (pos := r3) (k := 0) (Calls.spliced_nil ?_))
  have k3 : ∀ b o, h2.get? b = some o → (h2.push (ESX.bw x)).get? b = some o := fun b o e => Heap.get?_push_of_some _ e
  refine ⟨Heap.get?_push_size _ rfl, ?_⟩
  refine ESX.call_bw (C := C) (e := x) (t0 := t0) (k3 _ _ (k2 _ _ hD1)) (k3 _ _ hx2) (Heap.get?_push_size _ rfl) (by rw [sizeLine_eq]; show (1 : Nat) ≤ 16777216; decide) (fun h4 t1 k4 hx4 => ?_)
  have kk : ∀ b o, b ≠ x → s.heap.get? b = some o → h4.get? b = some o := fun b o hb e => k4 b o hb (k3 b o (k2 b o (hk b o e)))
  have X4 : K.In h4 := fun a o e => kk a o (fun z => by
    rw [z, hnx] at e
    cases e) (X a o e)
  have hns4 : h4.Ns en.locals (fun y => [(PySem.Str.ofString "self", Value.ref x), (PySem.Str.ofString "at", v)].reverse.lookup y) := by
    rw [en7]
    obtain ⟨o, es, ep, e1, e2⟩ := id hns
    exact ⟨o, es, ep, k4 _ _ (fun z => absurd (Heap.lt_size hx) (by rw [← z]; exact Nat.lt_irrefl _)) (k3 _ _ (k2 _ _ e1)), e2⟩
  show wpAt _ _ _ _ _ _ _
  refine wpAt_of_wpAny ?_
  -- self."at" = "at"
  show wpAny _ _ (execs _ _) _ _ _
  refine wpAny_execs_cons (plainObj_wpAny_Assign_Attribute ?_ (hsw2 en))
  refine wpAny_Name (wpAny_loadName_local (v := v) kf (by rw [kd]; decide +kernel) hns4 (by rfl) ?_) (by decide)
  refine wpAny_Name (wpAny_loadName_local (v := .ref x) kf (by rw [kd]; decide +kernel) hns4 (by rfl) ?_) (by decide)
  refine set_plain X4 (ox := excO C t1) (od := none) ⟨hx4, rfl, rfl, trivial⟩ T.sa ?_
  refine OwX.osa_two_new X4 hx4 hcl rfl rfl T.noN (fun h5 tk5 dx k5 dn dne hx5 hn5 => ?_)
  show wpAny _ _ (execs _ _) _ _ _
  refine wpAny_execs_nil (hq h5 tk5 dx t1 ⟨fun b o hb e => k5 b o hb (kk b o hb e), hx5, ?_, dne, hn5⟩)
  obtain ⟨o, es, ep, e1, e2⟩ := hns4
  rw [en7] at e1
  exact Nat.le_trans (Nat.le_of_lt (Heap.lt_size e1)) dn
/-- a made error: what stands at e (its dict at d) -/
structure Made (h h' : Heap) (e C d : Addr) (v : Value) : Prop where
  keep : ∀ b o, h.get? b = some o → h'.get? b = some o
  new : h.objs.size ≤ e
  obj : ∃ oe vs, h'.get? e = some oe ∧ oe.cls = .ref C ∧ oe.dict = some d ∧ oe.data = .fields vs ∧ vs[1]? = some .none
  dbig : h.objs.size ≤ d
  dne : d ≠ e
  ns : h'.Ns1 d (fun y => if y = "at" then some v else none)
theorem inv_made (T : OexT prog K C M fI) {v : Value} (X : K.In s.heap) (hlim : s.heap.NoLimit) (hg : s.heap.Ns mainGlobals mg) (hb : s.heap.Ns builtinsNs mb) (hbb : ∀ y : Str, y ≠ "__name__" → mb y = bootBuiltins y) (hroom : A.depth + 1 < recursionLimit)
    (hq : ∀ h' tk e d, Made s.heap h' e C d v → R (.ok (.ret (.ref e))) { s with heap := h', toks := tk }) :
    codeAny (model prog w) A (.call (.ref C) ⟨[v], []⟩) R s := by
  obtain ⟨nm, q, N, bs, sn, sub, ab, col, dd, k0, k1, k2, k3, k5, hC⟩ := T.cls
  obtain ⟨hp, g, dr, tk, os⟩ := s
  have k : ∀ b o, hp.get? b = some o → ((hp.push (kdv_tup [v])).push (excO C hp.objs.size)).get? b = some o := fun b o e => Heap.get?_push_of_some _ (Heap.get?_push_of_some _ e)
  have hget : ((hp.push (kdv_tup [v])).push (excO C hp.objs.size)).get? (hp.objs.size + 1) = some (excO C hp.objs.size) := by heap_get
  have hnx : K.lookup (hp.objs.size + 1) = none := by
    cases e : K.lookup (hp.objs.size + 1) with
    | none => rfl
    | some o =>
      have z : hp.get? (hp.objs.size + 1) = some o := X _ _ e
      exact absurd (Nat.lt_of_succ_lt (Heap.lt_size z)) (Nat.lt_irrefl _)
  refine call_own F.excBase_Exception (bm := .ref M :: exT) (fun Y => by rw [List.contains_cons]; rfl) (X _ _ hC) (looks_findIn X T.iC) (fun self => bind_fn X self T.tC) (by rw [sizeLine_eq]; show (1 : Nat) ≤ 16777216; decide) ?_
  refine inv_init (s := ⟨(hp.push (kdv_tup [v])).push (excO C hp.objs.size), g, dr, tk, os⟩) T (X.keeps k) (hlim.keeps k) (hg.keeps k) (hb.keeps k) hbb hget hnx ?_ fun h' tk' dx t1 ⟨k', hx, dn, dne, hns⟩ => ?_
  · show A.depth + 1 < recursionLimit
    exact hroom
  · have old : ∀ b o, hp.get? b = some o → h'.get? b = some o := fun b o e => k' b o (Nat.ne_of_lt (Nat.lt_succ_of_lt (Heap.lt_size e))) (k b o e)
    have z : hp.objs.size + 1 + 1 ≤ dx := by
      have q := dn
      rw [Heap.size_push, Heap.size_push] at q
      exact q
    exact ⟨rfl, hq h' tk' (hp.objs.size + 1) dx ⟨old, Nat.le_succ _, ⟨_, _, hx, rfl, rfl, rfl, rfl⟩, Nat.le_trans (Nat.le_trans (Nat.le_succ _) (Nat.le_succ _)) z, dne, hns⟩⟩
end
end OwXat
end PySem

namespace Own
open PySem PySem.Spec PyProof.Rows L2
theorem relO_at {v : V} {v' : Value} (r : RelV v v') (f : Str) : RelO (List.lookup f [(("at" : Str), v)]) (if f = "at" then some v' else none) := by
  by_cases hw : f = "at"
  · subst hw
    rw [if_pos rfl]
    have q : List.lookup ("at" : Str) [(("at" : Str), v)] = some v := by simp [List.lookup]
    rw [q]
    exact r
  · rw [if_neg hw]
    have qw : (f == ("at" : Str)) = false := by simpa using hw
    have q2 : List.lookup f [(("at" : Str), v)] = none := by simp [List.lookup, qw]
    rw [q2]
    trivial
/-- C(e) -/
def tMk_at (C : Addr) (ta : TA) : L2.St → Hp → XK → Prop := fun σ H Q => ta σ H fun vs H1 => ∃ v, vs = [v] ∧ ∀ d, H1 d = none → Q (.ref C) (some d) (upd H1 d (.xd [(("at" : Str), v)]))
section
variable {X : Cx} {C M fI : Addr} {nm : Str}
theorem pmk_at {a : Expr} {ta : TA} {p pos : Pos} {k : Nat} (T : PySem.OwXat.OexT X.prog X.K C M fI) (gC : X.mg nm = some (.ref C)) (hr : Room k X.A) (ha : PA X [a] ta) (hg : Gl X nm) (hdb : (nm == ("__debug__" : Str)) = false := by decide)
    (he : starEach (a :: []) X.env = (false, eval a X.env) :: starEach [] X.env := by rfl) (hpl : (backTo pos (starEach [] X.env)).any (·.1) = false := by rfl) :
    PMk X (.Call (.Name nm p) [a] [] pos) (tMk_at C ta) := by
  intro pins s σ H Q I h
  refine wpAny_Call_Name_kw (ld_glob I hg gC ?_ hdb)
  refine PySem.W.callWith_K (h₀ := X.base) I.ok.mod.kin T.kC (thn (ha.run pos pins s σ H _ I h) fun us s1 hh => ?_) he hpl
  obtain ⟨vs, H1, I1, r1, v, ev, q1⟩ := hh
  subst ev
  refine ⟨I1.kIn, ?_⟩
  cases r1 with
  | cons rv rn =>
    rename_i v' us'
    cases rn
    show wpAny _ _ (call (.ref C) [v']) _ _ _
    have hlim := I1.nolimit
    obtain ⟨mb, hb, hbb⟩ := I1.ok.mod.blt
    have hg1 := I1.ok.mod.glob.keeps I1.bk
    have hb1 := hb.keeps I1.bk
    obtain ⟨hp, g, dr, tk, os⟩ := s1
    refine wpAny_call (PySem.OwXat.inv_made T I1.kIn hlim hg1 hb1 hbb (by have := hr.dp; omega) fun h' tk' e d M => ?_)
    show MkP X pins σ Q (.ref e) ⟨h', g, dr, tk', os⟩
    obtain ⟨oe, fv, hoe, hc, hd, hdat, h1⟩ := M.obj
    have hns := M.ns
    obtain ⟨G', g1, g2⟩ := restrict h' fun b => decide (b ≠ e)
    have gk : ∀ b, b ≠ e → G'.get? b = h'.get? b := fun b hb => g1 b (decide_eq_true hb)
    have ge : G'.get? e = none := g2 e (by simp)
    have old : ∀ b o, hp.get? b = some o → G'.get? b = some o := fun b o q => (gk b (Nat.ne_of_lt (Nat.lt_of_lt_of_le (Heap.lt_size q) M.new))).trans (M.keep b o q)
    have ob : ObjOk X.prog X.w (upd H1 d (.xd [(("at" : Str), v)])) G' d (.xd [(("at" : Str), v)]) :=
      ⟨_, hns.at (fun o q => (gk d M.dne).trans q), fun f => relO_at rv f⟩
    have J : Inv X pins σ (upd H1 d (.xd [(("at" : Str), v)])) ⟨G', g, dr, tk', os⟩ := I1.laid (t' := tk') old M.dbig ob
    refine ⟨e, oe, fv, ⟨G', g, dr, tk', os⟩, _, .ref C, some d, rfl, J, fun b o q => ?_, ge, hoe, ⟨hc, hd⟩, hdat, h1, ?_, rfl, I1.bare, raises_own T.exC T.tyC, q1 d (I1.hok.fresh M.dbig)⟩
    · by_cases hb : b = e
      · have q' : G'.get? b = some o := q
        rw [hb, ge] at q'
        cases q'
      · exact (gk b hb).symm.trans q
    · rw [upd_ne (Ne.symm M.dne)]
      exact I1.hok.fresh M.new
/-- e."at" of the exception that the suite holds -/
def tBy_at (C : Addr) (a : Addr) (cls : Value) (d : Option Addr) (te : TE) : TE := fun σ H Q => te σ H fun x H1 => x = .ref a ∧ cls = .ref C ∧ ∃ (dd : Addr) (v : V), d = some dd ∧ H1 dd = some (.xd [(("at" : Str), v)]) ∧ Q v H1
theorem pe_by_at {a : Addr} {oe : Obj} {cls : Value} {d : Option Addr} {pn : List (Addr × Obj)} {e : Expr} {te : TE} {pos : Pos} (T : PySem.OwXat.OexT X.prog X.K C M fI) (hz : Zc cls d oe) (hf : ∃ vs, oe.data = .fields vs) (he : PE (X.suite a ((a, oe) :: pn)) e te)
    (hb : attributeBase e "at" X.env (eval e X.env) = eval e X.env := by rfl) :
    PE (X.suite a ((a, oe) :: pn)) (.Attribute e "at" pos) (tBy_at C a cls d te) := by
  refine ⟨fun pins s σ H Q I h => ?_⟩
  refine attr_of hb (thn (he.run pins s σ H _ I h) fun u s1 hh => ?_)
  obtain ⟨x, H1, I1, rx, ex, ec, dd, v, ed, ea, q⟩ := hh
  subst ex
  obtain rfl : u = Value.ref a := rx
  subst ec
  subst ed
  obtain ⟨ha, _⟩ := I1.pin (a, oe) (List.mem_append_left _ List.mem_cons_self)
  obtain ⟨vs, hd⟩ := hf
  have hx : ObjOk X.prog X.w H1 s1.heap dd (.xd [(("at" : Str), v)]) := I1.hok dd _ ea
  obtain ⟨mA, hns, hr⟩ := hx
  obtain ⟨od, ho, hl⟩ := lookIn_ns hns
  have l : List.lookup ("at" : Str) [(("at" : Str), v)] = some v := by simp [List.lookup]
  obtain ⟨u, hu, ru⟩ := RelO.some_of (v := v) (o := mA "at") (by rw [← l]; exact hr "at")
  have J : PySem.W.InstAt s1.heap a oe C (some od) := ⟨ha, hz.1, by unfold PySem.W.notCls; rw [hd] <;> rfl, by rw [hz.2]; exact ho⟩
  exact PySem.HandSPX.exc_get I1.kIn J T.ga T.gg T.exC (PySem.W.findObj_own T.hdC T.noN rfl (by rw [hl, hu])) (handed_of ru) ⟨v, H1, I1.tok _, ru, q⟩
end
end Own

namespace Own
open PySem PySem.Spec PyProof.Rows L2 Evl
/-! ### a def of the text and its promise, by its name -/
def Fn (P : Program) (w : World) (K : PySem.W.Frag) (mg : Str → Option Value) (base : Heap) (CX : CXT) (k : Nat) (x : Str) (st : Stmt) (ps : List Str) (sp : Sp) : Prop :=
  ∃ f fd, mg x = some (.ref f) ∧ FunD K x x (defArgs st) (defBody st) (defScope st) [] [] f fd ∧ Binds K fd ps [] ∧ FnOk P w K mg base CX k f fd ps sp
section
variable {X : Cx} {CX : CXT} {k : Nat} {ps ks : List Str} {sp : Sp} {E : XK} {x : Str} {st : Stmt} {p pos : Pos} {e : Expr} {es : List Expr} {t tk : TA}
theorem Fn.imp {P : Program} {w : World} {K : PySem.W.Frag} {mg : Str → Option Value} {base : Heap} {sp' : Sp} (F : Fn P w K mg base CX k x st ps sp) (h : ∀ vs H Q E, sp' vs H Q E → sp vs H Q E) : Fn P w K mg base CX k x st ps sp' := by
  obtain ⟨f, fd, h1, h2, h3, h4⟩ := F
  exact ⟨f, fd, h1, h2, h3, h4.imp h⟩
theorem Fn.mono {P : Program} {w : World} {K : PySem.W.Frag} {mg : Str → Option Value} {base : Heap} {j : Nat} (F : Fn P w K mg base CX j x st ps sp) (h : j ≤ k) : Fn P w K mg base CX k x st ps sp := by
  obtain ⟨f, fd, h1, h2, h3, h4⟩ := F
  exact ⟨f, fd, h1, h2, h3, h4.mono h⟩
theorem pe_callF (F : Fn X.prog X.w X.K X.mg X.base CX k x st ps sp) (hr : Room k X.A) (hg : Gl X x) (hx : Passes CX X E) (ha : PA X (e :: es) t) (hdb : (x == ("__debug__" : Str)) = false := by decide)
    (he : starEach (e :: es) X.env = (false, eval e X.env) :: starEach es X.env := by rfl) (hpl : (backTo pos (starEach es X.env)).any (·.1) = false := by rfl) :
    PE X (.Call (.Name x p) (e :: es) [] pos) (tCall sp [] E t) := by
  obtain ⟨f, fd, h1, h2, h3, h4⟩ := F
  exact pe_call h4 hr hg h1 h2.kp h3 .nil hx ha hdb he hpl
theorem pe_call0F (F : Fn X.prog X.w X.K X.mg X.base CX k x st ps sp) (hr : Room k X.A) (hg : Gl X x) (hx : Passes CX X E) (hdb : (x == ("__debug__" : Str)) = false := by decide) : PE X (.Call (.Name x p) [] [] pos) (tCall sp [] E tNil) := by
  obtain ⟨f, fd, h1, h2, h3, h4⟩ := F
  exact pe_call0 h4 hr hg h1 h2.kp h3 .nil hx hdb
/-- the values in the parameters' order -/
def pick {α : Type} (n : Nat) (ix : List Nat) (us ws : List α) : List α := match us with
  | [] => if ws.length = n then ix.filterMap fun i => ws[i]? else []
  | _ :: _ => []
theorem pick_rel {n : Nat} {ix : List Nat} {vs : List V} {us : List Value} {zs : List V} {ws : List Value} (r1 : Vals vs us) (r2 : Vals zs ws) : Vals (pick n ix vs zs) (pick n ix us ws) := by
  cases r1 with
  | cons a b => exact .nil
  | nil =>
    show Vals (if zs.length = n then ix.filterMap fun i => zs[i]? else []) (if ws.length = n then ix.filterMap fun i => ws[i]? else [])
    rw [← r2.length]
    by_cases h : zs.length = n
    · rw [if_pos h, if_pos h]
      clear h
      induction ix with
      | nil => exact .nil
      | cons i r ih =>
        rw [List.filterMap_cons, List.filterMap_cons]
        cases e : zs[i]? with
        | none =>
          rw [r2.none_of e]
          exact ih
        | some v =>
          obtain ⟨u, hu, ru⟩ := r2.get e
          rw [hu]
          exact .cons ru ih
    · rw [if_neg h, if_neg h]
      exact .nil
theorem kb_of {K : PySem.W.Frag} {qual : Str} {params : Arguments} {body : List Stmt} {scope : Scope} {f : Addr} {fd : FuncData} (n : Nat) (ix : List Nat) (F : FunD K x qual params body scope [] [] f fd) (hps : ps ≠ [])
    (h : ∀ (kV doc pm : Value) (an : Option Addr) (cdv ct : Value) (ws : List Value), ws.length = n → bindArgs (PySem.W.fnOf x qual params body scope .none kV doc pm an cdv ct) ⟨[], ks.zip ws⟩ = pure (ps.zip (ix.filterMap fun i => ws[i]?))) :
    KBinds K fd ps ks (pick n ix) (pick n ix) := by
  refine ⟨fun s us ws _ hl => ?_, fun r1 r2 => pick_rel r1 r2⟩
  obtain ⟨oc, od, dV, kV, doc, pm, an, cdv, ct, osl, rfl, lk, hcd, hD, hK⟩ := F.ex
  have no : ¬ (([] : List Value).length = ps.length) := fun e => hps (List.eq_nil_of_length_eq_zero e.symm)
  rcases hD with ⟨_, rfl⟩ | ⟨e, _⟩
  · cases us with
    | cons a b => exact absurd hl no
    | nil =>
      by_cases hw : ws.length = n
      · have e : pick n ix ([] : List Value) ws = ix.filterMap fun i => ws[i]? := if_pos hw
        rw [e]
        exact .of_eq (h kV doc pm an cdv ct ws hw)
      · have e : pick n ix ([] : List Value) ws = [] := if_neg hw
        rw [e] at hl
        exact absurd hl no
  · exact absurd rfl e
theorem pe_call0KF {n : Nat} {ix : List Nat} {kws : List Keyword} (F : Fn X.prog X.w X.K X.mg X.base CX k x st ps sp) (hr : Room k X.A) (hb : ∀ {f : Addr} {fd : FuncData}, FunD X.K x x (defArgs st) (defBody st) (defScope st) [] [] f fd → KBinds X.K fd ps ks (pick n ix) (pick n ix)) (hx : Passes CX X E)
    (hkw : PK X kws tk) (hg : Gl X x := by rfl) (hall : (backToKw pos (keywordEach kws X.env)).all (·.1.isSome) = true := by rfl) (hks : (backToKw pos (keywordEach kws X.env)).filterMap (·.1) = ks := by rfl)
    (hdb : (x == ("__debug__" : Str)) = false := by decide) (hpl : ((backTo pos (starEach [] X.env)).any (·.1) || (backToKw pos (keywordEach kws X.env)).any (·.1.isNone)) = false := by rfl) : PE X (.Call (.Name x p) [] kws pos) (tCall0K sp (pick n ix) E tk) := by
  obtain ⟨f, fd, h1, h2, h3, h4⟩ := F
  exact pe_call0K h4 hr hg h1 h2.kp (hb h2) hx hkw hall hks hdb hpl
end
/-! ### promises that leave all that was known -/
/-- a new tuple -/
def RetU (K : PySem.W.Frag) (xs : List V) (H : Hp) (Q : VK) : Prop := ∀ p H2, Ex H H2 → Tp K H2 p xs → Q (.ref p) H2
theorem RetU.new {K : PySem.W.Frag} {xs : List V} {H H1 : Hp} {Q : VK} (k : RetU K xs H Q) (e : Ex H H1) : NewT xs H1 Q := fun p o hp ho => k p _ (e.trans (Ex.new hp)) (Tp.of ho upd_same)
theorem Tp.ex {K : PySem.W.Frag} {H H1 : Hp} {p : Addr} {xs : List V} (h : Tp K H p xs) (e : Ex H H1) : Tp K H1 p xs := by
  rcases h with ⟨o, h1, h2⟩ | h
  · exact .inl ⟨o, h1, e _ _ h2⟩
  · exact .inr h
theorem NewT.any {xs ys : List V} {H : Hp} {Q : VK} (h : NewT xs H Q) (e : xs = ys) : NewT ys H Q := e ▸ h
/-! ### comprehensions that change nothing that was known -/
section
variable {K : PySem.W.Frag} {J : It} {n : Nat} {G : Hp → Prop} {Y : Nat → Hp → V → Hp → Prop} {g : TG} {tt : TT} {te : TE} {vs : List Nat} {σ : L2.St} {H : Hp}
/-- what a comprehension gives, from the list it walks -/
theorem lcP {Q : Addr → Hp → Prop} (w : Walk J n G Y) (hG : ∀ H', Ex H H' → G H') (hn : n ≤ 40000) (f : Nat → Bool) (v : Nat → V)
    (turn : ∀ i H1 x H2, i < n → Ex H H1 → Y i H1 x H2 → ∀ (K1 : VK) (K0 : Hp → Prop), (f i = true → ∀ H5, Ex H1 H5 → K1 (v i) H5) → (f i = false → ∀ H5, Ex H1 H5 → K0 H5) →
      g x (wipe σ vs) H2 fun σ2 H3 => wipe σ2 vs = wipe σ vs ∧ tt σ2 H3 fun b H4 => if b = true then te σ2 H4 K1 else K0 H4)
    (q : ∀ p H2, H p = none → Ex H H2 → H2 p = some (.lst (given n f v)) → Q p H2) :
    ∀ D, H D = none → ∃ W : Nat → Nat → Hp → Prop, (∃ m, W 0 m (upd H D (.lst []))) ∧ ∀ i m H, W i m H →
      (J.stop i H ∧ Q D H) ∨ (J.go i H ∧ ∃ Nx : Hp → Prop, (∀ H', Nx H' → ∃ m', m' < m ∧ W (i + 1) m' H') ∧ ∀ x H', J.yld i H x H' → g x (wipe σ vs) H' fun σ2 H2 => wipe σ2 vs = wipe σ vs ∧ tt σ2 H2 fun b H3 =>
        if b = true then te σ2 H3 fun y H4 => ∃ acc, H4 D = some (.lst acc) ∧ acc.length < sizeLine ∧ Nx (upd H4 D (.lst (acc ++ [y]))) else Nx H3) := fun D hD =>
  lc_it w (Cw H f v D) ⟨hD, Ex.new hD, upd_same⟩ (fun i H' _ p => hG H' p.2.1) (fun i x H1 H2 hi p y => by
    obtain ⟨p1, p2, p3⟩ := p
    refine turn i H1 x H2 hi p2 y _ _ (fun hf H5 e5 => ?_) (fun hf H5 e5 => ?_)
    · refine ⟨given i f v, e5 D _ p3, sz_lt (by have := given_len i f v; omega), p1, Ex.mut (p2.trans e5) p1, ?_⟩
      rw [given_yes hf]
      exact upd_same
    · refine ⟨p1, p2.trans e5, ?_⟩
      rw [given_no hf]
      exact e5 D _ p3) (fun H' p => q D H' p.1 p.2.1 p.2.2)
end
theorem yes_go {te : TE} {σ : L2.St} {H : Hp} {K1 : VK} {K0 : Hp → Prop} (h : te σ H K1) : tYes σ H (fun b H4 => if b = true then te σ H4 K1 else K0 H4) := by
  show (if true = true then te σ H K1 else K0 H)
  rw [if_pos rfl]
  exact h
theorem given_all (n : Nat) (v : Nat → V) : given n (fun _ => true) v = (List.range n).map v := by
  unfold given
  rw [List.filter_eq_self.mpr (by simp)]
end Own

/-! More rules: int(long text), text * int, list(range(n)), tuple(reversed(list)). -/
namespace PySem
namespace OwI
open PySem PySem.W PySem.Calls PySem.NumText PyProof.Rows
theorem wp_long {M : Model} {A : Around} {E : Value → Shared → Prop} {s : Shared} {Q : Value → Shared → Prop} {v : Value} {text : List Nat} {n : Int}
    (hs : ¬ (text.takeWhile (· != 0)).length ≤ 640) (hr : (int_private% "readNumeral") 4300 10 (text.takeWhile (· != 0)) = (int_private% "Numeral.value") n)
    (ha : ((text.takeWhile (· != 0)).length == text.length) = true) (hk : Looks M s.heap (nsGet cStatics "sys.int_max_str_digits") none) (h : Q (.int n s.toks) { s with toks := s.toks + 1 }) :
    wpAny M A ((int_private% "intFromText") v text 10) Q E s := by
  have hlim : ∀ {Q' : Nat → Shared → Prop}, Q' 4300 s → wpAny M A Builtin.intMaxStrDigits Q' E s := fun {Q'} q => by
    unfold Builtin.intMaxStrDigits
    exact wpAny_bind (hk.at (wpAny_pure q))
  obtain ⟨hp, g, d, tk, os⟩ := s
  repeat (any_goals (first
    | assumption
    | (with_reducible refine wpAny_ite_false (decide_eq_false hs) ?_)
    | (with_reducible refine wpAny_ite_true (decide_eq_true ha) ?_)
    | (with_reducible refine hlim ?_)
    | wp_step))
  all_goals (try rw [hr])
  all_goals (try dsimp only)
  repeat (any_goals (first
    | assumption
    | (with_reducible refine wpAny_ite_false (decide_eq_false hs) ?_)
    | (with_reducible refine wpAny_ite_true (decide_eq_true ha) ?_)
    | wp_step))
structure Hid (p : Prop) : Prop where
  out : p
theorem meets_long {x : PySem.Str} {u : Tok} {n : Int} (hl : x.length ≤ sizeLine) (hl2 : ¬ (numSeenOf x).length ≤ 640) (hn : PySem.intText? x = some n) :
    Meets (Builtin.«int.__new__» ⟨[.type "int", .str x u], []⟩) (fun _ R s => (∀ M : Model, Looks M s.heap (nsGet cStatics "sys.int_max_str_digits") none) ∧ R (.ok (.ret (.int n s.toks))) { s with toks := s.toks + 1 }) :=
  .of_wp fun prog w A R s h => by
    obtain ⟨hk, h⟩ := h
    obtain ⟨hp, g, d, tk, os⟩ := s
    have f1 := F.conv_sub_int
    have f2 := F.madeHere_int
    have f3 := KIN.str_int
    have f4 := KIN.str_idx
    have f5 := KIN.str_trunc
    have f6 : typeOf (.str x u) = pure (.type "str") := rfl
    have hr : (int_private% "readNumeral") 4300 10 (numSeenOf x) = (int_private% "Numeral.value") n ∧ ((numSeenOf x).length == (numTextOf x).length) = true := by
      rcases read4300 x hl with ⟨m, h1, h2, h3⟩ | ⟨h1, _⟩
      · rw [hn] at h1
        injection h1 with h1
        subst h1
        exact ⟨h3, h2⟩
      · rw [hn] at h1
        cases h1
    have hd := Hid.mk (And.intro hl2 hr)
    have hk' := Hid.mk hk
    clear hr hl hl2 hn hk
    repeat (any_goals (first
      | assumption
      | ((with_reducible show wpAny _ _ ((int_private% "intFromText") _ _ _) _ _ _); refine wp_long hd.out.1 hd.out.2.1 hd.out.2.2 (hk'.out _) ?_)
      | wp_step))
    all_goals first | exact ⟨_, rfl, h⟩ | skip
end OwI
end PySem
namespace Own
open PySem PySem.Spec PyProof.Rows L2 Evl
section
variable {X : Cx}
/-- int(text), up to 4,300 figures -/
def rIntS : List V → Hp → VK → Prop := fun xs H Q => ∃ a n, xs = [.str a] ∧ PySem.intText? a = some n ∧ a.length ≤ 4300 ∧ (numSeenOf a).length = a.length ∧ Q (.int n) H
theorem call_intS (hk : PySem.W.nsIn X.K cStatics "sys.int_max_str_digits" = some none) : CallR X (.type "int") rIntS := by
  intro pins s σ H xs us Q I rs h
  obtain ⟨a, n, rfl, hn, hl, hse, h⟩ := h
  cases rs with
  | cons r1 rs =>
    cases rs
    obtain ⟨t, rfl⟩ := r1
    by_cases h6 : (numSeenOf a).length ≤ 640
    · exact PySem.W.KIN.call_text hn (by omega) ⟨.int n, H, I.tok _, ⟨_, rfl⟩, h⟩
    · exact PySem.call_int_1 (PySem.OwI.meets_long (by rw [sizeLine_eq]; omega) h6 hn) ⟨fun M => PySem.W.looks_nsIn I.kIn hk, ⟨rfl, .int n, H, I.tok _, ⟨_, rfl⟩, h⟩⟩
/-- text * k -/
def repS (a : Str) (n : Nat) : Str := ⟨(List.replicate n a.cps).foldl (· ++ ·) #[]⟩
theorem repS_len (a : Str) : ∀ (n : Nat) (acc : Array Nat), ((List.replicate n a.cps).foldl (· ++ ·) acc).size = acc.size + n * a.cps.size
  | 0, acc => by simp
  | n + 1, acc => by
    rw [List.replicate_succ, List.foldl_cons, repS_len a n, Array.size_append, Nat.succ_mul]
    omega
theorem repS_length (a : Str) (n : Nat) : (repS a n).length = n * a.length := by
  show ((List.replicate n a.cps).foldl (· ++ ·) #[]).size = n * a.cps.size
  rw [repS_len]
  simp
theorem repS_mem {a : Str} {c : Nat} : ∀ (n : Nat) (acc : Array Nat), c ∈ ((List.replicate n a.cps).foldl (· ++ ·) acc).toList → c ∈ acc.toList ∨ c ∈ a.cps.toList
  | 0, acc, h => .inl h
  | n + 1, acc, h => by
    rw [List.replicate_succ, List.foldl_cons] at h
    rcases repS_mem n _ h with h | h
    · rw [Array.toList_append, List.mem_append] at h
      exact h
    · exact .inr h
def rRepS : R2 := fun x y H Q => ∃ a k, x = .str a ∧ y = .int k ∧ 0 ≤ k ∧ k ≤ 10000 ∧ a.length ≤ 1000 ∧ Q (.str (repS a k.toNat)) H
theorem op_repS : OpR X (binaryOp .Mult) rRepS := by
  intro pins s σ H x y v u Q I rx ry h
  obtain ⟨a, k, rfl, rfl, h0, h1, hz, q⟩ := h
  obtain ⟨t, rfl⟩ := rx
  obtain ⟨t2, rfl⟩ := ry
  have hm : a.length * k.toNat ≤ 1000 * 10000 := Nat.mul_le_mul hz (by omega)
  refine PySem.P.mul_str (by rw [decide_eq_false (by omega), decide_eq_false (by omega)] <;> rfl) (fun _ _ => ?_) (fun _ _ => ?_) ?_
  · have : (a.length : Int) ≤ 1000 := by omega
    have : (1000 : Int) ≤ (2 ^ 63 - 1) / k := by
      by_cases hk : k = 0
      · omega
      · exact Int.le_ediv_of_mul_le (by omega) (by omega)
    omega
  · unfold Builtin.Str.tooLong
    first
      | exact decide_eq_false (by rw [sizeLine_eq]; omega)
      | exact decide_eq_false (by omega)
  · by_cases h1' : k < 1
    · rw [if_pos h1']
      have e0 : repS a k.toNat = Str.empty := by
        rw [show k.toNat = 0 by omega]
        rfl
      rw [e0] at q
      exact ⟨by decide, .str Str.empty, H, I.tok _, ⟨_, rfl⟩, q⟩
    · rw [if_neg h1']
      by_cases h2 : (k == 1 || a.length == 0) = true
      · rw [if_pos h2]
        have e0 : repS a k.toNat = a := by
          rcases Bool.or_eq_true_iff.mp h2 with h3 | h3
          · have : k.toNat = 1 := by
              have := eq_of_beq h3
              omega
            rw [this]
            show (⟨#[] ++ a.cps⟩ : Str) = a
            rw [Array.empty_append]
          · have h4 : a.cps = #[] := Array.eq_empty_of_size_eq_zero (eq_of_beq h3)
            show (⟨(List.replicate k.toNat a.cps).foldl (· ++ ·) #[]⟩ : Str) = a
            have h5 : (List.replicate k.toNat a.cps).foldl (· ++ ·) #[] = #[] := Array.eq_empty_of_size_eq_zero (by
              rw [repS_len, h4]
              simp)
            rw [h5]
            cases a
            simp only at h4
            rw [h4]
        rw [e0] at q
        exact ⟨.str a, H, I.tok _, ⟨_, rfl⟩, q⟩
      · rw [if_neg h2]
        exact ⟨by
          have := repS_length a k.toNat
          show (repS a k.toNat).length ≤ sizeLine
          rw [this, sizeLine_eq, Nat.mul_comm]
          omega, .str (repS a k.toNat), H, I.tok _, ⟨_, rfl⟩, q⟩
/-- list(range(n)) -/
theorem pe_list_range {e : Expr} {te : TE} {p pos p2 pos2 : Pos} (hm : X.mg "list" = none) (hm2 : X.mg "range" = none) (he : PE X e te) (hc : X.calm = true := by rfl) (hg : Gl X "list" := by rfl) (hg2 : Gl X "range" := by rfl)
    (na : starEach [e] X.env = (false, eval e X.env) :: starEach [] X.env := by rfl) (na2 : starEach [.Call (.Name "range" p2) [e] [] pos2] X.env = (false, eval (.Call (.Name "range" p2) [e] [] pos2) X.env) :: starEach [] X.env := by rfl) :
    PE X (.Call (.Name "list" p) [.Call (.Name "range" p2) [e] [] pos2] [] pos) (tLstRg (tRg1 te)) := pe_listRg hc hg hm (prg_1 hg2 hm2 he na) na2
/-- tuple(reversed(xs)) -/
def tTupRev (K : PySem.W.Frag) (ta : TA) : TE := fun σ H Q => ta σ H fun vs H1 => ∃ (a : Addr) (xs : List V), vs = [.ref a] ∧ SqL K H1 a xs ∧ NewT xs.reverse H1 Q
theorem pe_tuple_reversed {e : Expr} {ta : TA} {p pos p2 pos2 : Pos} (hm : X.mg "tuple" = none) (hm2 : X.mg "reversed" = none) (ha : PA X [e] ta) (hc : X.calm = true := by rfl) (hg : Gl X "tuple" := by rfl) (hg2 : Gl X "reversed" := by rfl)
    (hs : starEach [e] X.env = [(false, eval e X.env)] := by rfl) (na2 : starEach [.Call (.Name "reversed" p2) [e] [] pos2] X.env = (false, eval (.Call (.Name "reversed" p2) [e] [] pos2) X.env) :: starEach [] X.env := by rfl) :
    PE X (.Call (.Name "tuple" p) [.Call (.Name "reversed" p2) [e] [] pos2] [] pos) (tTupRev X.K ta) := by
  refine ⟨fun pins s σ H Q I h => ?_⟩
  refine Call_ (ld_blt I hg hm boot_tuple (PyProof.Rows.callWith_type1 (args_cons (Call_ (ld_blt (I.tok _) hg2 hm2 PyProof.Rows.boot_reversed (PyProof.Rows.callWith_type1 (thn (ha.run pos2 pins _ σ H _ (I.tok _) h) fun us s1 ⟨vs, H1, I1, r1, q1⟩ => ?_) hs rfl))) na2) na2))
  obtain ⟨a, xs, e, hq, q⟩ := q1
  subst e
  cases r1 with
  | cons r rr =>
    cases rr
    cases r
    obtain ⟨its, rv, pl, hz⟩ := I1.list hq
    have hl := rv.length
    refine call_reversed_list pl.isList (args_nil ?_)
    have hlt : a < s1.heap.objs.size := by
      obtain ⟨o, n, e, _⟩ := pl
      exact Heap.lt_size e
    obtain ⟨oL, nL, eL, cL, dL, sL⟩ := id pl
    refine RT.call_tuple_rev (l := a) (items := its.toArray) (I1.ok.hd hc) ⟨_, Heap.get?_push_size _ rfl, rfl, rfl⟩ ?_ (Nat.ne_of_lt hlt) (by rw [List.size_toArray, ← hl]; exact hz) (fun h' tk acc hk hacc => ?_)
    · obtain ⟨n9, h9, h8⟩ := pl.isList
      exact ⟨n9, Heap.get?_push_of_some _ h9, h8⟩
    · have I2 : Inv X pins σ H1 { s1 with heap := h', toks := tk } := I1.kept (fun b o e => hk b o (Nat.ne_of_lt (Heap.lt_size e)) (Heap.get?_push_of_some _ e))
      have rr : Vals xs.reverse acc.toList := by
        obtain ⟨h1, h2⟩ := hacc
        refine vals_of_at (by rw [List.length_reverse, Array.length_toList]; exact hl.trans ((List.size_toArray ..).symm.trans h1.symm)) (fun j x u hx hu => ?_)
        have hj := h2 j u (by simpa using hu)
        have hj2 : j < xs.length := by
          have := (List.getElem?_eq_some_iff.mp hx).1
          rw [List.length_reverse] at this
          exact this
        rw [List.getElem?_reverse hj2] at hx
        obtain ⟨u2, hu2, ru⟩ := rv.get hx
        have : its[xs.length - 1 - j]? = some u := by
          rw [hl]
          simpa using hj
        rw [hu2] at this
        cases this
        exact ru
      have z := newT_end (tk := tk) I2 rr (by rw [List.length_reverse]; exact hz) q
      rw [Array.toArray_toList] at z
      exact z
end
end Own

namespace Own
open PySem PySem.Spec PyProof.Rows L2 Evl
/-! ### data -/
theorem dp_ints {K : PySem.W.Frag} {H : Hp} : ∀ ns : List Int, DpAll K H (ns.map V.int) (ns.map PyData.int)
  | [] => .nil
  | n :: r => .cons (.int n) (dp_ints r)
theorem eqv_ints_nil (ns : List Int) : PyData.eqv (.list (ns.map PyData.int)) (.list []) = ns.isEmpty := by
  cases ns <;> rfl
/-! ### where draws come from: a list [digits, mix, count] at a, the digits at l -/
structure Deal (N : Nat) (H : Hp) (a l : Addr) : Prop where
  ne : a ≠ l
  at_ : ∃ (cs ms : List Int), H a = some (.lst (.ref l :: ms.map V.int)) ∧ H l = some (.lst (cs.map V.int)) ∧ (∀ x ∈ cs, 0 ≤ x) ∧ ms.length = N ∧ cs.length ≤ 100
/-- R: what is known and stays; the deal beside it -/
structure Wl (N : Nat) (a l : Addr) (R H : Hp) : Prop where
  ex : Ex R H
  na : R a = none
  nl : R l = none
  deal : Deal N H a l
section
variable {N : Nat} {a l : Addr} {R R1 H H1 : Hp} {p : Addr} {o o' : HO}
theorem Deal.dom (d : Deal N H a l) : H a ≠ none ∧ H l ≠ none := by
  obtain ⟨_, cs, ms, h1, h2, _⟩ := d
  refine ⟨fun z => ?_, fun z => ?_⟩
  · rw [h1] at z
    cases z
  · rw [h2] at z
    cases z
theorem Deal.upd (d : Deal N H a l) (h1 : p ≠ a) (h2 : p ≠ l) : Deal N (upd H p o) a l := by
  obtain ⟨n, cs, ms, e1, e2, r⟩ := d
  exact ⟨n, cs, ms, by rw [upd_ne h1.symm]; exact e1, by rw [upd_ne h2.symm]; exact e2, r⟩
theorem Deal.ex (d : Deal N H a l) (e : Ex H H1) : Deal N H1 a l := by
  obtain ⟨n, cs, ms, e1, e2, r⟩ := d
  exact ⟨n, cs, ms, e _ _ e1, e _ _ e2, r⟩
/-- what changes nothing -/
theorem Wl.keep (w : Wl N a l R H) (e : Ex H H1) : Wl N a l R H1 := ⟨w.ex.trans e, w.na, w.nl, w.deal.ex e⟩
/-- a new object -/
theorem Wl.new (w : Wl N a l R H) (h : H p = none) : Wl N a l (upd R p o) (upd H p o) := by
  have h1 : p ≠ a := fun e => w.deal.dom.1 (e ▸ h)
  have h2 : p ≠ l := fun e => w.deal.dom.2 (e ▸ h)
  refine ⟨fun b u e => ?_, by rw [upd_ne h1.symm]; exact w.na, by rw [upd_ne h2.symm]; exact w.nl, w.deal.upd h1 h2⟩
  by_cases hb : b = p
  · subst hb
    rw [upd_same] at e ⊢
    exact e
  · rw [upd_ne hb] at e ⊢
    exact w.ex b u e
/-- a known object is changed -/
theorem Wl.mut (w : Wl N a l R H) (h : R p = some o) : Wl N a l (upd R p o') (upd H p o') := by
  have h1 : p ≠ a := fun e => by
    rw [e, w.na] at h
    cases h
  have h2 : p ≠ l := fun e => by
    rw [e, w.nl] at h
    cases h
  refine ⟨fun b u e => ?_, by rw [upd_ne h1.symm]; exact w.na, by rw [upd_ne h2.symm]; exact w.nl, w.deal.upd h1 h2⟩
  by_cases hb : b = p
  · subst hb
    rw [upd_same] at e ⊢
    exact e
  · rw [upd_ne hb] at e ⊢
    exact w.ex b u e
theorem Wl.free (w : Wl N a l R H) (h : H p = none) : R p = none := fresh_back w.ex h
/-- more is known -/
theorem Wl.more (w : Wl N a l R H) (e : Ex H H1) : ∃ R1, Ex R R1 ∧ Wl N a l R1 H1 ∧ ∀ b o, b ≠ a → b ≠ l → H1 b = some o → R1 b = some o := by
  refine ⟨fun b => if b = a ∨ b = l then none else H1 b, fun b o h => ?_, ⟨fun b o h => ?_, if_pos (.inl rfl), if_pos (.inr rfl), w.deal.ex e⟩, fun b o h1 h2 h => ?_⟩
  · have h1 : b ≠ a := fun z => by
      rw [z, w.na] at h
      cases h
    have h2 : b ≠ l := fun z => by
      rw [z, w.nl] at h
      cases h
    show (if b = a ∨ b = l then none else H1 b) = some o
    rw [if_neg (by simp [h1, h2])]
    exact e _ _ (w.ex _ _ h)
  · have h' : (if b = a ∨ b = l then none else H1 b) = some o := h
    by_cases z : b = a ∨ b = l
    · rw [if_pos z] at h'
      cases h'
    · rw [if_neg z] at h'
      exact h'
  · show (if b = a ∨ b = l then none else H1 b) = some o
    rw [if_neg (by simp [h1, h2])]
    exact h
end
/-- the promise of a drawn number below a bound -/
def spAny (N : Nat) : Sp := fun vs H Q _ => ∃ (a l : Addr) (R : Hp) (b : Int), vs = [.ref a, .int b] ∧ Wl N a l R H ∧ 0 < b ∧ b.natAbs.log2 < 9000 ∧ ∀ (r : Int) (H' : Hp), 0 ≤ r → r < b → Wl N a l R H' → Q (.int r) H'
/-- .. of one of some things, that stand in a list -/
def spOf (N : Nat) (K : PySem.W.Frag) : Sp := fun vs H Q _ => ∃ (a l p : Addr) (R : Hp) (xs : List V), vs = [.ref a, .ref p] ∧ Wl N a l R H ∧ SqL K R p xs ∧ xs ≠ [] ∧ xs.length ≤ 100 ∧ ∀ (v : V) (H' : Hp), v ∈ xs → Wl N a l R H' → Q v H'
/-! ### kinds of values -/
inductive Vk (K : PySem.W.Frag) (H : Hp) : V → String → Prop where
  | non : Vk K H .non "NoneType"
  | bl (b : Bool) : Vk K H (.bl b) "bool"
  | int (i : Int) : Vk K H (.int i) "int"
  | str (x : Str) : Vk K H (.str x) "str"
  | tup {p : Addr} {xs : List V} (h : Tp K H p xs) : Vk K H (.ref p) "tuple"
  | lst {p : Addr} {xs : List V} (h : H p = some (.lst xs)) : Vk K H (.ref p) "list"
theorem Vk.ty {K : PySem.W.Frag} {H : Hp} {x : V} {T : String} (h : Vk K H x T) : TyX K H x (.type T) := by
  cases h with
  | non => exact .base .non
  | bl b => exact .base (.bl b)
  | int i => exact .base (.int i)
  | str z => exact .base (.str z)
  | tup h =>
    rcases h with ⟨o, _, h⟩ | ⟨o, its, n, h1, h2, _⟩
    · exact .fTuple h
    · exact .kTuple h1 h2
  | lst h => exact .base (.lst h)
theorem Vk.ex {K : PySem.W.Frag} {H H1 : Hp} {x : V} {T : String} (h : Vk K H x T) (e : Ex H H1) : Vk K H1 x T := by
  cases h with
  | non => exact .non
  | bl b => exact .bl b
  | int i => exact .int i
  | str z => exact .str z
  | tup h => exact .tup (h.ex e)
  | lst h => exact .lst (e _ _ h)
theorem Vk.known {K : PySem.W.Frag} {H : Hp} {x : V} {T : String} (h : Vk K H x T) : T ∈ ["NoneType", "bool", "int", "str", "tuple", "list"] := by
  cases h <;> decide
/-! ### one thing twice: two values of the same data, to a depth -/
def scalV : V → Bool
  | .non => true
  | .bl _ => true
  | .int _ => true
  | .str _ => true
  | _ => false
def Sm (K : PySem.W.Frag) (H : Hp) : Nat → V → V → Prop
  | 0, x, y => x = y ∧ scalV x = true
  | n + 1, x, y => (x = y ∧ scalV x = true) ∨ ∃ p q xs ys, x = .ref p ∧ y = .ref q ∧ Tp K H p xs ∧ Tp K H q ys ∧ xs.length = ys.length ∧ xs.length ≤ 1000 ∧ ∀ (i : Nat) u v, xs[i]? = some u → ys[i]? = some v → Sm K H n u v
theorem Sm.ex {K : PySem.W.Frag} {H H1 : Hp} (e : Ex H H1) : ∀ {n : Nat} {x y : V}, Sm K H n x y → Sm K H1 n x y
  | 0, _, _, h => h
  | n + 1, _, _, h => by
    rcases h with h | ⟨p, q, xs, ys, h1, h2, h3, h4, h5, h6, h7⟩
    · exact .inl h
    · exact .inr ⟨p, q, xs, ys, h1, h2, h3.ex e, h4.ex e, h5, h6, fun i u v hu hv => Sm.ex e (h7 i u v hu hv)⟩
theorem Sm.scal {K : PySem.W.Frag} {H : Hp} {x : V} (h : scalV x = true) : ∀ n : Nat, Sm K H n x x
  | 0 => ⟨rfl, h⟩
  | _ + 1 => .inl ⟨rfl, h⟩
/-- two tuples of the same scalars -/
theorem Sm.tup {K : PySem.W.Frag} {H : Hp} {p q : Addr} {xs : List V} (hp : Tp K H p xs) (hq : Tp K H q xs) (hs : ∀ x ∈ xs, scalV x = true) (hl : xs.length ≤ 1000) (n : Nat) : Sm K H (n + 1) (.ref p) (.ref q) :=
  .inr ⟨p, q, xs, xs, rfl, rfl, hp, hq, rfl, hl, fun i u v hu hv => by
    rw [hu] at hv
    cases hv
    exact Sm.scal (hs u (List.mem_of_getElem? hu)) n⟩
theorem scal_ints (ns : List Int) : ∀ x ∈ ns.map V.int, scalV x = true := fun x h => by
  obtain ⟨n, _, rfl⟩ := List.mem_map.mp h
  rfl
def spSame (K : PySem.W.Frag) (n : Nat) : Sp := fun vs H Q _ => ∃ x y, vs = [x, y] ∧ Sm K H n x y ∧ ∀ H', Ex H H' → Q (.bl true) H'
end Own

namespace Own
open PySem PySem.Spec PyProof.Rows L2 Evl
abbrev FnP (K : PySem.W.Frag) (x : Str) (st : Stmt) (f : Addr) (fd : FuncData) : Prop := FunD K x x (defArgs st) (defBody st) (defScope st) [] [] f fd
/-! ### isinstance of what is known -/
theorem kit_all : ∀ T ∈ ["NoneType", "bool", "int", "str", "tuple", "list"], ∀ c ∈ ["int", "bool", "tuple", "list", "str"], L2.kitB T c = some (decide (T = c) || (decide (T = "bool") && decide (c = "int"))) := by decide +kernel
theorem kit_vk {K : PySem.W.Frag} {H : Hp} {x : V} {T : String} (h : Vk K H x T) (c : String) (hc : c ∈ ["int", "bool", "tuple", "list", "str"] := by decide) : PySem.W.kitOne K (.type T) (.type c) = some (decide (T = c) || (decide (T = "bool") && decide (c = "int"))) := kit_ty (kit_all T h.known c hc)
/-- isinstance(x, c) -/
theorem isi_vk {K : PySem.W.Frag} {H : Hp} {x : V} {T : String} {Q : VK} (h : Vk K H x T) (c : String) (q : Q (.bl (decide (T = c) || (decide (T = "bool") && decide (c = "int")))) H) (hc : c ∈ ["int", "bool", "tuple", "list", "str"] := by decide) : rIsi K [x, .ty c] H Q :=
  ⟨x, .ty c, .type T, .type c, _, rfl, .ty c, h.ty, kit_vk h c hc, q⟩
/-! ### lists by their places -/
theorem range_zip {n : Nat} (f : Int → Int → Int) : ∀ {xs ys : List Int}, xs.length = n → ys.length = n → (List.range n).map (fun i => V.int (f (xs.getD i 0) (ys.getD i 0))) = (List.zipWith f xs ys).map V.int := by
  intro xs ys h1 h2
  apply List.ext_getElem?
  intro i
  rw [List.getElem?_map, List.getElem?_map, List.getElem?_zipWith]
  by_cases hi : i < n
  · rw [List.getElem?_range hi, List.getElem?_eq_getElem (show i < xs.length by omega), List.getElem?_eq_getElem (show i < ys.length by omega)]
    simp [List.getD_eq_getElem?_getD, List.getElem?_eq_getElem (show i < xs.length by omega), List.getElem?_eq_getElem (show i < ys.length by omega)]
  · rw [List.getElem?_eq_none (show (List.range n).length ≤ i by rw [List.length_range]; omega), List.getElem?_eq_none (show xs.length ≤ i by omega)]
    rfl
theorem range_map {α β : Type} (d : α) (f : α → β) (xs : List α) : (List.range xs.length).map (fun i => f (xs.getD i d)) = xs.map f := by
  apply List.ext_getElem?
  intro i
  rw [List.getElem?_map, List.getElem?_map]
  by_cases hi : i < xs.length
  · rw [List.getElem?_range hi, List.getElem?_eq_getElem hi]
    simp [List.getD_eq_getElem?_getD, List.getElem?_eq_getElem hi]
  · rw [List.getElem?_eq_none (show (List.range xs.length).length ≤ i by rw [List.length_range]; omega), List.getElem?_eq_none (show xs.length ≤ i by omega)]
    rfl
theorem int_at {xs : List Int} {i : Nat} {x : V} (h : (xs.map V.int)[i]? = some x) : x = .int (xs.getD i 0) ∧ i < xs.length := by
  rw [List.getElem?_map] at h
  cases e : xs[i]? with
  | none =>
    rw [e] at h
    cases h
  | some n =>
    rw [e] at h
    have h2 := (List.getElem?_eq_some_iff.mp e).1
    refine ⟨?_, h2⟩
    rw [List.getD_eq_getElem?_getD, e]
    exact (Option.some.inj h).symm
theorem at_int {xs : List Int} {i : Nat} (h : i < xs.length) : (xs.map V.int)[i]? = some (.int (xs.getD i 0)) := by
  rw [List.getElem?_map, List.getD_eq_getElem?_getD, List.getElem?_eq_getElem h]
  rfl
theorem atI_int {xs : List Int} {i : Nat} (h : i < xs.length) : atI (xs.map V.int) (i : Int) = some (.int (xs.getD i 0)) := atI_nat (at_int h)
theorem getD_mem {xs : List Int} {i : Nat} (h : i < xs.length) : xs.getD i 0 ∈ xs := by
  rw [List.getD_eq_getElem?_getD, List.getElem?_eq_getElem h]
  exact List.getElem_mem h
/-! ### zip of two tuples -/
theorem walk_zipT {K : PySem.W.Frag} {a b : Addr} {xs ys : List V} {n : Nat} (h1 : xs.length = n) (h2 : ys.length = n) : Walk (RZ.ItzT K a b) n (fun H => SqT K H a xs ∧ SqT K H b ys) (YPair (fun i => xs[i]?) (fun i => ys[i]?)) := by
  subst h1
  refine ⟨fun i _ hi q => ?_, fun _ q => ⟨xs, ys, q.1, q.2, by omega⟩, fun i H v H' _ q y => ?_⟩
  · exact ⟨xs, ys, xs[i], ys[i]'(by omega), q.1, q.2, by simp [hi], by simp [show i < ys.length by omega]⟩
  · obtain ⟨T, x, z, h1, h2, h3, h4, h5⟩ := y
    exact ⟨T, x, z, h1, h2, h3, h4 xs q.1, h5 ys q.2⟩
end Own

/-! The layer's rules with the written part named apart: their readings then hang on no context. -/
namespace Own
open PySem PySem.Spec PyProof.Rows L2 Evl
section
variable {X : Cx} {K : PySem.W.Frag}
theorem kx_list (h : X.K = K := by rfl) : IxR X (rIxL K) := by subst h; exact ix_list
theorem kx_tup (h : X.K = K := by rfl) : IxR X (rIxT K) := by subst h; exact ix_tup
theorem ksl_list (h : X.K = K := by rfl) : SlR X (rSlL K) := by subst h; exact sl_list
theorem ksl_tup (h : X.K = K := by rfl) : SlR X (rSlF K) := by subst h; exact sl_tupF
def rLenK (K : PySem.W.Frag) : List V → Hp → VK → Prop := fun xs H Q => ∃ p ys, xs = [.ref p] ∧ (SqL K H p ys ∨ SqT K H p ys) ∧ Q (.int ys.length) H
theorem kc_len (h : X.K = K := by rfl) : CallR X (.builtin "len") (rLenK K) := by subst h; exact call_len_seq
theorem kc_tuple (h : X.K = K := by rfl) : CallR X (.type "tuple") (rTupF K) := by subst h; exact call_tupF
def rListK (K : PySem.W.Frag) : List V → Hp → VK → Prop := fun xs H Q => ∃ p ys, xs = [.ref p] ∧ (SqL K H p ys ∨ SqT K H p ys) ∧ ∀ l, H l = none → Q (.ref l) (upd H l (.lst ys))
theorem kc_list (h : X.K = K := by rfl) : CallR X (.type "list") (rListK K) := by
  subst h
  intro pins s σ H xs us Q I r hh
  exact call_list_of pins s σ H xs us Q I r hh
theorem kc_isi (h : X.K = K := by rfl) : CallR X (.builtin "isinstance") (rIsi K) := by subst h; exact call_isi
theorem kc_sum (hc : X.calm = true) (h : X.K = K := by rfl) : CallR X (.builtin "sum") (rSum K) := by subst h; exact cr_sum hc
theorem kc_min (hc : X.calm = true) (h : X.K = K := by rfl) : CallR X (.builtin "min") (rMin K) := by subst h; exact cr_min hc
theorem kc_max (hc : X.calm = true) (h : X.K = K := by rfl) : CallR X (.builtin "max") (rMax K) := by subst h; exact cr_max hc
theorem ko_eq (hu : X.A.units + 64 < cLine) (h : X.K = K := by rfl) : OpR X (compareOp .Eq) (rEqD K) := by subst h; exact op_eqD hu
theorem ko_ne (hu : X.A.units + 64 < cLine) (h : X.K = K := by rfl) : OpR X (compareOp .NotEq) (rNeD K) := by subst h; exact op_neD hu
theorem ko_in (h : X.K = K := by rfl) : OpR X (compareOp .In) (rIn K false) := by subst h; exact op_in_seq
theorem ko_notIn (h : X.K = K := by rfl) : OpR X (compareOp .NotIn) (rIn K true) := by subst h; exact op_notIn_seq
theorem ko_cat (h : X.K = K := by rfl) : OpR X (binaryOp .Add) (rCatF K) := by subst h; exact op_catF
theorem ko_rep (h : X.K = K := by rfl) : OpR X (binaryOp .Mult) (rRepF K) := by subst h; exact op_repF
variable {o e : Expr} {es : List Expr} {to : TE} {t : TA} {name : Str} {apos cpos : Pos} {T id : String} {r : V → List V → Hp → VK → Prop}
theorem km_bm0 (pa : PlainAttrs T) (slot : Slot T name id) (hty : typeOf (.builtin id) = pure (.type "method_descriptor")) (hm : MtR X id r) (ho : PE X o to)
    (hbase : attributeBase o name X.env (eval o X.env) = eval o X.env := by rfl) (hline : (apos.endLine == cpos.line) = true := by rfl) (h : X.K = K := by rfl) : PE X (.Call (.Attribute o name apos) [] [] cpos) (tBM0 K T r to) := by
  subst h
  exact pe_bm0 pa slot hty hm ho hbase hline
theorem km_bm (pa : PlainAttrs T) (slot : Slot T name id) (hty : typeOf (.builtin id) = pure (.type "method_descriptor")) (hm : MtR X id r) (ho : PE X o to) (ha : PA X (e :: es) t)
    (hbase : attributeBase o name X.env (eval o X.env) = eval o X.env := by rfl)
    (hfew : ((backTo cpos (starEach (e :: es) X.env)).all (fun x => !x.1) && (backToKw cpos (keywordEach [] X.env)).all (fun x => x.1.isSome)
      && decide ((e :: es).length + ([] : List Keyword).length + (if ([] : List Keyword).isEmpty then 0 else 1) < 30)) = true := by rfl)
    (hline : (apos.endLine == cpos.line) = true := by rfl) (hs : starEach (e :: es) X.env = (false, eval e X.env) :: starEach es X.env := by rfl) (hplain : (backTo cpos (starEach es X.env)).any (·.1) = false := by rfl) (h : X.K = K := by rfl) :
    PE X (.Call (.Attribute o name apos) (e :: es) [] cpos) (tBM K T r to t) := by
  subst h
  exact pe_bm pa slot hty hm ho ha hbase hfew hline hs hplain
theorem km_count (ho : PE X o to) (ha : PA X (e :: es) t)
    (hbase : attributeBase o "count" X.env (eval o X.env) = eval o X.env := by rfl)
    (hfew : ((backTo cpos (starEach (e :: es) X.env)).all (fun x => !x.1) && (backToKw cpos (keywordEach [] X.env)).all (fun x => x.1.isSome)
      && decide ((e :: es).length + ([] : List Keyword).length + (if ([] : List Keyword).isEmpty then 0 else 1) < 30)) = true := by rfl)
    (hline : (apos.endLine == cpos.line) = true := by rfl) (hs : starEach (e :: es) X.env = (false, eval e X.env) :: starEach es X.env := by rfl) (hplain : (backTo cpos (starEach es X.env)).any (·.1) = false := by rfl) (h : X.K = K := by rfl) :
    PE X (.Call (.Attribute o "count" apos) (e :: es) [] cpos) (tTM K (rTCnt K) to t) := by
  subst h
  exact pe_tm PySem.F.plainAttrs_tuple PySem.F.slot_tuple_count PySem.F.type_tuple_count mt_tcount ho ha hbase hfew hline hs hplain
end
end Own

/-! Where draws come from, changed. -/
namespace Own
open PySem PySem.Spec PyProof.Rows L2 Evl
section
variable {N : Nat} {a l : Addr} {R H : Hp}
/-- its things -/
structure DealIs (N : Nat) (H : Hp) (a l : Addr) (cs ms : List Int) : Prop where
  ha : H a = some (.lst (.ref l :: ms.map V.int))
  hl : H l = some (.lst (cs.map V.int))
  pos : ∀ x ∈ cs, 0 ≤ x
  mn : ms.length = N
  len : cs.length ≤ 100
theorem DealIs.deal {cs ms : List Int} (d : DealIs N H a l cs ms) (n : a ≠ l) : Deal N H a l := ⟨n, cs, ms, d.ha, d.hl, d.pos, d.mn, d.len⟩
theorem Deal.is (d : Deal N H a l) : ∃ cs ms, DealIs N H a l cs ms := by
  obtain ⟨_, cs, ms, h1, h2, h3, h4, h5⟩ := d
  exact ⟨cs, ms, h1, h2, h3, h4, h5⟩
theorem DealIs.ex {cs ms : List Int} {H1 : Hp} (d : DealIs N H a l cs ms) (e : Ex H H1) : DealIs N H1 a l cs ms := ⟨e _ _ d.ha, e _ _ d.hl, d.pos, d.mn, d.len⟩
/-- the known heap, the deal at a and l as said -/
structure Wd (N : Nat) (a l : Addr) (R H : Hp) (cs ms : List Int) : Prop where
  ex : Ex R H
  na : R a = none
  nl : R l = none
  ne : a ≠ l
  is : DealIs N H a l cs ms
theorem Wd.wl {cs ms : List Int} (w : Wd N a l R H cs ms) : Wl N a l R H := ⟨w.ex, w.na, w.nl, w.is.deal w.ne⟩
theorem Wl.wd (w : Wl N a l R H) : ∃ cs ms, Wd N a l R H cs ms := by
  obtain ⟨cs, ms, d⟩ := w.deal.is
  exact ⟨cs, ms, w.ex, w.na, w.nl, w.deal.ne, d⟩
theorem Wd.keep {cs ms : List Int} {H1 : Hp} (w : Wd N a l R H cs ms) (e : Ex H H1) : Wd N a l R H1 cs ms := ⟨w.ex.trans e, w.na, w.nl, w.ne, w.is.ex e⟩
theorem ex_side {R H : Hp} {p : Addr} {o : HO} (e : Ex R H) (n : R p = none) : Ex R (upd H p o) := fun b u h => by
  have : b ≠ p := fun z => by
    rw [z, n] at h
    cases h
  rw [upd_ne this]
  exact e b u h
theorem Wd.cells {cs ds ms : List Int} (w : Wd N a l R H cs ms) (hp : ∀ x ∈ ds, 0 ≤ x) (hz : ds.length ≤ 100) : Wd N a l R (upd H l (.lst (ds.map V.int))) ds ms :=
  ⟨ex_side w.ex w.nl, w.na, w.nl, w.ne, by rw [upd_ne w.ne]; exact w.is.ha, upd_same, hp, w.is.mn, hz⟩
theorem Wd.nums {cs ms ms' : List Int} (w : Wd N a l R H cs ms) (h : ms'.length = N) : Wd N a l R (upd H a (.lst (.ref l :: ms'.map V.int))) cs ms' :=
  ⟨ex_side w.ex w.na, w.na, w.nl, w.ne, upd_same, by rw [upd_ne w.ne.symm]; exact w.is.hl, w.is.pos, h, w.is.len⟩
/-- the deal as it is made -/
def spDeal (N : Nat) (K : PySem.W.Frag) : Sp := fun vs H Q _ => ∃ (a : Addr) (ns : List Int) (salt : Int), vs = [.ref a, .int salt] ∧ SqL K H a (ns.map V.int) ∧ 0 ≤ salt ∧ salt ≤ 1000 ∧ ∀ (d l : Addr) (H' : Hp), Wl N d l H H' → Q (.ref d) H'
end
theorem cut_ints (ns : List Int) (lo hi : Option Int) : ∃ ms : List Int, cutV (ns.map V.int) lo hi = ms.map V.int ∧ ms.length ≤ ns.length := by
  refine ⟨(ns.drop (HT.sIx (ns.map V.int).length 0 lo)).take (HT.sIx (ns.map V.int).length (ns.map V.int).length hi - HT.sIx (ns.map V.int).length 0 lo), ?_, ?_⟩
  · unfold cutV
    rw [List.map_take, List.map_drop]
  · rw [List.length_take, List.length_drop]
    omega
theorem cut_len63 (ns : List Int) : (cutV (ns.map V.int) none (some 63)).length ≤ 63 := by
  unfold cutV
  rw [List.length_take]
  have : HT.sIx (ns.map V.int).length (ns.map V.int).length (some (63 : Int)) ≤ 63 := by
    rw [show (63 : Int) = ((63 : Nat) : Int) from rfl, HT.sIx_nat]
    exact Nat.min_le_left _ _
  omega
/-- the ints that a condition leaves -/
theorem given_ints (n : Nat) (f : Nat → Bool) (g : Nat → Int) : given n f (fun i => V.int (g i)) = (((List.range n).filter f).map g).map V.int := by
  unfold given
  rw [List.map_map]
  rfl
theorem while_split {c : TT} {tb : TS} {D : Ends} {σ : L2.St} {H : Hp} (W : Nat → L2.St → Hp → Prop) (End : L2.St → Hp → Prop) (h0 : ∃ m, W m σ H) (after : ∀ σ H, End σ H → D.nx σ H)
    (turn : ∀ (nx : L2.St → Hp → Prop), (∀ σ H, End σ H → nx σ H) → ∀ m σ H, W m σ H → c σ H fun b H1 => if b = true then ∃ N : L2.St → Hp → Prop, (∀ σ' H', N σ' H' → ∃ m', m' < m ∧ W m' σ' H') ∧ tb { D with nx := N, ct := N, bk := D.nx } σ H1 else nx σ H1) :
    tWhile c tb D σ H := ⟨W, h0, fun m σ H w => turn D.nx after m σ H w⟩
theorem sh_ints (cs : List Int) : SeqAt.shaped (.list (cs.map PyData.int)) = true := PySem.W.ke_shaped_ints cs
theorem ne_nil {K : PySem.W.Frag} {H : Hp} {l z : Addr} {cs : List Int} {Q : VK} (hl : H l = some (.lst (cs.map V.int))) (hz : H z = some (.lst [])) (q : Q (.bl (!cs.isEmpty)) H) : rNeD K (.ref l) (.ref z) H Q :=
  ⟨.list (cs.map PyData.int), .list [], .lst (sq_of hl) (dp_ints cs), .lst (sq_of hz) .nil, sh_ints cs, rfl, by rw [eqv_ints_nil]; exact q⟩
theorem at_last (ds : List Int) (x : Int) : atI ((ds ++ [x]).map V.int) (-1) = some (.int x) := by
  unfold atI ixN
  rw [if_neg (by decide), List.length_map, List.length_append, if_pos (by rw [List.length_singleton]; omega)]
  show ((ds ++ [x]).map V.int)[(-1 + ((ds.length + [x].length : Nat) : Int)).toNat]? = _
  rw [show (-1 + ((ds.length + [x].length : Nat) : Int)).toNat = ds.length by rw [List.length_singleton]; omega, List.getElem?_map, List.getElem?_append_right (Nat.le_refl _), Nat.sub_self]
  rfl
theorem pop_last (ds : List Int) (x : Int) : ((ds ++ [x]).map V.int)[((ds ++ [x]).map V.int).length - 1]? = some (.int x) ∧ ((ds ++ [x]).map V.int).dropLast = ds.map V.int := by
  constructor
  · rw [List.length_map, List.length_append, List.length_singleton, Nat.add_sub_cancel, List.getElem?_map, List.getElem?_append_right (Nat.le_refl _), Nat.sub_self]
    rfl
  · rw [List.map_append]
    exact List.dropLast_concat
theorem cases_last (cs : List Int) : cs = [] ∨ ∃ ds x, cs = ds ++ [x] := by
  rcases List.eq_nil_or_concat cs with h | ⟨ds, x, h⟩
  · exact .inl h
  · exact .inr ⟨ds, x, by rw [h, List.concat_eq_append]⟩
theorem not_empty (ds : List Int) (x : Int) : (!(ds ++ [x]).isEmpty) = true := by
  cases ds <;> rfl
/-- recursion of a def: what it promises at a depth; at none nothing -/
def spSameR (K : PySem.W.Frag) : Nat → Sp
  | 0 => fun _ _ _ _ => False
  | n + 1 => spSame K n
end Own

/-! What is known and where draws come from, with tuples beside; texts of one figure many times. -/
namespace Own
open PySem PySem.Spec PyProof.Rows L2 Evl
section
variable {N : Nat} {a l p : Addr} {R R1 H H1 : Hp} {K : PySem.W.Frag} {xs : List V} {Q : VK}
/-- less is known -/
theorem Wl.weak (w : Wl N a l R1 H) (e : Ex R R1) : Wl N a l R H := ⟨e.trans w.ex, fresh_back e w.na, fresh_back e w.nl, w.deal⟩
theorem Tp.ne (h : Tp K H p xs) (w : Deal N H a l) : (p ≠ a ∧ p ≠ l) ∨ ∀ H', Tp K H' p xs := by
  rcases h with ⟨o, h1, h2⟩ | h
  · obtain ⟨_, cs, ms, g1, g2, _⟩ := w
    refine .inl ⟨fun e => ?_, fun e => ?_⟩
    · subst e
      rw [h2] at g1
      cases g1
    · subst e
      rw [h2] at g2
      cases g2
  · exact .inr fun _ => .inr h
/-- a tuple that came beside is known from then on -/
theorem Wl.tp (w : Wl N a l R H) (e : Ex H H1) (h : Tp K H1 p xs) : ∃ R1, Ex R R1 ∧ Wl N a l R1 H1 ∧ Tp K R1 p xs := by
  obtain ⟨R1, e1, w1, m⟩ := w.more e
  refine ⟨R1, e1, w1, ?_⟩
  rcases h.ne w1.deal with ⟨n1, n2⟩ | h'
  · rcases h with ⟨o, h1, h2⟩ | h
    · exact .inl ⟨o, h1, m _ _ n1 n2 h2⟩
    · exact .inr h
  · exact h' _
/-- a new tuple, and what was known stays -/
def RetW (N : Nat) (K : PySem.W.Frag) (a l : Addr) (R : Hp) (xs : List V) (Q : VK) : Prop := ∀ p R1 H1, Ex R R1 → Wl N a l R1 H1 → Tp K R1 p xs → Q (.ref p) H1
theorem RetW.ret (k : RetW N K a l R xs Q) (w : Wl N a l R H) : RetU K xs H Q := fun p H2 e h => by
  obtain ⟨R1, e1, w1, t⟩ := w.tp e h
  exact k p R1 H2 e1 w1 t
theorem RetW.more (k : RetW N K a l R xs Q) (e : Ex R R1) : RetW N K a l R1 xs Q := fun p R2 H2 e2 w t => k p R2 H2 (e.trans e2) w t
end
/-! ### (x,) * n and t + u, with what they give -/
theorem rep_flat {α : Type} (n : Nat) (x : α) : (List.replicate n [x]).flatten = List.replicate n x := by
  induction n with
  | zero => rfl
  | succ n ih => rw [List.replicate_succ, List.flatten_cons, ih]; rfl
theorem rep_one {K : PySem.W.Frag} {x : V} {n : Int} {H : Hp} {Q : VK} (h0 : -1000 ≤ n) (h1 : n ≤ 1000) (k : RetU K (List.replicate n.toNat x) H Q) : NewT [x] H (fun v H1 => rRepF K v (.int n) H1 Q) := by
  intro p o hp ho
  refine ⟨p, n, [x], rfl, rfl, (Tp.of ho upd_same).sq, h0, h1, by show 1 ≤ 1000; omega, fun e => ?_, fun _ e => ?_⟩
  · rcases e with e | rfl
    · cases e
    · exact k p _ (Ex.new hp) (Tp.of ho upd_same)
  · rw [rep_flat]
    exact k.new (Ex.new hp)
theorem cat_ret {K : PySem.W.Frag} {a b : Addr} {xs ys : List V} {H H0 : Hp} {Q : VK} (ha : Tp K H a xs) (hb : Tp K H b ys) (hz : xs.length + ys.length ≤ sizeLine) (e : Ex H0 H) (k : RetU K (xs ++ ys) H0 Q) : rCatF K (.ref a) (.ref b) H Q :=
  ⟨a, b, xs, ys, rfl, rfl, ha.sq, hb.sq, hz, fun h => by
    subst h
    exact k b H e hb, fun _ h => by
    subst h
    rw [List.append_nil] at k
    exact k a H e ha, fun _ _ => k.new e⟩
/-! ### a figure many times -/
theorem rep_arr (a : Array Nat) : ∀ (n : Nat) (acc : Array Nat), ((List.replicate n a).foldl (· ++ ·) acc).toList = acc.toList ++ (List.replicate n a.toList).flatten
  | 0, acc => by simp
  | n + 1, acc => by
    rw [List.replicate_succ, List.foldl_cons, rep_arr a n, List.replicate_succ, List.flatten_cons, Array.toList_append, List.append_assoc]
theorem repS_list (a : Str) (n : Nat) : (repS a n).cps.toList = (List.replicate n a.cps.toList).flatten := by
  have := rep_arr a.cps n #[]
  exact this
theorem fig_int {a : Str} {c n : Nat} (ha : a.cps.toList = [c]) (h0 : 48 ≤ c) (h1 : c ≤ 57) (hn : 0 < n) (hz : n ≤ 4300) : ∃ z : Int, PySem.intText? (repS a n) = some z ∧ (repS a n).length ≤ 4300 ∧ (numSeenOf (repS a n)).length = (repS a n).length := by
  have e : (repS a n).cps.toList = List.replicate n c := by rw [repS_list, ha, rep_flat]
  have el : (repS a n).length = n := by
    have := congrArg List.length e
    rw [List.length_replicate] at this
    exact this
  have hd : ∀ x ∈ (repS a n).cps.toList, x = c := fun x hx => by
    rw [e] at hx
    exact List.eq_of_mem_replicate hx
  refine ⟨_, intText_digits ?_ ?_ (by omega), by omega, ?_⟩
  · intro x hx
    rw [hd x hx]
    exact ⟨h0, h1⟩
  · rw [e]
    intro h
    have := congrArg List.length h
    rw [List.length_replicate] at this
    simp at this
    omega
  · rw [(numText_signs (x := repS a n) fun x hx => .inr (by rw [hd x hx]; exact ⟨h0, h1⟩)).2]
    rfl
end Own

/-! range(n) as a list; tuples that a comprehension makes; plain laws of rows. -/
namespace Own
open PySem PySem.Spec PyProof.Rows L2 Evl
theorem newL {H : Hp} {xs : List V} {Q : VK} (k : ∀ m H1, Ex H H1 → H m = none → H1 m = some (.lst xs) → Q (.ref m) H1) : ∀ m, H m = none → Q (.ref m) (upd H m (.lst xs)) := fun m hm => k m _ (Ex.new hm) hm upd_same
theorem rg_len (n : Nat) : (rgV 0 (n : Int)).length = n := by
  rw [rgV_length]
  omega
theorem rg_at {n i : Nat} {x : V} (h : (rgV 0 (n : Int))[i]? = some x) : x = .int (i : Int) ∧ i < n := by
  unfold rgV at h
  rw [List.getElem?_map] at h
  by_cases hi : i < ((n : Int) - 0).toNat
  · rw [List.getElem?_range hi] at h
    have := Option.some.inj h
    refine ⟨?_, by omega⟩
    rw [← this]
    exact congrArg V.int (by omega)
  · rw [List.getElem?_eq_none (by rw [List.length_range]; omega)] at h
    cases h
theorem rg_ok {n : Nat} (h : n ≤ 10000) : RgOk 0 (n : Int) := RgOk.of_le (by decide) (by omega) (by decide) (by omega)
/-- ints made from ints, place by place -/
theorem range_of {n : Nat} (f : Nat → Int) {ys : List Int} (h1 : ys.length = n) (h : ∀ i, i < n → f i = ys.getD i 0) : (List.range n).map (fun i => V.int (f i)) = ys.map V.int := by
  subst h1
  rw [← range_map 0 V.int ys]
  apply List.map_congr_left
  intro i hi
  rw [h i (List.mem_range.mp hi)]
theorem getD_zip {f : Int → Int → Int} {xs ys : List Int} {i : Nat} (h1 : i < xs.length) (h2 : i < ys.length) : (List.zipWith f xs ys).getD i 0 = f (xs.getD i 0) (ys.getD i 0) := by
  simp only [List.getD_eq_getElem?_getD, List.getElem?_zipWith, List.getElem?_eq_getElem h1, List.getElem?_eq_getElem h2]
  rfl
theorem getD_map {f : Int → Int} {xs : List Int} {i : Nat} (h1 : i < xs.length) : (xs.map f).getD i 0 = f (xs.getD i 0) := by
  simp only [List.getD_eq_getElem?_getD, List.getElem?_map, List.getElem?_eq_getElem h1]
  rfl
theorem less_is (x y q : Int) : (x + 2 * q - y) % q = (x - y) % q := by
  rw [show x + 2 * q - y = (x - y) + q * 2 by omega, Int.add_mul_emod_self_left]
theorem turned_is (y q : Int) : (q - y) % q = y * (-1 % q) % q := by
  have h : y * (-1 % q) % q = y * -1 % q := by
    rw [Int.mul_emod y (-1 % q) q, Int.emod_emod_of_dvd _ (Int.dvd_refl q), ← Int.mul_emod]
  rw [h, show q - y = y * -1 + q * 1 by omega, Int.add_mul_emod_self_left]
end Own
namespace Own
open PySem PySem.Spec PyProof.Rows L2 Evl
theorem given_congr {n : Nat} {f g : Nat → Bool} {v : Nat → V} (h : ∀ i, i < n → f i = g i) : given n f v = given n g v := by
  unfold given
  rw [List.filter_congr fun i hi => h i (List.mem_range.mp hi)]
theorem range_getD (xs : List Int) : (List.range xs.length).map (fun i => xs.getD i 0) = xs := by
  have := range_map (0 : Int) (id : Int → Int) xs
  rw [List.map_id] at this
  exact this
theorem given_count (xs : List Int) (p : Int → Bool) (v : Nat → V) : (given xs.length (fun i => p (xs.getD i 0)) v).length = xs.countP p := by
  unfold given
  rw [List.length_map, ← List.countP_eq_length_filter]
  conv => rhs; rw [← range_getD xs, List.countP_map]
  rfl
theorem given_weight (xs : List Int) (v : Nat → V) : ((given xs.length (fun i => decide (xs.getD i 0 ≠ 0)) v).length : Int) = (xs.length : Int) - (xs.count 0 : Nat) := by
  rw [given_count xs (fun x => decide (x ≠ 0)) v]
  have h1 := List.length_eq_countP_add_countP (fun x : Int => x == 0) (l := xs)
  have h2 : xs.count 0 = xs.countP (fun x => x == 0) := rfl
  have h3 : xs.countP (fun x => decide (x ≠ 0)) = xs.countP (fun a => decide ¬ (a == 0) = true) := by
    apply List.countP_congr
    intro x _
    simp
  omega
end Own

/-! Calls that may raise, by name; a figure many times, its worth. -/
namespace Own
open PySem PySem.Spec PyProof.Rows L2 Evl
section
variable {X : Cx} {CX : CXT} {k : Nat} {ps ks : List Str} {sp : Sp} {E : L2.St → XK} {x : Str} {st : Stmt} {p pos : Pos} {e : Expr} {es : List Expr} {t tk : TA}
theorem pe_callSF (F : Fn X.prog X.w X.K X.mg X.base CX k x st ps sp) (hr : Room k X.A) (hg : Gl X x) (hx : ∀ σ, PassesAt CX X σ (E σ)) (ha : PA X (e :: es) t) (hdb : (x == ("__debug__" : Str)) = false := by decide)
    (he : starEach (e :: es) X.env = (false, eval e X.env) :: starEach es X.env := by rfl) (hpl : (backTo pos (starEach es X.env)).any (·.1) = false := by rfl) :
    PE X (.Call (.Name x p) (e :: es) [] pos) (tCallS sp E t) := by
  obtain ⟨f, fd, h1, h2, h3, h4⟩ := F
  exact pe_callS h4 hr hg h1 h2.kp h3 hx ha hdb he hpl
end
theorem fig_val {a : Str} {c n : Nat} (ha : a.cps.toList = [c]) (h0 : 48 ≤ c) (h1 : c ≤ 57) (hn : 0 < n) (hz : n ≤ 4300) : PySem.intText? (repS a n) = some ((NumText.digitsVal (List.replicate n c) : Nat) : Int) ∧ (repS a n).length ≤ 4300 ∧ (numSeenOf (repS a n)).length = (repS a n).length := by
  have e : (repS a n).cps.toList = List.replicate n c := by rw [repS_list, ha, rep_flat]
  obtain ⟨z, z1, z2, z3⟩ := fig_int ha h0 h1 hn hz
  refine ⟨?_, z2, z3⟩
  rw [← e]
  refine intText_digits ?_ ?_ z2
  · intro x hx
    rw [e] at hx
    rw [List.eq_of_mem_replicate hx]
    exact ⟨h0, h1⟩
  · rw [e]
    intro h
    have := congrArg List.length h
    rw [List.length_replicate] at this
    simp at this
    omega
theorem fold_le : ∀ (l : List Nat) (acc : Nat), acc ≤ l.foldl (fun acc c => acc * 10 + (c - 48)) acc
  | [], _ => Nat.le_refl _
  | c :: r, acc => Nat.le_trans (by omega) (fold_le r (acc * 10 + (c - 48)))
theorem threes (n : Nat) : 3333 ≤ NumText.digitsVal (List.replicate (n + 4) 51) := fold_le (List.replicate n 51) 3333
theorem fig_three {n : Nat} (h : 4 ≤ n) (hz : n ≤ 4300) : ∃ z : Int, 3333 ≤ z ∧ PySem.intText? (repS "3" n) = some z ∧ (repS "3" n).length ≤ 4300 ∧ (numSeenOf (repS "3" n)).length = (repS "3" n).length := by
  obtain ⟨m, rfl⟩ : ∃ m, n = m + 4 := ⟨n - 4, by omega⟩
  obtain ⟨i1, i2, i3⟩ := fig_val (a := "3") (c := 51) (n := m + 4) (by decide +kernel) (by decide) (by decide) (by omega) hz
  exact ⟨_, Int.ofNat_le.mpr (threes m), i1, i2, i3⟩
end Own

namespace Own
open PySem PySem.Spec PyProof.Rows L2 Evl
section
variable {N : Nat} {K : PySem.W.Frag} {H R : Hp} {Q : VK} {a l p : Addr} {xs : List V}
theorem rep_id {α : Type} (xs : List α) : (List.replicate 1 xs).flatten = xs := by simp
theorem rep_nil {α : Type} (n : Nat) : (List.replicate n ([] : List α)).flatten = [] := by
  induction n with
  | zero => rfl
  | succ n ih => rw [List.replicate_succ, List.flatten_cons, ih]; rfl
theorem rep_ret {k : Int} (h : Tp K H l xs) (h0 : -1000 ≤ k) (h1 : k ≤ 1000) (hz : xs.length ≤ 1000) (q : RetU K (List.replicate k.toNat xs).flatten H Q) : rRepF K (.ref l) (.int k) H Q :=
  ⟨l, k, xs, rfl, rfl, h.sq, h0, h1, hz, fun e => by
    rcases e with rfl | rfl
    · rw [rep_nil] at q
      exact q l H (Ex.refl _) h
    · rw [show (1 : Int).toNat = 1 from rfl, rep_id] at q
      exact q l H (Ex.refl _) h, fun _ _ => q.new (Ex.refl _)⟩
theorem sl_ret {lo hi : Option Int} (h : Tp K H l xs) (q : RetU K (cutV xs lo hi) H Q) : rSlF K (.ref l) lo hi H Q :=
  ⟨l, xs, rfl, h.sq, fun e => by
    have : cutV xs lo hi = xs := by
      unfold cutV
      rw [e.1, e.2, List.drop_zero, Nat.sub_zero, List.take_length]
    rw [this] at q
    exact q l H (Ex.refl _) h, fun _ => q.new (Ex.refl _)⟩
theorem cut_from1 (xs : List V) : cutV xs (some 1) none = xs.drop 1 := by
  unfold cutV
  rw [show (1 : Int) = ((1 : Nat) : Int) from rfl, HT.sIx_nat, HT.sIx_none]
  cases xs with
  | nil => rfl
  | cons x r =>
    rw [show min 1 (x :: r).length = 1 by simp, List.take_of_length_le (by rw [List.length_drop]; omega)]
theorem Deal.off (d : Deal N H a l) (h : H p = none) : p ≠ a ∧ p ≠ l := ⟨fun e => d.dom.1 (e ▸ h), fun e => d.dom.2 (e ▸ h)⟩
theorem Tp.mut {wr : Addr} {ys zs : List V} (h : Tp K R p xs) (hw : R wr = some (.lst ys)) : Tp K (upd R wr (.lst zs)) p xs := by
  rcases h with ⟨o, h1, h2⟩ | h
  · have : p ≠ wr := fun e => by
      rw [e, hw] at h2
      cases h2
    exact .inl ⟨o, h1, by rw [upd_ne this]; exact h2⟩
  · exact .inr h
/-- kinds, when a list is changed -/
theorem Vk.mut {wr : Addr} {ys zs : List V} {v : V} {T : String} (h : Vk K R v T) (hw : R wr = some (.lst ys)) : Vk K (upd R wr (.lst zs)) v T := by
  cases h with
  | non => exact .non
  | bl b => exact .bl b
  | int i => exact .int i
  | str z => exact .str z
  | tup h => exact .tup (h.mut hw)
  | lst h =>
    rename_i p xs
    by_cases e : p = wr
    · subst e
      exact .lst upd_same
    · exact .lst (by rw [upd_ne e]; exact h)
theorem least : ∀ ps : List Int, ps ≠ [] → ∃ m, m ∈ ps ∧ ∀ y, y ∈ ps → m ≤ y
  | [], h => (h rfl).elim
  | [x], _ => ⟨x, by simp, fun y hy => by rw [List.mem_singleton.mp hy]; exact Int.le_refl _⟩
  | x :: z :: r, _ => by
    obtain ⟨m, h1, h2⟩ := least (z :: r) (by simp)
    by_cases c : x ≤ m
    · refine ⟨x, by simp, fun y hy => ?_⟩
      rcases List.mem_cons.mp hy with rfl | h
      · exact Int.le_refl _
      · exact Int.le_trans c (h2 y h)
    · refine ⟨m, List.mem_cons_of_mem _ h1, fun y hy => ?_⟩
      rcases List.mem_cons.mp hy with rfl | h
      · omega
      · exact h2 y h
theorem eqv_tup_nil (ns : List Int) : PyData.eqv (.tuple (ns.map PyData.int)) (.tuple []) = ns.isEmpty := by
  cases ns <;> rfl
theorem sh_tup_ints (ns : List Int) : SeqAt.shaped (.tuple (ns.map PyData.int)) = true := by
  simp [SeqAt.shaped, PyData.canLay0, PyData.depth, PySem.W.ke_canLayAll0, PySem.W.ke_depthAll]
theorem tp_known (h : Tp K H p xs) (d : Deal N H a l) (known : ∀ b o, b ≠ a → b ≠ l → H b = some o → R b = some o) : Tp K R p xs := by
  rcases h.ne d with ⟨n1, n2⟩ | h'
  · rcases h with ⟨o, h1, h2⟩ | h
    · exact .inl ⟨o, h1, known _ _ n1 n2 h2⟩
    · exact .inr h
  · exact h' _
theorem if_skip {c : TT} {t : TS} {D : Ends} {σ : L2.St} (J : Hp → Prop) (after : ∀ H', J H' → D.nx σ H') (h : ∀ nx : Hp → Prop, (∀ H', J H' → nx H') → c σ H fun b H1 => if b = true then t D σ H1 else nx H1) : tIfS c t tNext D σ H := h _ after
theorem if_join {c : TT} {t : TS} {D : Ends} {σ : L2.St} (J : L2.St → Hp → Prop) (after : ∀ σ' H', J σ' H' → D.nx σ' H') (h : ∀ nx : L2.St → Hp → Prop, (∀ σ' H', J σ' H' → nx σ' H') → c σ H fun b H1 => if b = true then t { D with nx := nx } σ H1 else nx σ H1) : tIfS c t tNext D σ H := h _ after
theorem asg_join {te : TE} {i : Nat} {D : Ends} {σ : L2.St} (J : V → Hp → Prop) (after : ∀ v H', J v H' → D.nx (σ.set i (some v)) H') (h : ∀ Qk : VK, (∀ v H', J v H' → Qk v H') → te σ H Qk) : tAsg te (gName i) D σ H := h _ after
/-- both branches written -/
theorem if_both {c : TT} {t u : TS} {D : Ends} {σ : L2.St} (J : L2.St → Hp → Prop) (after : ∀ σ' H', J σ' H' → D.nx σ' H') (h : ∀ nx : L2.St → Hp → Prop, (∀ σ' H', J σ' H' → nx σ' H') → c σ H fun b H1 => if b = true then t { D with nx := nx } σ H1 else u { D with nx := nx } σ H1) : tIfS c t u D σ H := h _ after
end
end Own

/-! The head's facts, with the statics beside, and one's own exceptions. -/
namespace Own
open PySem PySem.Spec PyProof.Rows L2
open He (ga ma fAd eqO eqO_ok ba)
abbrev ExW : Type := Option (Str × Str × Arguments × FuncBody × Scope × Addr × List Str × Addr)
def exW (K : PySem.W.Frag) (x : Str) : ExW := match K.lookup (ma K (ga K x) "__init__") with
  | some ⟨_, _, .func fd, _⟩ => some (fd.name, fd.qualname, fd.params, fd.body, fd.scope, fd.globals, fd.closure.map (·.1), fd.builtins)
  | _ => none
/-- an own exception: its name, its base's name, its field, its __init__ -/
structure ExD where
  name : Str
  base : Str
  field : Str
  qual : Str
  params : Arguments
  body : List Stmt
  scope : Scope
def ExD.val (e : ExD) : ExW := some ("__init__", e.qual, e.params, .stmts e.body, e.scope, mainGlobals, ["__class__"], builtinsNs)
/-- a class one above another, both errors -/
def clsB (K : PySem.W.Frag) (C M : Addr) : Bool := match K.lookup C with
  | some ⟨.type "type", _, .cls cd, sl⟩ => (match sl.toList with
    | [_, _, _, _, some (.builtin n), _] => decide (cd.mro = .ref C :: .ref M :: PySem.OwX.exT) && decide (n = "Exception.__new__") && cd.hasDict && !cd.hasDel
    | _ => false)
  | _ => false
theorem clsB_ok {K : PySem.W.Frag} {C M : Addr} (h : clsB K C M = true) : ∃ nm q N bs sn sub ab col dd k0 k1 k2 k3 k5, K.lookup C = some (excClassObj nm q C N bs (.ref M :: PySem.OwX.exT) true sn sub ab col dd k0 k1 k2 k3 k5 "Exception.__new__") := by
  unfold clsB at h
  split at h
  · rename_i dd cd sl ho
    split at h
    · rename_i k0 k1 k2 k3 n k5 hs
      simp only [Bool.and_eq_true, decide_eq_true_eq, Bool.not_eq_true'] at h
      obtain ⟨⟨⟨hm, rfl⟩, hd⟩, hdel⟩ := h
      obtain ⟨nm, bs, mro, ns, qn, hdd, sn, sub, ab, col, del⟩ := cd
      dsimp only at hm hd hdel
      subst hm hd hdel
      have hsl : sl = #[k0, k1, k2, k3, some (.builtin "Exception.__new__"), k5] := by
        obtain ⟨l⟩ := sl
        simp only at hs
        rw [hs]
      subst hsl
      exact ⟨nm, qn, ns, bs, sn, sub, ab, col, dd, k0, k1, k2, k3, k5, ho⟩
    · cases h
  · cases h
/-- its __init__'s code, its cell -/
def initB (K : PySem.W.Frag) (file qual : Str) (C fI : Addr) : Bool := match K.lookup fI with
  | some ⟨_, _, .func fd, _⟩ => (match fd.defaults, fd.kwdefaults, fd.code, fd.closure with
    | .none, .none, .ref cda, [(_, cc)] => PySem.W.codeIn K (.ref cda) qual && (match K.lookup cda with
      | some ⟨_, _, .fields vs, _⟩ => (match (vs[2]? : Option Value) with
        | some (.str z _) => decide (z = file)
        | _ => false)
      | _ => false) && (match K.lookup cc with
      | some ⟨_, _, .cell (some (.ref D)), _⟩ => decide (D = C)
      | _ => false)
    | _, _, _, _ => false)
  | _ => false
theorem initB_ok {K : PySem.W.Frag} {file : Str} {C : Addr} {x : Str} {e : ExD} (h : initB K file e.qual C (ma K (ga K x) "__init__") = true) (w : exW K x = e.val) :
    ∃ (oc : Value) (od : Option Addr) (doc pm : Value) (an : Option Addr) (cda cc : Addr) (ct : Value) (osl : Array (Option Value)) (ccl cl : Value) (cdd cld : Option Addr) (ccs csl : Array (Option Value)) (vs : Array Value) (tf : Tok),
      K.lookup (ma K (ga K x) "__init__") = some ⟨oc, od, .func (PySem.W.ksFn "__init__" e.qual e.params e.body e.scope .none .none doc pm an (.ref cda) ct cc), osl⟩ ∧ PySem.W.codeIn K (.ref cda) e.qual = true ∧
        K.lookup cda = some ⟨ccl, cdd, .fields vs, ccs⟩ ∧ vs[2]? = some (.str file tf) ∧ K.lookup cc = some ⟨cl, cld, .cell (some (.ref C)), csl⟩ := by
  unfold initB at h
  unfold exW at w
  split at h
  · rename_i oc od fd osl ho
    rw [ho] at w
    have w2 : (some (fd.name, fd.qualname, fd.params, fd.body, fd.scope, fd.globals, fd.closure.map (·.1), fd.builtins) : ExW) = e.val := w
    obtain ⟨n1, n2, n3, n4, n5, n6, n7, n8, n9, n10, n11, n12, n13, n14, n15⟩ := fd
    dsimp only at h w2
    split at h
    · rename_i cda q cc
      rename_i e1 e2 e3 e4
      unfold ExD.val at w2
      simp only [Option.some.injEq, Prod.mk.injEq, List.map_cons, List.map_nil, List.cons.injEq, and_true] at w2
      obtain ⟨rfl, rfl, rfl, rfl, rfl, rfl, rfl, rfl⟩ := w2
      simp only [Bool.and_eq_true] at h
      obtain ⟨⟨h1, h2⟩, h3⟩ := h
      split at h2
      · rename_i ccl cdd vs ccs hc
        split at h2
        · rename_i z tf hz
          obtain rfl := of_decide_eq_true h2
          split at h3
          · rename_i cl cld D csl hcc
            obtain rfl := of_decide_eq_true h3
            exact ⟨oc, od, _, _, _, cda, cc, _, osl, ccl, cl, cdd, cld, ccs, csl, vs, tf, ho, h1, hc, hz, hcc⟩
          · cases h3
        · cases h2
      · cases h2
    · cases h
  · cases h
end Own

/-! .. the Hook, what it says. -/
namespace Own
open PySem PySem.Spec PyProof.Rows L2
open He (ga ma fAd eqO eqO_ok ba)
def ExD.ok (file : Str) (K : PySem.W.Frag) (e : ExD) : Bool :=
  clsB K (ga K e.name) (ga K e.base) && (initB K file e.qual (ga K e.name) (ma K (ga K e.name) "__init__") && (eqO (PySem.W.findIn K (.ref (ga K e.name)) "__setattr__") (some (some (.builtin "object.__setattr__"))) &&
  (eqO (PySem.W.findIn K (.ref (ga K e.name)) "__getattribute__") (some (some (.builtin "BaseException.__getattribute__"))) && (eqO (PySem.W.findIn K (.ref (ga K e.name)) "__getattr__") (some none) &&
  (eqO (PySem.W.findIn K (.ref (ga K e.name)) e.field) (some none) && (eqO (PySem.W.findIn K (.ref (ga K e.name)) "__init__") (some (some (.ref (ma K (ga K e.name) "__init__")))) &&
  (decide (PySem.W.typeIn K (.ref (ma K (ga K e.name) "__init__")) = some (.type "function")) && (PySem.W.keepIn K (.ref (ga K e.name)) && (decide (PySem.W.subIn K (.ref (ga K e.name)) (.type "BaseException") = some true) &&
  (decide (PySem.W.subIn K (.ref (ga K e.name)) (.type "Exception") = some true) && (decide (PySem.W.typeIn K (.ref (ga K e.name)) = some (.type "type")) && (PySem.W.hasDictIn K (ga K e.name) &&
  (decide (PySem.W.exmOne K (.ref (ga K e.name)) (.ref (ga K e.name)) = some true) && (eqO (PySem.W.alongIn K "__init__" (.ref (ga K e.base) :: PySem.OwX.exT)) (some (some (.builtin "Exception.__init__"))) &&
  eqO (PySem.W.nsIn K mainGlobals "super") (some none)))))))))))))))
def statB (K : PySem.W.Frag) : Bool := eqO (PySem.W.nsIn K cStatics "sys.int_max_str_digits") (some none) && eqO (PySem.W.nsIn K cStatics "thirdparty.any") (some none)
abbrev AlE : Type := He.AlD × Bool × List ExW
def obsE (file : Str) (fa : List He.Fa) (fn : List He.DefD) (ex : List ExD) (K : PySem.W.Frag) : AlE := (He.obsD fa fn K, statB K && ex.all (fun e => e.ok file K), ex.map fun e => exW K e.name)
def valE (fn : List He.DefD) (ex : List ExD) : AlE := (He.valD fn, true, ex.map ExD.val)
def SaysE (file : Str) (fa : List He.Fa) (fn : List He.DefD) (ex : List ExD) (K : PySem.W.Frag) : Prop := obsE file fa fn ex K = valE fn ex
def obsEG (file : Str) (n : Nat) (fa : List He.Fa) (fn : List He.DefD) (ex : List ExD) (g : Addr → Option Obj) : AlE := obsE file fa fn ex (He.frG g (cStatics :: He.asD g n))
def hookE (file : Str) (n : Nat) (fa : List He.Fa) (fn : List He.DefD) (ex : List ExD) : PySem.W.Hook where
  α := AlE
  obs := fun s => obsEG file n fa fn ex s.heap.get?
  val := fun _ => valE fn ex
  says := fun _ h => ∃ K : PySem.W.Frag, K.In h ∧ SaysE file fa fn ex K
  of := fun _ _ e => ⟨_, He.frG_in, e⟩
  keeps := fun _ _ _ ⟨K, hK, c⟩ k => ⟨K, PySem.W.Frag.In.keeps hK k, c⟩
theorem obsEG_eq {file : Str} {n : Nat} {fa : List He.Fa} {fn : List He.DefD} {ex : List ExD} {g : Addr → Option Obj} {s : Shared} (h : ∀ a, g a = s.heap.get? a) : obsEG file n fa fn ex g = (hookE file n fa fn ex).obs s := by
  have e : g = s.heap.get? := funext h
  rw [e] <;> rfl
section
variable {file : Str} {fa : List He.Fa} {fn : List He.DefD} {ex : List ExD} {K : PySem.W.Frag}
theorem SaysE.saysD (c : SaysE file fa fn ex K) : He.SaysD fa fn K := congrArg (fun z : AlE => z.1) c
theorem SaysE.st (c : SaysE file fa fn ex K) : statB K = true := (ba (show (statB K && ex.all (fun e => e.ok file K)) = true from congrArg (fun z : AlE => z.2.1) c)).1
theorem SaysE.ex_ (c : SaysE file fa fn ex K) (i : Nat) {e : ExD} (h : ex[i]? = some e := by rfl) : e.ok file K = true ∧ exW K e.name = e.val := by
  have c2 := (ba (show (statB K && ex.all (fun e => e.ok file K)) = true from congrArg (fun z : AlE => z.2.1) c)).2
  have e1 : ex.map (fun e => exW K e.name) = ex.map ExD.val := congrArg (fun z : AlE => z.2.2) c
  have e2 : (ex.map fun e => exW K e.name)[i]? = (ex.map ExD.val)[i]? := by rw [e1]
  rw [List.getElem?_map, List.getElem?_map, h] at e2
  exact ⟨List.all_eq_true.mp c2 e (List.mem_of_getElem? h), Option.some.inj e2⟩
theorem SaysE.digits (c : SaysE file fa fn ex K) : PySem.W.nsIn K cStatics "sys.int_max_str_digits" = some none := eqO_ok (ba c.st).1
/-- one of at -/
def exAt (nm base msg qual : Str) (p1 p2 r0 r1 r2 r3 r4 r5 q1 q2 q3 q4 : Pos) : ExD := ⟨nm, base, "at", qual, PySem.OwXat.iA p1 p2, [PySem.OwXat.sSup msg r0 r1 r2 r3 r4 r5, PySem.OwXat.sStore q1 q2 q3 q4], PySem.OwXat.iS⟩
theorem oex_at {P : Program} {nm base msg qual : Str} {p1 p2 r0 r1 r2 r3 r4 r5 q1 q2 q3 q4 : Pos} (st : statB K = true) (c : (exAt nm base msg qual p1 p2 r0 r1 r2 r3 r4 r5 q1 q2 q3 q4).ok P.main.file K = true ∧ exW K nm = (exAt nm base msg qual p1 p2 r0 r1 r2 r3 r4 r5 q1 q2 q3 q4).val)
    (top : (P.main.scope.names.lookup ("super" : Str)).isSome = false)
    (h1 : ∀ env : Env, ∃ pl : Sem Bool, eval (.Call (.Attribute (.Call (.Name "super" r0) [] [] r1) "__init__" r2) [.Constant (.str msg) 0 r3] [] r4) env = (do
        let ov ← attributeBase (.Call (.Name "super" r0) [] [] r1) "__init__" env (eval (.Call (.Name "super" r0) [] [] r1) env)
        standAt r2.atName
        let (f, first) ← holding [ov] (getMethod ov "__init__" pl)
        callWith r4 f first (backTo r4 (starEach [.Constant (.str msg) 0 r3] env)) []))
    (h2 : ∀ env : Env, swapsWith (.Call (.Attribute (.Call (.Name "super" r0) [] [] r1) "__init__" r2) [.Constant (.str msg) 0 r3] [] r4) none r5.line env = pure false)
    (h3 : ∀ env : Env, swapsWith (.Name "at" q3) (some (.Attribute (.Name "self" q1) "at" q2)) q4.line env = pure false) :
    PySem.OwXat.OexT P K (ga K nm) (ga K base) (ma K (ga K nm) "__init__") := by
  obtain ⟨c, w⟩ := c
  obtain ⟨c1, c⟩ := ba c
  obtain ⟨c2, c⟩ := ba c
  obtain ⟨c3, c⟩ := ba c
  obtain ⟨c4, c⟩ := ba c
  obtain ⟨c5, c⟩ := ba c
  obtain ⟨c6, c⟩ := ba c
  obtain ⟨c7, c⟩ := ba c
  obtain ⟨c8, c⟩ := ba c
  obtain ⟨c9, c⟩ := ba c
  obtain ⟨c10, c⟩ := ba c
  obtain ⟨c11, c⟩ := ba c
  obtain ⟨c12, c⟩ := ba c
  obtain ⟨c13, c⟩ := ba c
  obtain ⟨c14, c⟩ := ba c
  obtain ⟨c15, c16⟩ := ba c
  refine ⟨clsB_ok c1, eqO_ok c3, eqO_ok c4, eqO_ok c5, eqO_ok c6, eqO_ok c7, of_decide_eq_true c8, c9, of_decide_eq_true c10, of_decide_eq_true c11, of_decide_eq_true c12, c13, of_decide_eq_true c14, eqO_ok c15, eqO_ok (ba st).2, eqO_ok c16, top, ?_⟩
  obtain ⟨oc, od, doc, pm, an, cda, cc, ct, osl, ccl, cl, cdd, cld, ccs, csl, vs, tf, g1, g2, g3, g4, g5⟩ := initB_ok c2 w
  exact ⟨_, oc, od, doc, pm, an, cda, cc, ct, osl, msg, p1, p2, r0, r1, r2, r3, r4, r5, q1, q2, q3, q4, ccl, cl, cdd, cld, ccs, csl, vs, tf, g1, g2, g3, g4, g5, h1, h2, h3⟩
end
end Own

/-! tuple(range(n)); comprehensions that draw. -/
namespace Own
open PySem PySem.Spec PyProof.Rows L2 Evl
def tTupRange (te : TE) : TE := fun σ H Q => tRg1 te σ H fun a b H1 => RgOk a b ∧ NewT (rgV a b) H1 Q
section
variable {X : Cx}
theorem pe_tuple_range {e : Expr} {te : TE} {p pos p2 pos2 : Pos} (hm : X.mg "tuple" = none) (hm2 : X.mg "range" = none) (he : PE X e te) (hc : X.calm = true := by rfl) (hg : Gl X "tuple" := by rfl) (hg2 : Gl X "range" := by rfl)
    (na : starEach [e] X.env = (false, eval e X.env) :: starEach [] X.env := by rfl) (na2 : starEach [.Call (.Name "range" p2) [e] [] pos2] X.env = (false, eval (.Call (.Name "range" p2) [e] [] pos2) X.env) :: starEach [] X.env := by rfl) :
    PE X (.Call (.Name "tuple" p) [.Call (.Name "range" p2) [e] [] pos2] [] pos) (tTupRange te) := by
  have hr0 : PRg X (.Call (.Name "range" p2) [e] [] pos2) (tRg1 te) := prg_1 hg2 hm2 he na
  refine ⟨fun pins s σ H Q I h => ?_⟩
  refine Call_ (ld_blt I hg hm boot_tuple (PyProof.Rows.callWith_type1 (args_cons (thn (hr0 pins _ σ H _ (I.tok _) h) fun x s1 ⟨r, a, b, t, u, v, H1, ex, hr, I1, ok, q⟩ => args_nil ?_) na2) na2))
  subst ex
  obtain ⟨b1, b2, b3, b4, b5⟩ := ok
  refine call_tuple_range (n := (b - a).toNat) (I1.ok.hd hc) hr (small_one b1 b2 b3 b4) (rangeSize_nat a b) b5 fun h' tk acc hk hi => ?_
  have I2 : Inv X pins σ H1 { s1 with heap := h', toks := tk } := I1.kept hk
  have z := newT_end (tk := tk) I2 (vals_rg hi) (by rw [rgV_length, sizeLine_eq]; omega) q
  rw [Array.toArray_toList] at z
  exact z
end
section
variable {N : Nat} {a l : Addr} {R H : Hp} {J : It} {n : Nat} {G : Hp → Prop} {Y : Nat → Hp → V → Hp → Prop} {g : TG} {tt : TT} {te : TE} {vs : List Nat} {σ : L2.St}
/-- a comprehension within which draws are made -/
theorem lcW {Q : Addr → Hp → Prop} (S : Nat → List V → Hp → Prop) (w : Walk J n G Y) (hw : Wl N a l R H) (h0 : ∀ D, R D = none → S 0 [] (upd R D (.lst []))) (hG : ∀ Rd H', Ex R Rd → Wl N a l Rd H' → G H') (lenb : ∀ i acc Rd, S i acc Rd → acc.length ≤ 40000)
    (turn : ∀ i D acc Rd H1 x H2, i < n → Ex R Rd → Wl N a l Rd H1 → R D = none → Rd D = some (.lst acc) → S i acc Rd → Y i H1 x H2 → ∀ (K1 : VK) (K0 : Hp → Prop),
      (∀ y R5 H5, Ex R R5 → Wl N a l R5 H5 → R5 D = some (.lst acc) → S (i + 1) (acc ++ [y]) (upd R5 D (.lst (acc ++ [y]))) → K1 y H5) → (∀ R5 H5, Ex R R5 → Wl N a l R5 H5 → R5 D = some (.lst acc) → S (i + 1) acc R5 → K0 H5) →
      g x (wipe σ vs) H2 fun σ2 H3 => wipe σ2 vs = wipe σ vs ∧ tt σ2 H3 fun b H4 => if b = true then te σ2 H4 K1 else K0 H4)
    (q : ∀ D acc Rd H2, R D = none → Ex R Rd → Wl N a l Rd H2 → Rd D = some (.lst acc) → S n acc Rd → Q D H2) :
    ∀ D, H D = none → ∃ W : Nat → Nat → Hp → Prop, (∃ m, W 0 m (upd H D (.lst []))) ∧ ∀ i m H, W i m H →
      (J.stop i H ∧ Q D H) ∨ (J.go i H ∧ ∃ Nx : Hp → Prop, (∀ H', Nx H' → ∃ m', m' < m ∧ W (i + 1) m' H') ∧ ∀ x H', J.yld i H x H' → g x (wipe σ vs) H' fun σ2 H2 => wipe σ2 vs = wipe σ vs ∧ tt σ2 H2 fun b H3 =>
        if b = true then te σ2 H3 fun y H4 => ∃ acc, H4 D = some (.lst acc) ∧ acc.length < sizeLine ∧ Nx (upd H4 D (.lst (acc ++ [y]))) else Nx H3) := fun D hD => by
  have hR := hw.free hD
  refine lc_it w (fun i H' => ∃ acc Rd, Ex R Rd ∧ Wl N a l Rd H' ∧ Rd D = some (.lst acc) ∧ S i acc Rd) ⟨[], _, Ex.new hR, hw.new hD, upd_same, h0 D hR⟩ (fun i H' _ p => ?_) (fun i x H1 H2 hi p y => ?_) (fun H' p => ?_)
  · obtain ⟨acc, Rd, p1, p2, _⟩ := p
    exact hG Rd H' p1 p2
  · obtain ⟨acc, Rd, p1, p2, p3, p4⟩ := p
    refine turn i D acc Rd H1 x H2 hi p1 p2 hR p3 p4 y _ _ (fun z R5 H5 e5 w5 k5 s5 => ?_) (fun R5 H5 e5 w5 k5 s5 => ?_)
    · exact ⟨acc, w5.ex _ _ k5, sz_lt (by have := lenb _ _ _ p4; omega), acc ++ [z], _, ex_side e5 hR, w5.mut k5, upd_same, s5⟩
    · exact ⟨acc, R5, e5, w5, k5, s5⟩
  · obtain ⟨acc, Rd, p1, p2, p3, p4⟩ := p
    exact q D acc Rd H' hR p1 p2 p3 p4
end
/-! ### lists of small numbers -/
def nI (ps : List Nat) : List Int := ps.map fun p : Nat => (p : Int)
theorem nI_len (ps : List Nat) : (nI ps).length = ps.length := List.length_map ..
theorem nI_getD (ps : List Nat) (i : Nat) : (nI ps).getD i 0 = ((ps.getD i 0 : Nat) : Int) := by
  unfold nI
  rw [List.getD_eq_getElem?_getD, List.getElem?_map, List.getD_eq_getElem?_getD]
  cases ps[i]? <;> rfl
theorem at_nI {ps : List Nat} {i : Nat} (h : i < ps.length) : atI ((nI ps).map V.int) (i : Int) = some (.int ((ps.getD i 0 : Nat) : Int)) := by
  rw [← nI_getD]
  exact atI_int (by rw [nI_len]; exact h)
theorem nI_at {ps : List Nat} {i : Nat} {x : V} (h : ((nI ps).map V.int)[i]? = some x) : x = .int ((ps.getD i 0 : Nat) : Int) ∧ i < ps.length := by
  obtain ⟨h1, h2⟩ := int_at h
  rw [nI_getD] at h1
  rw [nI_len] at h2
  exact ⟨h1, h2⟩
theorem rgV_nI (n : Nat) : rgV 0 (n : Int) = (nI (List.range n)).map V.int := by
  unfold rgV nI
  rw [List.map_map, show ((n : Int) - 0).toNat = n by omega]
  apply List.map_congr_left
  intro i _
  show V.int ((0 : Int) + (i : Int)) = V.int (i : Int)
  exact congrArg V.int (by omega)
theorem range_ofN {n : Nat} (f : Nat → Nat) {ys : List Nat} (h1 : ys.length = n) (h : ∀ i, i < n → f i = ys.getD i 0) : (List.range n).map (fun i => V.int ((f i : Nat) : Int)) = (nI ys).map V.int :=
  range_of (fun i => ((f i : Nat) : Int)) (by rw [nI_len]; exact h1) fun i hi => by rw [nI_getD, h i hi]
/-! ### a pair of tuples: places and signs -/
def TpX (K : PySem.W.Frag) (H : Hp) (e : Addr) (ps : List Nat) (ss : List Int) : Prop := ∃ a b, Tp K H e [.ref a, .ref b] ∧ Tp K H a ((nI ps).map V.int) ∧ Tp K H b (ss.map V.int)
theorem TpX.ex {K : PySem.W.Frag} {H H1 : Hp} {e : Addr} {ps : List Nat} {ss : List Int} (t : TpX K H e ps ss) (x : Ex H H1) : TpX K H1 e ps ss := by
  obtain ⟨a, b, h1, h2, h3⟩ := t
  exact ⟨a, b, h1.ex x, h2.ex x, h3.ex x⟩
theorem TpX.mut {K : PySem.W.Frag} {R : Hp} {wr : Addr} {ys zs : List V} {e : Addr} {ps : List Nat} {ss : List Int} (t : TpX K R e ps ss) (hw : R wr = some (.lst ys)) : TpX K (upd R wr (.lst zs)) e ps ss := by
  obtain ⟨a, b, h1, h2, h3⟩ := t
  exact ⟨a, b, h1.mut hw, h2.mut hw, h3.mut hw⟩
theorem Sm.pair {K : PySem.W.Frag} {H : Hp} {p q : Addr} {ps : List Nat} {ss : List Int} (hp : TpX K H p ps ss) (hq : TpX K H q ps ss) (h1 : ps.length ≤ 1000) (h2 : ss.length ≤ 1000) (n : Nat) : Sm K H (n + 2) (.ref p) (.ref q) := by
  obtain ⟨a, b, e1, e2, e3⟩ := hp
  obtain ⟨c, d, f1, f2, f3⟩ := hq
  refine .inr ⟨p, q, _, _, rfl, rfl, e1, f1, rfl, by show 2 ≤ 1000; omega, fun i u v hu hv => ?_⟩
  rcases i with _ | _ | i
  · cases hu
    cases hv
    exact Sm.tup e2 f2 (scal_ints _) (by rw [List.length_map, nI_len]; exact h1) n
  · cases hu
    cases hv
    exact Sm.tup e3 f3 (scal_ints _) (by rw [List.length_map]; exact h2) n
  · cases hu
end Own
namespace Own
open PySem PySem.Spec PyProof.Rows L2 Evl
theorem nI_set (ps : List Nat) (j v : Nat) : ((nI ps).map V.int).set j (.int (v : Int)) = (nI (ps.set j v)).map V.int := by
  unfold nI
  rw [List.map_set, List.map_set]
theorem int_set (ps : List Int) (j : Nat) (v : Int) : (ps.map V.int).set j (.int v) = (ps.set j v).map V.int := by
  rw [List.map_set]
theorem nI_rep (n v : Nat) : List.replicate n (V.int (v : Int)) = (nI (List.replicate n v)).map V.int := by
  unfold nI
  rw [List.map_replicate, List.map_replicate]
/-- [x] * n -/
theorem rep_lst {x : V} {n : Nat} {H : Hp} {Q : VK} {l : Addr} (hl : H l = some (.lst [x])) (hn : n ≤ 10000) (k : ∀ p, H p = none → Q (.ref p) (upd H p (.lst (List.replicate n x)))) : rRep (.ref l) (.int (n : Int)) H Q := by
  refine ⟨l, n, [x], rfl, rfl, hl, by omega, by omega, ?_, ?_⟩
  · show 1 * (n : Int).toNat ≤ sizeLine
    rw [sizeLine_eq]
    omega
  · rw [rep_flat, show ((n : Int)).toNat = n by omega]
    exact k
end Own

/-! math.comb; enumerate(tuple); a pair of names, some of them cells; o[i] += e. -/
namespace PySem
namespace OwU
open PySem PySem.W PySem.Calls PyProof.Rows
set_option maxHeartbeats 4000000 in
theorem meets_enum0 {v : Value} {o : Obj} {H : Heap → Prop} (B : Begins v o H) :
    Meets (Builtin.«enumerate.__new__» ⟨[.type "enumerate", v], []⟩) (fun _ R s => H s.heap ∧
      R (.ok (.ret (.ref (s.heap.push o).objs.size))) { s with heap := (s.heap.push o).push { cls := .type "enumerate", data := .fields #[.none, .bool false, .ref s.heap.objs.size, rawInt 0, .none, .none] } }) :=
  .of_wp fun prog w A R s h => by
    obtain ⟨hp, g, d, tk, os⟩ := s; obtain ⟨h1, h⟩ := h
    have hsub := sub_enumerate
    have q1 : ∀ {A' : Around} {E : Value → Shared → Prop} {Q : Value → Shared → Prop}, Q (.ref hp.objs.size) ⟨hp.push o, g, d, tk, os⟩ → wpAny (model prog w) A' (pyIter v) Q E ⟨hp, g, d, tk, os⟩ :=
      fun q => B.iter prog w _ _ ⟨hp, g, d, tk, os⟩ _ h1 q
    wp_walk using q1
    refine wpAny_stack_any fun st => wpAny_pure ?_
    split
    · rename_i c _ _ _ _ _
      cases (c == Value.type "enumerate")
      · wp_walk using q1
        exact ⟨_, rfl, h⟩
      · wp_walk using q1
        exact ⟨_, rfl, h⟩
    · wp_walk using q1
      exact ⟨_, rfl, h⟩
section
variable {prog : Program} {w : World} {A : Around} {E : Value → Shared → Prop} {s : Shared}
theorem enum_begins0 {v : Value} {o : Obj} {H : Heap → Prop} {Q : Value → Shared → Prop} (B : Begins v o H) (h1 : H s.heap)
    (h : ∀ h', IsEnum h' (s.heap.objs.size + 1) s.heap.objs.size 0 .none → h'.get? s.heap.objs.size = some o → h'.objs.size = s.heap.objs.size + 2 →
      (∀ b o, s.heap.get? b = some o → h'.get? b = some o) → Q (.ref (s.heap.objs.size + 1)) { s with heap := h' }) :
    wpAny (model prog w) A (call (.type "enumerate") [v]) Q E s := by
  refine callType_new F.called_enumerate (by decide) (F.typeCall_enumerate_1 _) (F.newCall_enumerate_1 _) (fun obj => F.args_object_init_2 obj _) F.entry_enumerate_new
    (meets_enum0 B) ⟨h1, ?_⟩
  have hz : (s.heap.push o).objs.size = s.heap.objs.size + 1 := Heap.size_push ..
  show _ ∧ _
  rw [hz]
  have he : IsEnum ((s.heap.push o).push { cls := .type "enumerate", data := .fields #[.none, .bool false, .ref s.heap.objs.size, rawInt 0, .none, .none] }) (s.heap.objs.size + 1) s.heap.objs.size 0 .none := by
    have := Heap.get?_push_size (s.heap.push o) (o := { cls := .type "enumerate", data := .fields #[.none, .bool false, .ref s.heap.objs.size, rawInt 0, .none, .none] }) rfl
    rw [hz] at this; exact this
  refine ⟨⟨_, he, rfl⟩, h _ he (Heap.get?_push_of_some _ (Heap.get?_push_size _ B.free)) (by rw [Heap.size_push, hz]) fun b o x => Heap.get?_push_of_some _ (Heap.get?_push_of_some _ x)⟩
theorem enum_endT {e it l : Addr} {i : Nat} {items : Array Value} {old : Value} {Q : Option Value → Shared → Prop} (hh : A.handled = none)
    (he : IsEnum s.heap e it i old) (hit : s.heap.IsTupleIter it l i) (hl : s.heap.IsTuple l items) (hx : items[i]? = none)
    (hQ : ∀ h', Heap.ExtBut it s.heap h' → Q none { s with heap := h' }) : wpAny (model prog w) A (pyNext (.ref e)) Q E s := by
  have hT : s.TypeIs (.ref e) "enumerate" := ⟨_, he, rfl⟩
  unfold pyNext
  refine wpAny_bind (wpAny_attempt (wpAny_callSpecial?_slot (name := Str.ofString "__next__") hT F.slot_enumerate_next
    (wpAny_call_entry F.slot_enumerate_next hT F.entry_enumerate_next ?_ (F.args_enumerate_next_1 _))))
  show wpAny _ _ (field (.ref e) 2 >>= _) _ _ _
  refine wpAny_bind (wpAny_field he rfl (x := .ref it) rfl ?_)
  refine wpAny_bind (wpAny_nextOf_tuple_end hh hit hl hx fun h' x he' hx' => ?_)
  obtain ⟨o, ho, hc⟩ := hx'
  refine wpAny_bind (wpAny_isInstance (T := "StopIteration") (b := true) ⟨o, ho, hc⟩ isSubtype_stop ?_)
  exact wpAny_pure (hQ _ he')
end
end OwU
end PySem
namespace Own
open PySem PySem.Spec PySem.W PyProof.Rows L2 Evl
section
variable {X : Cx}
def rComb : List V → Hp → VK → Prop := fun vs H Q => ∃ a b : Int, vs = [.int a, .int b] ∧ 0 ≤ a ∧ 0 ≤ b ∧ a ≤ 9000 ∧ Q (.int (PySem.W.mcComb a b)) H
theorem cr_comb : CallR X (.builtin "math.comb") rComb := by
  intro pins s σ H vs us Q I r h
  obtain ⟨a, b, rfl, h0, h1, h2, q⟩ := h
  obtain ⟨t, u, rfl⟩ := Vals.int2 r
  exact PySem.W.mc_comb h0 h1 (by omega) (.inr (by omega)) fun _ => ⟨.int _, H, I.tok _, ⟨_, rfl⟩, q⟩
end
/-- xs[i], as o[i] += e reads it -/
theorem get_list {X : Cx} : PGet X (rIxL X.K) := by
  intro pins s σ H o i ov iv Q I ro ri h
  obtain ⟨p, xs, i, z, rfl, rfl, hq, he, q⟩ := h
  cases ro
  obtain ⟨t, rfl⟩ := ri
  obtain ⟨its, r, pl, hz⟩ := I.list hq
  obtain ⟨j, h1, h2, h3, h4, h5⟩ := atI_get he
  obtain ⟨w, ew, rw'⟩ := r.get h2
  have hl := r.length
  have hn := line63
  have fin : EP X pins σ Q w s := ⟨z, H, I, rw', q⟩
  by_cases h0 : 0 ≤ i
  · have hj : i.toNat = j := by
      rw [seqIndex_of h0 h5] at h1
      exact Option.some.inj h1
    exact wpAny_getItem_list pl.isList h0 (by omega) (by rw [hj]; simpa using ew) fin
  · have hj : (i + (its.toArray.size : Int)).toNat = j := by
      rw [seqIndex_neg (by omega) h4] at h1
      rw [List.size_toArray, ← hl]
      exact Option.some.inj h1
    exact wpAny_getItem_list_neg pl.isList (by omega) (by rw [List.size_toArray] <;> omega) (by omega) (by rw [hj]; simpa using ew) fin
theorem kget_list {X : Cx} {K : PySem.W.Frag} (h : X.K = K := by rfl) : PGet X (rIxL K) := by subst h; exact get_list
/-- sum(t) of a tuple of ints -/
theorem sum_rawT {prog : Program} {w : World} {A : Around} {E : Value → Shared → Prop} {s : Shared} {l : Addr} {its : List Value} {ns : List Int} {Q : Value → Shared → Prop} (hh : A.handled = none) (hl : s.heap.IsTuple l its.toArray) (hi : IntsAre its ns)
    (h : ∀ h' tk t', (∀ b o, s.heap.get? b = some o → h'.get? b = some o) → Q (.int ns.sum t') { s with heap := h', toks := tk }) : wpAny (model prog w) A (call (.builtin "sum") [.ref l]) Q E s := by
  obtain ⟨xs, e⟩ := hi.allInts.items
  have hn : numsOf (intItems xs).toList = ns := by rw [← e]; exact hi.numsOf
  rw [nums_intItems] at hn
  rw [e] at hl
  refine PySem.W.ktm_sumG hh hl fun h' tk t' hk => ?_
  have := h h' tk t' hk
  rw [preSum_eq, List.take_of_length_le (by simp), hn]; exact this
def rSumT (K : PySem.W.Frag) : List V → Hp → VK → Prop := fun vs H Q => ∃ (a : Addr) (ns : List Int), vs = [V.ref a] ∧ SqT K H a (ns.map V.int) ∧ Q (.int ns.sum) H
theorem kc_sumT {X : Cx} {K : PySem.W.Frag} (hc : X.calm = true) (h : X.K = K := by rfl) : CallR X (.builtin "sum") (rSumT K) := by
  subst h
  intro pins s σ H vs us Q I r h
  obtain ⟨a, ns, rfl, hs, q⟩ := h
  obtain ⟨its, rv, hl, _⟩ := I.tuple hs
  rw [Vals.ref1 r]
  exact sum_rawT (I.ok.hd hc) (show s.heap.IsTuple a its.toArray from hl) rv.ints fun h' tk t' hk => ⟨.int _, H, I.kept hk, ⟨_, rfl⟩, q⟩
/-! ### enumerate(tuple) -/
def IteT (K : PySem.W.Frag) (a : Addr) : It :=
  ⟨fun i H => ∃ (xs : List V) (x : V), SqT K H a xs ∧ xs[i]? = some x, fun i H v H' => ∃ T x, v = .ref T ∧ H T = none ∧ H' = upd H T (.tup [.int (i : Nat), x]) ∧ ∀ xs, SqT K H a xs → xs[i]? = some x, fun i H => ∃ xs : List V, SqT K H a xs ∧ xs.length ≤ i⟩
theorem turn_enumT {P : Program} {w : World} {K : PySem.W.Frag} {elts : List Expr} {kk : Nat} {tpos : Pos} (a e it : Addr) :
    Turn P w K (.Tuple elts kk tpos) (IteT K a) [e, it] e (fun i h => (∃ old, IsEnum h e it ((i : Nat) : Int) old) ∧ h.IsTupleIter it a i ∧ e ≠ it) where
  mem := by simp
  obj := fun i h st b hb => by
    obtain ⟨⟨old, he⟩, ⟨o, ho, hc, hd⟩, _⟩ := st
    have e' : b = e ∨ b = it := by simpa using hb
    rcases e' with z | z
    · rw [z]; exact ⟨_, he, fun v q => nomatch q⟩
    · rw [z]; exact ⟨o, ho, fun v q => by rw [hd] at q; cases q⟩
  keep := fun i h h' st k => let ⟨⟨old, he⟩, hi, hne⟩ := st; ⟨⟨old, k e (by simp) _ he⟩, hi.at fun o q => k it (by simp) o q, hne⟩
  item := by
    intro X hP hw hK hc i pins s σ H E I hf st hg
    subst hP hw hK
    obtain ⟨⟨old, he⟩, hit, hne⟩ := st
    obtain ⟨xs, x, hq, hx⟩ := hg
    obtain ⟨its, rv, p, hz⟩ := I.tuple hq
    have pt : s.heap.IsTuple a its.toArray := p
    obtain ⟨u, hu, ru⟩ := rv.get hx
    have hel : e < s.heap.objs.size := Heap.lt_size he
    have hil : it < s.heap.objs.size := by obtain ⟨_, q, _⟩ := hit; exact Heap.lt_size q
    have hea : e ≠ a := fun z => by
      obtain ⟨o, ho, hcl, _⟩ := pt
      rw [← z] at ho
      have he' : s.heap.get? e = some _ := he
      rw [ho] at he'
      cases he'
      exact absurd (show Value.type "enumerate" = Value.type "tuple" from hcl) (by decide)
    have hai : a ≠ it := fun z => by
      obtain ⟨o, ho, hcl, _⟩ := pt
      obtain ⟨o2, ho2, hcl2, _⟩ := hit
      rw [z, ho2] at ho
      cases ho
      rw [hcl2] at hcl
      exact absurd hcl (by decide)
    have D := Draws.tuple (prog := X.prog) (w := X.w) (A := X.A.in1) (show X.A.in1.handled = none from I.ok.hd hc) it a hai its.toArray
    have hlt : i < its.toArray.size := by
      have := (List.getElem?_eq_some_iff.mp hu).1
      simpa using this
    refine wpAny_pyNext_enum_itemD D he ⟨hit, pt⟩ hlt hne (by simp [hne, hea]) fun x' h' tk hP ho hst hT hsz hk => ?_
    have ex : x' = u := by
      have h1 : its.toArray[i]? = some x' := hP
      rw [show its.toArray[i]? = its[i]? by simp, hu] at h1
      exact (Option.some.inj h1).symm
    subst ex
    refine ⟨_, rfl, wpAny_letOwnedTupleGo_enum (s := { s with heap := h', toks := tk + 1 }) ho fun h'' he' sb => ?_⟩
    have hT2 : h''.get? s.heap.objs.size = some { cls := .type "tuple", data := .seq #[.int i tk, x'] } := (sb.2 _ (Nat.ne_of_gt hel)).trans hT
    have new : ObjOk X.prog X.w (upd H s.heap.objs.size (.tup [.int (i : Nat), x])) h'' s.heap.objs.size (.tup [.int (i : Nat), x]) :=
      ⟨by show 2 ≤ sizeLine; decide, [.int i tk, x'], .cons ⟨_, rfl⟩ (.cons ru .nil), ⟨_, hT2, rfl, _, rfl⟩⟩
    have I1 : Inv X pins σ (upd H s.heap.objs.size (.tup [.int (i : Nat), x])) { s with heap := h'', toks := tk + 1 } :=
      I.turnedNew (ch := [e, it]) (fun b ob hb q => (sb.2 b (fun z => hb (by simp [z]))).trans (hk b ob (fun z => hb (by simp [z])) (fun z => hb (by simp [z])) q)) hf (Nat.le_refl _) new
    refine ⟨.ref s.heap.objs.size, _, I1, rfl, ⟨_, x, rfl, I.hok.fresh (Nat.le_refl _), rfl, fun ys hy => by rw [I.tuple_inj hy hq]; exact hx⟩, ⟨⟨x', ?_⟩, hst.1.at fun o q => (sb.2 it (Ne.symm hne)).trans q, hne⟩, fun b hb => ?_⟩
    · have e1 : ((i + 1 : Nat) : Int) = (i : Int) + 1 := by omega
      rw [e1]; exact he'
    · have hb' : b < s.heap.objs.size := by
        have e' : b = e ∨ b = it := by simpa using hb
        rcases e' with z | z
        · rw [z]; exact hel
        · rw [z]; exact hil
      rw [upd_ne (Nat.ne_of_lt hb')]
      exact (hf b hb).1
  done := by
    intro X hP hw hK hc i pins s σ H E I hf st hg
    subst hP hw hK
    obtain ⟨⟨old, he⟩, hit, hne⟩ := st
    obtain ⟨xs, hq, hx⟩ := hg
    obtain ⟨its, rv, p, hz⟩ := I.tuple hq
    have pt : s.heap.IsTuple a its.toArray := p
    obtain ⟨f0, f1, f2, f3, f4, f5⟩ := hf it (by simp)
    have hl := rv.length
    exact PySem.OwU.enum_endT (I.ok.hd hc) he hit pt (by simp; omega) fun h' eb => ⟨rfl, I.turned (t' := s.toks) (fun b o hb q => eb b o hb q) f0 f1 f3 f4 f5⟩
  self := fun A i s Q E st h => let ⟨⟨_, he⟩, _⟩ := st; wpAny_pyIter_enum he h
/-- a, b = x, y, not both plain locals -/
theorem walk_enumT {K : PySem.W.Frag} {a : Addr} {xs : List V} : Walk (IteT K a) xs.length (fun H => SqT K H a xs) (fun i H v H' => ∃ T x, v = .ref T ∧ H T = none ∧ H' = upd H T (.tup [.int (i : Nat), x]) ∧ xs[i]? = some x) := by
  refine ⟨fun i _ hi q => ⟨xs, xs[i], q, by simp [hi]⟩, fun _ q => ⟨xs, q, Nat.le_refl _⟩, fun i H v H' _ q y => ?_⟩
  obtain ⟨T, x, h1, h2, h3, h4⟩ := y
  exact ⟨T, x, h1, h2, h3, h4 xs q⟩
theorem walk_enumL {K : PySem.W.Frag} {a : Addr} {xs : List V} : Walk (Ite K a) xs.length (fun H => SqL K H a xs) (fun i H v H' => ∃ T x, v = .ref T ∧ H T = none ∧ H' = upd H T (.tup [.int (i : Nat), x]) ∧ xs[i]? = some x) := by
  refine ⟨fun i _ hi q => ⟨xs, xs[i], q, by simp [hi]⟩, fun _ q => ⟨xs, q, Nat.le_refl _⟩, fun i H v H' _ q y => ?_⟩
  obtain ⟨T, x, h1, h2, h3, h4⟩ := y
  exact ⟨T, x, h1, h2, h3, h4 xs q⟩
def iEnumT (K : PySem.W.Frag) (ta : TA) : TI := fun σ H R => ta σ H fun vs H1 => ∃ a xs, vs = [.ref a] ∧ SqT K H1 a xs ∧ R (IteT K a) H1
theorem pi_enumT {X : Cx} {e : Expr} {ta : TA} {p pos tpos : Pos} {elts : List Expr} {kk : Nat} (hg : Gl X "enumerate") (hm : X.mg "enumerate" = none) (ha : PA X [e] ta) (hs : starEach [e] X.env = [(false, eval e X.env)] := by rfl) :
    PI X (.Tuple elts kk tpos) (.Call (.Name "enumerate" p) [e] [] pos) (iEnumT X.K ta) := by
  refine ⟨fun pins s σ H R I h => ?_⟩
  refine Call_ (ld_blt I hg hm boot_enumerate (PyProof.Rows.callWith_type1 (thn (ha.run pos pins s σ H _ I h) fun us s1 ⟨vs, H1, I1, r1, q1⟩ => ?_) hs rfl))
  obtain ⟨a, xs, ex, hq, q⟩ := q1
  subst ex
  cases r1 with
  | cons r rr =>
    cases rr
    cases r
    obtain ⟨its, rv, p', hz⟩ := I1.tuple hq
    have pt : s1.heap.IsTuple a its.toArray := p'
    refine PySem.OwU.enum_begins0 (begins_tuple a its.toArray) pt fun h' he hit hsz hk => wpAny_pyIter_enum he ?_
    have I2 : Inv X pins σ H1 { s1 with heap := h' } := I1.kept (t' := s1.toks) hk
    refine ⟨s1.heap.objs.size + 1, [s1.heap.objs.size + 1, s1.heap.objs.size], _, _, H1, rfl, I2, turn_enumT a (s1.heap.objs.size + 1) s1.heap.objs.size, ⟨⟨.none, he⟩, ⟨_, hit, rfl, rfl⟩, Nat.succ_ne_self _⟩, fun b hb => ?_, q⟩
    have e' : b = s1.heap.objs.size + 1 ∨ b = s1.heap.objs.size := by simpa using hb
    have hle : s1.heap.objs.size ≤ b := by
      rcases e' with z | z
      · rw [z]; exact Nat.le_add_right _ _
      · rw [z]; exact Nat.le_refl _
    exact I1.fpOk hle (I1.hok.fresh hle)
end Own

/-! Comprehensions whose items are new objects. -/
namespace Own
open PySem PySem.Spec PyProof.Rows L2 Evl
section
variable {H : Hp} {J : It} {n : Nat} {G : Hp → Prop} {Y : Nat → Hp → V → Hp → Prop} {g : TG} {tt : TT} {te : TE} {vs : List Nat} {σ : L2.St}
theorem lcX {Q : Addr → Hp → Prop} (S : Nat → List V → Hp → Prop) (w : Walk J n G Y) (h0 : ∀ D, H D = none → S 0 [] (upd H D (.lst []))) (hG : ∀ H', Ex H H' → G H') (lenb : ∀ i acc H', S i acc H' → acc.length ≤ 40000)
    (turn : ∀ i D acc H1 x H2, i < n → Ex H H1 → H D = none → H1 D = some (.lst acc) → S i acc H1 → Y i H1 x H2 → ∀ (K1 : VK) (K0 : Hp → Prop),
      (∀ y H5, Ex H1 H5 → S (i + 1) (acc ++ [y]) (upd H5 D (.lst (acc ++ [y]))) → K1 y H5) → (∀ H5, Ex H1 H5 → S (i + 1) acc H5 → K0 H5) →
      g x (wipe σ vs) H2 fun σ2 H3 => wipe σ2 vs = wipe σ vs ∧ tt σ2 H3 fun b H4 => if b = true then te σ2 H4 K1 else K0 H4)
    (q : ∀ D acc H2, H D = none → Ex H H2 → H2 D = some (.lst acc) → S n acc H2 → Q D H2) :
    ∀ D, H D = none → ∃ W : Nat → Nat → Hp → Prop, (∃ m, W 0 m (upd H D (.lst []))) ∧ ∀ i m H, W i m H →
      (J.stop i H ∧ Q D H) ∨ (J.go i H ∧ ∃ Nx : Hp → Prop, (∀ H', Nx H' → ∃ m', m' < m ∧ W (i + 1) m' H') ∧ ∀ x H', J.yld i H x H' → g x (wipe σ vs) H' fun σ2 H2 => wipe σ2 vs = wipe σ vs ∧ tt σ2 H2 fun b H3 =>
        if b = true then te σ2 H3 fun y H4 => ∃ acc, H4 D = some (.lst acc) ∧ acc.length < sizeLine ∧ Nx (upd H4 D (.lst (acc ++ [y]))) else Nx H3) := fun D hD => by
  refine lc_it w (fun i H' => Ex H H' ∧ ∃ acc, H' D = some (.lst acc) ∧ S i acc H') ⟨Ex.new hD, [], upd_same, h0 D hD⟩ (fun i H' _ p => hG H' p.1) (fun i x H1 H2 hi p y => ?_) (fun H' p => ?_)
  · obtain ⟨p1, acc, p2, p3⟩ := p
    refine turn i D acc H1 x H2 hi p1 hD p2 p3 y _ _ (fun z H5 e5 s5 => ?_) (fun H5 e5 s5 => ?_)
    · exact ⟨acc, e5 _ _ p2, sz_lt (by have := lenb _ _ _ p3; omega), ex_side (p1.trans e5) hD, acc ++ [z], upd_same, s5⟩
    · exact ⟨p1.trans e5, acc, e5 _ _ p2, s5⟩
  · obtain ⟨p1, acc, p2, p3⟩ := p
    exact q D acc H' hD p1 p2 p3
end
/-- x is True, x is False, x a plain value -/
theorem op_isBg {X : Cx} : OpR X (compareOp .Is) (fun x y H Q => ∃ b : Bool, y = .bl b ∧ scalV x = true ∧ Q (.bl (decide (x = .bl b))) H) := by
  intro pins s σ H x y v u Q I rx ry h
  obtain ⟨b, rfl, hs, q⟩ := h
  cases (show u = Value.bool b from ry)
  cases x <;> first | cases hs | skip
  · cases (show v = Value.none from rx)
    exact wpAny_is_other rfl (fun z => by cases z) ⟨.bl false, H, I, rfl, by simpa using q⟩
  · rename_i a
    cases (show v = Value.bool a from rx)
    by_cases e : a = b
    · subst e
      exact wpAny_is_self rfl ⟨.bl true, H, I, rfl, by simpa using q⟩
    · exact wpAny_is_other rfl (fun z => e (Value.bool.inj z)) ⟨.bl false, H, I, rfl, by simpa [e] using q⟩
  · obtain ⟨t, rfl⟩ := rx
    exact wpAny_is_other rfl (fun z => by cases z) ⟨.bl false, H, I, rfl, by simpa using q⟩
  · obtain ⟨t, rfl⟩ := rx
    exact wpAny_is_other rfl (fun z => by cases z) ⟨.bl false, H, I, rfl, by simpa using q⟩
/-! ### a tuple of pairs of ints -/
def pairL (f : Int × Int) : List V := [.int f.1, .int f.2]
structure LstP (K : PySem.W.Frag) (H : Hp) (es : List Addr) (fs : List (Int × Int)) : Prop where
  len : es.length = fs.length
  at_ : ∀ (i : Nat) e f, es[i]? = some e → fs[i]? = some f → Tp K H e (pairL f)
def TpP (K : PySem.W.Frag) (H : Hp) (p : Addr) (fs : List (Int × Int)) : Prop := ∃ es, Tp K H p (es.map V.ref) ∧ LstP K H es fs
section
variable {K : PySem.W.Frag} {H H1 : Hp} {es : List Addr} {fs : List (Int × Int)}
theorem LstP.ex (l : LstP K H es fs) (e : Ex H H1) : LstP K H1 es fs := ⟨l.len, fun i a f h1 h2 => (l.at_ i a f h1 h2).ex e⟩
theorem LstP.mut {wr : Addr} {ys zs : List V} (l : LstP K H es fs) (hw : H wr = some (.lst ys)) : LstP K (upd H wr (.lst zs)) es fs := ⟨l.len, fun i a f h1 h2 => (l.at_ i a f h1 h2).mut hw⟩
theorem LstP.push {e : Addr} {f : Int × Int} (l : LstP K H es fs) (t : Tp K H e (pairL f)) : LstP K H (es ++ [e]) (fs ++ [f]) := by
  refine ⟨by rw [List.length_append, List.length_append, l.len]; rfl, fun i a y h1 h2 => ?_⟩
  by_cases c : i < es.length
  · rw [List.getElem?_append_left c] at h1
    rw [List.getElem?_append_left (by rw [← l.len]; exact c)] at h2
    exact l.at_ i a y h1 h2
  · rw [List.getElem?_append_right (by omega)] at h1
    rw [List.getElem?_append_right (by rw [← l.len]; omega), ← l.len] at h2
    have : i - es.length = 0 := by
      have := (List.getElem?_eq_some_iff.mp h1).1
      simp at this
      omega
    rw [this] at h1 h2
    cases h1
    cases h2
    exact t
theorem TpP.ex {p : Addr} (t : TpP K H p fs) (e : Ex H H1) : TpP K H1 p fs := by
  obtain ⟨es, h1, h2⟩ := t
  exact ⟨es, h1.ex e, h2.ex e⟩
/-- two tuples of the same pairs -/
theorem Sm.pairs {p q : Addr} (hp : TpP K H p fs) (hq : TpP K H q fs) (hl : fs.length ≤ 1000) (n : Nat) : Sm K H (n + 2) (.ref p) (.ref q) := by
  obtain ⟨es, h1, h2⟩ := hp
  obtain ⟨es', g1, g2⟩ := hq
  refine .inr ⟨p, q, _, _, rfl, rfl, h1, g1, by rw [List.length_map, List.length_map, h2.len, g2.len], by rw [List.length_map, h2.len]; exact hl, fun i u v hu hv => ?_⟩
  rw [List.getElem?_map] at hu hv
  cases e : es[i]? with
  | none =>
    rw [e] at hu
    cases hu
  | some a =>
    cases e' : es'[i]? with
    | none =>
      rw [e'] at hv
      cases hv
    | some b =>
      rw [e] at hu
      rw [e'] at hv
      cases hu
      cases hv
      have hi := (List.getElem?_eq_some_iff.mp e).1
      have hf : fs[i]? = some (fs[i]'(by rw [← h2.len]; exact hi)) := List.getElem?_eq_getElem _
      refine Sm.tup (h2.at_ i a _ e hf) (g2.at_ i b _ e' hf) (fun x hx => ?_) (by show 2 ≤ 1000; omega) n
      rcases List.mem_cons.mp hx with rfl | hx
      · rfl
      · rw [List.mem_singleton.mp hx]
        rfl
end
end Own

/-! The Hook with names that stand for built-ins of other modules (math.comb ..). -/
namespace Own
open PySem PySem.Spec PyProof.Rows L2
open He (ga ma fAd eqO eqO_ok ba)
abbrev BiL : Type := List (Str × String)
def biB (K : PySem.W.Frag) (bs : BiL) : Bool := bs.all fun b => eqO (PySem.W.nsIn K mainGlobals b.1) (some (some (.builtin b.2)))
abbrev AlW : Type := AlE × Bool
def obsW (file : Str) (bs : BiL) (fa : List He.Fa) (fn : List He.DefD) (ex : List ExD) (K : PySem.W.Frag) : AlW := (obsE file fa fn ex K, biB K bs)
def valW (fn : List He.DefD) (ex : List ExD) : AlW := (valE fn ex, true)
def SaysW (file : Str) (bs : BiL) (fa : List He.Fa) (fn : List He.DefD) (ex : List ExD) (K : PySem.W.Frag) : Prop := obsW file bs fa fn ex K = valW fn ex
def obsWG (file : Str) (n : Nat) (bs : BiL) (fa : List He.Fa) (fn : List He.DefD) (ex : List ExD) (g : Addr → Option Obj) : AlW := obsW file bs fa fn ex (He.frG g (cStatics :: He.asD g n))
def hookW (file : Str) (n : Nat) (bs : BiL) (fa : List He.Fa) (fn : List He.DefD) (ex : List ExD) : PySem.W.Hook where
  α := AlW
  obs := fun s => obsWG file n bs fa fn ex s.heap.get?
  val := fun _ => valW fn ex
  says := fun _ h => ∃ K : PySem.W.Frag, K.In h ∧ SaysW file bs fa fn ex K
  of := fun _ _ e => ⟨_, He.frG_in, e⟩
  keeps := fun _ _ _ ⟨K, hK, c⟩ k => ⟨K, PySem.W.Frag.In.keeps hK k, c⟩
theorem obsWG_eq {file : Str} {n : Nat} {bs : BiL} {fa : List He.Fa} {fn : List He.DefD} {ex : List ExD} {g : Addr → Option Obj} {s : Shared} (h : ∀ a, g a = s.heap.get? a) : obsWG file n bs fa fn ex g = (hookW file n bs fa fn ex).obs s := by
  have e : g = s.heap.get? := funext h
  rw [e] <;> rfl
section
variable {file : Str} {bs : BiL} {fa : List He.Fa} {fn : List He.DefD} {ex : List ExD} {K : PySem.W.Frag} {h : Heap} {mg : Str → Option Value}
theorem SaysW.e (c : SaysW file bs fa fn ex K) : SaysE file fa fn ex K := congrArg (fun z : AlW => z.1) c
theorem SaysW.saysD (c : SaysW file bs fa fn ex K) : He.SaysD fa fn K := c.e.saysD
theorem SaysW.bi (c : SaysW file bs fa fn ex K) (X : K.In h) (G : h.Ns mainGlobals mg) (i : Nat) {x : Str} {b : String} (e : bs[i]? = some (x, b) := by rfl) : mg x = some (.builtin b) := by
  have c2 : biB K bs = true := congrArg (fun z : AlW => z.2) c
  have := List.all_eq_true.mp c2 (x, b) (List.mem_of_getElem? e)
  exact PySem.W.mg_of X G (eqO_ok this)
end
end Own

namespace K11
open PySem PySem.Spec PyProof.Rows L2 Evl Own
/-! ### the text -/
def topS (i : Nat) : Stmt := PySem.Challenge.pw_ownmirrors_k11_whole_steps_and_what_is_t.main.body.getD i (.Pass ⟨0, 0, 0, 0⟩)
abbrev s_fraction_of : Stmt := topS 2
theorem sc_fraction_of : FnScope ["top", "bottom", "common"] ["top", "bottom"] (defScope s_fraction_of) := ⟨rfl, rfl, rfl, by decide +kernel, rfl, by decide +kernel, by decide +kernel⟩
abbrev s_power_of : Stmt := topS 3
theorem sc_power_of : FnScope ["base", "times", "found", "square", "rest"] ["base", "times"] (defScope s_power_of) := ⟨rfl, rfl, rfl, by decide +kernel, rfl, by decide +kernel, by decide +kernel⟩
abbrev s_step_sum : Stmt := topS 5
theorem sc_step_sum : FnScope ["letters", "length", "j", "x", "total", "i", "part"] ["letters", "length", "j", "x"] (defScope s_step_sum) := ⟨rfl, rfl, rfl, by decide +kernel, rfl, by decide +kernel, by decide +kernel⟩
abbrev s_longer : Stmt := topS 6
theorem sc_longer : FnScope ["found", "times", "ahead", "number", "at"] ["found", "times"] (defScope s_longer) := ⟨rfl, rfl, rfl, by decide +kernel, rfl, by decide +kernel, by decide +kernel⟩
abbrev s_step_row : Stmt := topS 7
theorem sc_step_row : FnScope ["letters", "length", "x", "found", "place"] ["letters", "length", "x"] (defScope s_step_row) := ⟨rfl, rfl, rfl, by decide +kernel, rfl, by decide +kernel, by decide +kernel⟩
abbrev s_told_tops : Stmt := topS 8
theorem sc_told_tops : FnScope ["letters", "length", "numbers", "found", "x", "number", "j", "step"] ["letters", "length", "numbers"] (defScope s_told_tops) := ⟨rfl, rfl, rfl, by decide +kernel, rfl, by decide +kernel, by decide +kernel⟩
abbrev s_told_counts : Stmt := topS 9
theorem sc_told_counts : FnScope ["letters", "length", "counts", "size", "top"] ["letters", "length", "counts"] (defScope s_told_counts) := ⟨rfl, rfl, rfl, by decide +kernel, rfl, by decide +kernel, by decide +kernel⟩
abbrev s_moment : Stmt := topS 10
theorem sc_moment : FnScope ["letters", "counts", "r", "length", "weight", "count"] ["letters", "counts", "r"] (defScope s_moment) := ⟨rfl, rfl, rfl, by decide +kernel, rfl, by decide +kernel, by decide +kernel⟩
abbrev s__law_deal : Stmt := topS 12
theorem sc__law_deal : FnScope ["script", "salt", "cells", "cell", "mix"] ["script", "salt"] (defScope s__law_deal) := ⟨rfl, rfl, rfl, by decide +kernel, rfl, by decide +kernel, by decide +kernel⟩
abbrev s__law_any : Stmt := topS 13
theorem sc__law_any : FnScope ["deal", "bound", "rest"] ["deal", "bound"] (defScope s__law_any) := ⟨rfl, rfl, rfl, by decide +kernel, rfl, by decide +kernel, by decide +kernel⟩
abbrev s__law_of : Stmt := topS 14
theorem sc__law_of : FnScope ["deal", "some"] ["deal", "some"] (defScope s__law_of) := ⟨rfl, rfl, rfl, by decide +kernel, rfl, by decide +kernel, by decide +kernel⟩
abbrev s__law_same : Stmt := topS 15
theorem sc__law_same : FnScope ["told", "due", "at"] ["told", "due"] (defScope s__law_same) := ⟨rfl, rfl, rfl, by decide +kernel, rfl, by decide +kernel, by decide +kernel⟩
abbrev s__law_power : Stmt := topS 16
theorem sc__law_power : FnScope ["base", "times", "found", "turn"] ["base", "times"] (defScope s__law_power) := ⟨rfl, rfl, rfl, by decide +kernel, rfl, by decide +kernel, by decide +kernel⟩
abbrev s__law_gcd : Stmt := topS 17
theorem sc__law_gcd : FnScope ["one", "other", "turn"] ["one", "other"] (defScope s__law_gcd) := ⟨rfl, rfl, rfl, by decide +kernel, rfl, by decide +kernel, by decide +kernel⟩
abbrev s__law_fraction : Stmt := topS 18
theorem sc__law_fraction : FnScope ["top", "bottom", "common"] ["top", "bottom"] (defScope s__law_fraction) := ⟨rfl, rfl, rfl, by decide +kernel, rfl, by decide +kernel, by decide +kernel⟩
abbrev s__law_times : Stmt := topS 19
theorem sc__law_times : FnScope ["one", "other", "found", "at", "place"] ["one", "other"] (defScope s__law_times) := ⟨rfl, rfl, rfl, by decide +kernel, rfl, by decide +kernel, by decide +kernel⟩
abbrev s__law_longer : Stmt := topS 20
theorem sc__law_longer : FnScope ["found", "times", "late", "one", "at"] ["found", "times"] (defScope s__law_longer) := ⟨rfl, rfl, rfl, by decide +kernel, rfl, by decide +kernel, by decide +kernel⟩
abbrev s__law_tops : Stmt := topS 21
theorem sc__law_tops : FnScope ["letters", "numbers", "found", "grown", "x", "at"] ["letters", "numbers"] (defScope s__law_tops) := ⟨rfl, rfl, rfl, by decide +kernel, rfl, by decide +kernel, by decide +kernel⟩
abbrev s__law_pascal : Stmt := topS 22
theorem sc__law_pascal : FnScope ["top", "rows", "at", "place"] ["top"] (defScope s__law_pascal) := ⟨rfl, rfl, rfl, by decide +kernel, rfl, by decide +kernel, by decide +kernel⟩
abbrev s__law_row_right : Stmt := topS 23
theorem sc__law_row_right : FnScope ["deal", "letters", "length", "x", "due", "at", "j"] ["deal", "letters", "length"] (defScope s__law_row_right) := ⟨rfl, rfl, rfl, by decide +kernel, rfl, by decide +kernel, by decide +kernel⟩
abbrev s__law_integers : Stmt := topS 24
theorem sc__law_integers : FnScope ["deal", "letters", "length", "most", "found", "at"] ["deal", "letters", "length"] (defScope s__law_integers) := ⟨rfl, rfl, rfl, by decide +kernel, rfl, by decide +kernel, by decide +kernel⟩
abbrev s__law_lone : Stmt := topS 25
theorem sc__law_lone : FnScope ["deal", "letters", "length", "many", "found", "at"] ["deal", "letters", "length"] (defScope s__law_lone) := ⟨rfl, rfl, rfl, by decide +kernel, rfl, by decide +kernel, by decide +kernel⟩
abbrev s__law_told_right : Stmt := topS 26
theorem sc__law_told_right : FnScope ["letters", "length", "found", "size", "tops", "due", "top", "one", "back", "number", "bottom"] ["letters", "length", "found"] (defScope s__law_told_right) := ⟨rfl, rfl, rfl, by decide +kernel, rfl, by decide +kernel, by decide +kernel⟩
abbrev s__law_moment_right : Stmt := topS 27
theorem sc__law_moment_right : FnScope ["deal", "letters", "length", "found", "table", "r", "due", "at"] ["deal", "letters", "length", "found"] (defScope s__law_moment_right) := ⟨rfl, rfl, rfl, by decide +kernel, rfl, by decide +kernel, by decide +kernel⟩
abbrev s_law : Stmt := topS 28
theorem sc_law : FnScope ["script", "deal", "letters", "top", "length", "found"] ["script"] (defScope s_law) := ⟨rfl, rfl, rfl, by decide +kernel, rfl, by decide +kernel, by decide +kernel⟩
/-- what the module leaves to the built-ins -/
structure Zs (mg : Str → Option Value) : Prop where
  abs : mg "abs" = none
  bool : mg "bool" = none
  enumerate : mg "enumerate" = none
  int : mg "int" = none
  isinstance : mg "isinstance" = none
  len : mg "len" = none
  list : mg "list" = none
  min : mg "min" = none
  range : mg "range" = none
  str : mg "str" = none
  sum : mg "sum" = none
  tuple : mg "tuple" = none
/-- what it takes of math -/
structure Ms (mg : Str → Option Value) : Prop where
  comb : mg "comb" = some (.builtin "math.comb")
  gcd : mg "gcd" = some (.builtin "math.gcd")
end K11


namespace K11
open PySem PySem.Spec PyProof.Rows L2 Evl Own
def gcdI (a b : Int) : Int := ((Nat.gcd a.natAbs b.natAbs : Nat) : Int)
def spFrac (K : PySem.W.Frag) : Sp := fun vs H Q _ => ∃ t b : Int, vs = [.int t, .int b] ∧ 0 < b ∧ b.natAbs.log2 < 9000 ∧ RetU K ([t / gcdI t b, b / gcdI t b].map V.int) H Q
def spPower : Sp := fun vs H Q _ => ∃ (b : Int) (n : Nat), vs = [.int b, .int (n : Int)] ∧ 0 ≤ b ∧ b ≤ 10 ∧ n ≤ 100 ∧ Q (.int (b ^ n)) H
section
variable {P : Program} {w : World} {K : PySem.W.Frag} {mg : Str → Option Value} {base : Heap} {f : Addr} {fd : FuncData}
theorem gcd_pos {t b : Int} (h : 0 < b) : 0 < gcdI t b ∧ gcdI t b ≤ b := by
  have h1 : 0 < Nat.gcd t.natAbs b.natAbs := Nat.gcd_pos_of_pos_right _ (by omega)
  have h2 : Nat.gcd t.natAbs b.natAbs ≤ b.natAbs := Nat.gcd_le_right _ (by omega)
  unfold gcdI
  omega
theorem log2_mono {a b : Nat} (h : a ≤ b) (hb : b.log2 < 9000) : a.log2 < 9000 := by
  by_cases e : a = 0
  · subst e
    decide
  · refine Nat.lt_of_le_of_lt ?_ hb
    have h1 := Nat.log2_self_le e
    exact (Nat.le_log2 (by omega)).mpr (Nat.le_trans h1 h)
theorem ok_fraction_of (F : FnP K "fraction_of" s_fraction_of f fd) (Z : Zs mg) (M : Ms mg) : FnOk P w K mg base CX0 1 f fd ["top", "bottom"] (spFrac K) := by
  refine F.ok sc_fraction_of (fun vs H Q E h => ?_) (fun cdv A outer s H vs Q E hr h => ⟨_, PSs.nox (pss_cons (ps_set (i := 2) sc_fraction_of.nd rfl (by first | exact Or.inl rfl | exact Or.inr rfl) (pe_callBfun cr_gcd (by rfl) M.gcd (pa_cons (pv 0) (pa_cons (pv 1) pa_nil))))
  (pss_cons (ps_if (pt_cmpR op_lt (pv 1) pe_int (nomark _)) (pss_one (ps_set (i := 2) sc_fraction_of.nd rfl (by first | exact Or.inl rfl | exact Or.inr rfl) (pe_un un_neg (pv 2)))) pss_nil)
  (pss_one (ps_ret (pe_tupF (pa_cons (pe_op op_fdivW (pv 0) (pv 2)) (pa_cons (pe_op op_fdivW (pv 1) (pv 2)) pa_nil))))))), ?_⟩)
  · obtain ⟨t, b, rfl, _⟩ := h
    rfl
  · obtain ⟨t, b, rfl, b0, bl, k⟩ := h
    obtain ⟨g0, g1⟩ := gcd_pos (t := t) b0
    have gl : (gcdI t b).natAbs.log2 < 9000 := log2_mono (show (gcdI t b).natAbs ≤ b.natAbs by omega) bl
    refine ⟨_, rfl, _, rfl, t, b, rfl, ?_⟩
    refine ⟨_, rfl, _, _, rfl, rfl, _, rfl, ?_⟩
    rw [decide_eq_false (show ¬ b < 0 by omega)]
    refine iteF ⟨_, rfl, _, rfl, _, _, rfl, rfl, ⟨g0, gl⟩, _, rfl, _, rfl, _, _, rfl, rfl, ⟨g0, gl⟩, by show 2 ≤ sizeLine; decide, k.new (Ex.refl _)⟩
theorem pow_log {b : Int} {n : Nat} (h0 : 0 ≤ b) (h1 : b ≤ 10) (hn : n ≤ 101) : (b ^ n).natAbs.log2 < 400 := by
  have e : (b ^ n).natAbs = b.natAbs ^ n := Int.natAbs_pow b n
  rw [e]
  have h2 : b.natAbs ^ n ≤ 10 ^ n := Nat.pow_le_pow_left (by omega) n
  have h3 : 10 ^ n ≤ 10 ^ 101 := Nat.pow_le_pow_right (by decide) hn
  have h4 : (10 : Nat) ^ 101 < 2 ^ 400 := by decide +kernel
  by_cases z : b.natAbs ^ n = 0
  · rw [z]
    decide
  · exact (Nat.log2_lt z).mpr (Nat.lt_of_le_of_lt (Nat.le_trans h2 h3) h4)
theorem ok_power_of (F : FnP K "power_of" s_power_of f fd) (Z : Zs mg) : FnOk P w K mg base CX0 1 f fd ["base", "times"] spPower := by
  refine F.ok sc_power_of (fun vs H Q E h => ?_) (fun cdv A outer s H vs Q E hr h => ⟨_, PSs.nox (pss_cons (ps_par3 (i := 2) (j := 3) (l := 4) rfl sc_power_of.nd rfl rfl rfl (by decide) (by decide) (by decide) rfl rfl rfl (pa_cons pe_int (pa_cons (pv 0) (pa_cons (pv 1) pa_nil))) (by rfl))
  (pss_cons (ps_while PassesOwn.never (pt_cmpR op_gt (pv 4) pe_int (nomark _)) (pss_cons (ps_if (pt_cmpR op_eq (pe_op op_mod (pv 4) pe_int) pe_int (nomark _)) (pss_one (ps_set (i := 2) sc_power_of.nd rfl (by first | exact Or.inl rfl | exact Or.inr rfl) (pe_op op_mulW (pv 2) (pv 3)))) pss_nil)
  (pss_cons (ps_set (i := 4) sc_power_of.nd rfl (by first | exact Or.inl rfl | exact Or.inr rfl) (pe_op op_fdivW (pv 4) pe_int))
  (pss_one (ps_if (pt_cmpR op_gt (pv 4) pe_int (nomark _)) (pss_one (ps_set (i := 3) sc_power_of.nd rfl (by first | exact Or.inl rfl | exact Or.inr rfl) (pe_op op_mulW (pv 3) (pv 3)))) pss_nil)))))
  (pss_one (ps_ret (pv 2))))), ?_⟩)
  · obtain ⟨b, n, rfl, _⟩ := h
    rfl
  · obtain ⟨b, n, rfl, b0, b1, hn, k⟩ := h
    refine ⟨_, rfl, _, rfl, _, _, _, rfl, ?_⟩
    refine while_split (fun m σ H' => H' = H ∧ ∃ u v, u + v * m = n ∧ v ≤ 101 ∧ u ≤ 100 ∧ σ = [some (.int b), some (.int (n : Int)), some (.int (b ^ u)), some (.int (b ^ v)), some (.int (m : Int))]) (fun σ H' => H' = H ∧ ∃ v1 v2, σ = [some (.int b), some (.int (n : Int)), some (.int (b ^ n)), v1, v2]) ?_ ?_ ?_
    · refine ⟨n, rfl, 0, 1, by omega, by omega, by omega, ?_⟩
      rw [Int.pow_zero, Int.pow_one]
      rfl
    · rintro σ H' ⟨rfl, v1, v2, rfl⟩
      exact ⟨_, rfl, k⟩
    · rintro nx hnx m σ H' ⟨rfl, u, v, e, v1, u1, rfl⟩
      refine ⟨_, rfl, _, _, rfl, rfl, _, rfl, ?_⟩
      by_cases m0 : m = 0
      · subst m0
        rw [decide_eq_false (by omega)]
        have : u = n := by omega
        subst this
        exact iteF (hnx _ _ ⟨rfl, _, _, rfl⟩)
      · rw [decide_eq_true (show (0 : Int) < (m : Int) by omega)]
        have hdiv : m = 2 * (m / 2) + m % 2 := by omega
        have hv : v ≤ n := by
          have : v * 1 ≤ v * m := Nat.mul_le_mul_left v (by omega)
          omega
        refine iteT ⟨_, fun σ' H' h => h, ?_⟩
        refine if_join (fun σ' H2 => H2 = H' ∧ σ' = [some (.int b), some (.int (n : Int)), some (.int (b ^ (u + v * (m % 2)))), some (.int (b ^ v)), some (.int (m : Int))]) ?_ ?_
        · rintro σ' H2 ⟨rfl, rfl⟩
          have hd : ((m : Int) / 2) = ((m / 2 : Nat) : Int) := by omega
          have eq2 : u + v * (m % 2) + 2 * v * (m / 2) = n := by
            have : v * m = v * (m % 2) + 2 * v * (m / 2) := by
              conv => lhs; rw [hdiv]
              rw [Nat.mul_add, Nat.mul_comm 2 v, Nat.mul_assoc]
              omega
            omega
          refine ⟨_, rfl, _, _, rfl, rfl, ⟨by decide, by decide⟩, ?_⟩
          show gName 4 (V.int ((m : Int) / 2)) _ _ _
          rw [hd]
          dsimp only [gName]
          refine if_join (fun σ' H3 => H3 = H2 ∧ ∃ v', (u + v * (m % 2)) + v' * (m / 2) = n ∧ v' ≤ 101 ∧ σ' = [some (.int b), some (.int (n : Int)), some (.int (b ^ (u + v * (m % 2)))), some (.int (b ^ v')), some (.int ((m / 2 : Nat) : Int))]) ?_ ?_
          · rintro σ' H3 ⟨rfl, v', e', v1', rfl⟩
            exact ⟨m / 2, by omega, rfl, _, v', e', v1', by omega, rfl⟩
          · intro nx2 hn2
            refine ⟨_, rfl, _, _, rfl, rfl, _, rfl, ?_⟩
            by_cases h2 : 0 < m / 2
            · rw [decide_eq_true (show (0 : Int) < ((m / 2 : Nat) : Int) by omega)]
              have hv2 : 2 * v ≤ n := by
                have : 2 * v * 1 ≤ 2 * v * (m / 2) := Nat.mul_le_mul_left _ h2
                omega
              have l1 := pow_log b0 b1 (show v ≤ 101 by omega)
              refine iteT ⟨_, rfl, _, rfl, _, _, rfl, rfl, by show _ + _ < 1000000; omega, hn2 _ _ ⟨rfl, 2 * v, eq2, by omega, ?_⟩⟩
              have e : b ^ (2 * v) = b ^ v * b ^ v := by rw [Nat.two_mul, Int.pow_add]
              rw [e]
              rfl
            · rw [decide_eq_false (show ¬ (0 : Int) < ((m / 2 : Nat) : Int) by omega)]
              refine iteF (hn2 _ _ ⟨rfl, v, ?_, v1, rfl⟩)
              have : m / 2 = 0 := by omega
              rw [this] at eq2 ⊢
              omega
        · intro nx2 hn2
          have hm : ((m : Int) % 2) = ((m % 2 : Nat) : Int) := by omega
          refine ⟨_, rfl, _, _, rfl, rfl, (show (0 : Int) < 2 by decide), rfl, _, rfl, ?_⟩
          rw [dec_int, hm]
          have l1 := pow_log b0 b1 (show v ≤ 101 by omega)
          have l2 := pow_log b0 b1 (show u ≤ 101 by omega)
          by_cases o : m % 2 = 1
          · rw [o] at hn2 ⊢
            refine iteT ⟨_, rfl, _, rfl, _, _, rfl, rfl, by show _ + _ < 1000000; omega, hn2 _ _ ⟨rfl, ?_⟩⟩
            rw [Nat.mul_one, Int.pow_add]
            rfl
          · have o0 : m % 2 = 0 := by omega
            rw [o0] at hn2 ⊢
            refine iteF (hn2 _ _ ⟨rfl, ?_⟩)
            rw [Nat.mul_zero, Nat.add_zero]
end
end K11

namespace K11
open PySem PySem.Spec PyProof.Rows L2 Evl Own
open PySem.W (mcComb)
def stepPart (q : Int) (n j x i : Nat) : Int := mcComb (x : Int) (i : Int) * mcComb ((n : Int) - (x : Int)) ((j : Int) - (i : Int)) * (q - 1) ^ (j - i)
def stepSum (q : Int) (n j x : Nat) : Nat → Int
  | 0 => 0
  | i + 1 => stepSum q n j x i + (if i % 2 = 0 then stepPart q n j x i else -(stepPart q n j x i))
def spStepSum : Sp := fun vs H Q _ => ∃ (q : Int) (n j x : Nat), vs = [.int q, .int n, .int j, .int x] ∧ 2 ≤ q ∧ q ≤ 3 ∧ n ≤ 24 ∧ j ≤ n ∧ x ≤ n ∧ Q (.int (stepSum q n j x (min j x + 1))) H
def longerL (xs : List Int) (t : Int) : List Int := (List.range (xs.length + 1)).map fun k => (0 :: xs.map fun v => t * v).getD k 0 + (xs ++ [0]).getD k 0
/-- a new list, what was known stays -/
def RetL (xs : List V) (H : Hp) (Q : VK) : Prop := ∀ p H2, H p = none → Ex H H2 → H2 p = some (.lst xs) → Q (.ref p) H2
def spLonger (K : PySem.W.Frag) : Sp := fun vs H Q _ => ∃ (p : Addr) (xs : List Int) (t : Int), vs = [.ref p, .int t] ∧ H p = some (.lst (xs.map V.int)) ∧ -1000 ≤ t ∧ t ≤ 1000 ∧ xs.length ≤ 1000 ∧ RetL ((longerL xs t).map V.int) H Q
def stepRow (q : Int) (x : Nat) : Nat → List Int
  | 0 => [1]
  | p + 1 => longerL (stepRow q x p) (if p < x then -1 else q - 1)
def spStepRow (K : PySem.W.Frag) : Sp := fun vs H Q _ => ∃ (q : Int) (n x : Nat), vs = [.int q, .int n, .int x] ∧ 2 ≤ q ∧ q ≤ 3 ∧ n ≤ 100 ∧ RetU K ((stepRow q x n).map V.int) H Q
theorem longer_len (xs : List Int) (t : Int) : (longerL xs t).length = xs.length + 1 := by
  unfold longerL
  rw [List.length_map, List.length_range]
theorem step_len (q : Int) (x : Nat) : ∀ n, (stepRow q x n).length = n + 1
  | 0 => rfl
  | n + 1 => by
    show (longerL _ _).length = _
    rw [longer_len, step_len q x n]
/-- small ones are small -/
theorem comb_small : ∀ a, a ≤ 24 → ∀ b, b ≤ 24 → (mcComb ((a : Nat) : Int) ((b : Nat) : Int)).natAbs < 2 ^ 64 := by
  have : (List.range 25).all (fun a => (List.range 25).all fun b => decide ((mcComb ((a : Nat) : Int) ((b : Nat) : Int)).natAbs < 2 ^ 64)) = true := by decide +kernel
  intro a ha b hb
  have h1 := List.all_eq_true.mp this a (List.mem_range.mpr (by omega))
  exact of_decide_eq_true (List.all_eq_true.mp h1 b (List.mem_range.mpr (by omega)))
section
variable {P : Program} {w : World} {K : PySem.W.Frag} {mg : Str → Option Value} {base : Heap} {f : Addr} {fd : FuncData}
theorem ok_step_sum (F : FnP K "step_sum" s_step_sum f fd) (Z : Zs mg) (M : Ms mg) (G_power_of : Fn P w K mg base CX0 1 "power_of" s_power_of ["base", "times"] spPower) : FnOk P w K mg base CX0 2 f fd ["letters", "length", "j", "x"] spStepSum := by
  refine F.ok sc_step_sum (fun vs H Q E h => ?_) (fun cdv A outer s H vs Q E hr h => ⟨_, PSs.nox (pss_cons (ps_set (i := 4) sc_step_sum.nd rfl (by first | exact Or.inl rfl | exact Or.inr rfl) pe_int)
  (pss_cons (ps_for PassesOwn.never rfl (pi_range1 (by rfl) Z.range (pa_cons (pe_op op_add (pe_callB (call_min2 rfl) (by rfl) Z.min (by decide +kernel) (pa_cons (pv 2) (pa_cons (pv 3) pa_nil))) pe_int) pa_nil)) (pg_name (i := 5) sc_step_sum.nd rfl (by first | exact Or.inl rfl | exact Or.inr rfl)) (pss_cons (ps_set (i := 6) sc_step_sum.nd rfl (by first | exact Or.inl rfl | exact Or.inr rfl) (pe_op op_mul (pe_op op_mul (pe_callBfun cr_comb (by rfl) M.comb (pa_cons (pv 3) (pa_cons (pv 5) pa_nil))) (pe_callBfun cr_comb (by rfl) M.comb (pa_cons (pe_op op_sub (pv 1) (pv 3)) (pa_cons (pe_op op_sub (pv 2) (pv 5)) pa_nil)))) (pe_callF G_power_of (hr.mono (by decide)) rfl pass0 (pa_cons (pe_op op_sub (pv 0) pe_int) (pa_cons (pe_op op_sub (pv 2) (pv 5)) pa_nil)))))
  (pss_one (ps_aug (i := 4) sc_step_sum.nd rfl (by first | exact Or.inl rfl | exact Or.inr rfl) (pe_ifExp (pt_cmpR op_eq (pe_op op_mod (pv 5) pe_int) pe_int (nomark _)) (pv 6) (pe_un un_neg (pv 6))) ip_add))))
  (pss_one (ps_ret (pv 4))))), ?_⟩)
  · obtain ⟨q, n, j, x, rfl, _⟩ := h
    rfl
  · obtain ⟨q, n, j, x, rfl, q0, q1, hn, hj, hx, k⟩ := h
    have mn : (if (x : Int) < (j : Int) then (x : Int) else (j : Int)) = ((min j x : Nat) : Int) := by
      by_cases c : x < j
      · rw [if_pos (by omega), Nat.min_eq_right (by omega)]
      · rw [if_neg (by omega), Nat.min_eq_left (by omega)]
    refine ⟨_, rfl, _, rfl, _, _, rfl, ?_⟩
    rw [mn]
    refine ⟨_, _, rfl, rfl, _, rfl, by omega, by omega, ?_⟩
    rw [show (((min j x : Nat) : Int) + 1).toNat = min j x + 1 by omega]
    refine for_range (lo := 0) (n := min j x + 1) (fun i σ H' => H' = H ∧ ∃ v1 v2, σ = [some (.int q), some (.int (n : Int)), some (.int (j : Int)), some (.int (x : Int)), some (.int (stepSum q n j x i)), v1, v2]) ⟨rfl, none, none, rfl⟩ (fun i σ H' hi z => ?_) (fun σ H' z => ?_)
    · obtain ⟨rfl, v1, v2, rfl⟩ := z
      have e0 : (0 : Int) + (i : Int) = (i : Int) := by omega
      show gName _ (V.int ((0 : Int) + (i : Int))) _ _ _
      rw [e0]
      have c1 := comb_small x (by omega) i (by omega)
      have hji : ((j - i : Nat) : Int) = (j : Int) - (i : Int) := by omega
      have c3 : ((q - 1) ^ (j - i)).natAbs < 2 ^ 64 := by
        rw [Int.natAbs_pow]
        have : (q - 1).natAbs ^ (j - i) ≤ 2 ^ (j - i) := Nat.pow_le_pow_left (by omega) _
        have : 2 ^ (j - i) ≤ 2 ^ 24 := Nat.pow_le_pow_right (by decide) (by omega)
        have : (2 : Nat) ^ 24 < 2 ^ 64 := by decide
        omega
      refine ⟨_, rfl, _, rfl, (x : Int), (i : Int), rfl, by omega, by omega, by omega, ?_⟩
      refine ⟨_, rfl, _, rfl, _, _, rfl, rfl, _, rfl, _, rfl, _, _, rfl, rfl, (n : Int) - (x : Int), (j : Int) - (i : Int), rfl, by omega, by omega, by omega, ?_⟩
      refine ⟨_, _, rfl, rfl, .inl ⟨by omega, by omega⟩, ?_⟩
      refine ⟨_, rfl, _, _, rfl, rfl, _, rfl, _, rfl, _, _, rfl, rfl, q - 1, j - i, by rw [hji]; rfl, by omega, by omega, by omega, ?_⟩
      refine ⟨_, _, rfl, rfl, .inr ⟨by omega, by omega⟩, ?_⟩
      refine ⟨_, rfl, _, rfl, _, _, rfl, rfl, (show (0 : Int) < 2 by decide), rfl, _, rfl, ?_⟩
      rw [dec_int, show ((i : Int) % 2) = ((i % 2 : Nat) : Int) by omega]
      by_cases o : i % 2 = 0
      · have e : stepSum q n j x (i + 1) = stepSum q n j x i + stepPart q n j x i := by
          show stepSum q n j x i + (if i % 2 = 0 then _ else _) = _
          rw [if_pos o]
        rw [o, e]
        exact iteT ⟨_, rfl, _, _, rfl, rfl, rfl, some (.int (i : Int)), some (.int (stepPart q n j x i)), rfl⟩
      · have e : stepSum q n j x (i + 1) = stepSum q n j x i + -(stepPart q n j x i) := by
          show stepSum q n j x i + (if i % 2 = 0 then _ else _) = _
          rw [if_neg o]
        rw [beq_eq_false_iff_ne.mpr (by omega), e]
        exact iteF ⟨_, rfl, _, rfl, _, _, rfl, rfl, rfl, some (.int (i : Int)), some (.int (stepPart q n j x i)), rfl⟩
    · obtain ⟨rfl, v1, v2, rfl⟩ := z
      exact ⟨_, rfl, k⟩
theorem ok_longer (F : FnP K "longer" s_longer f fd) (Z : Zs mg) : FnOk P w K mg base CX0 1 f fd ["found", "times"] (spLonger K) := by
  refine F.ok sc_longer (fun vs H Q E h => ?_) (fun cdv A outer s H vs Q E hr h => ⟨_, PSs.nox (pss_cons (ps_set (i := 2) sc_longer.nd rfl (by first | exact Or.inl rfl | exact Or.inr rfl) (pe_op op_cat (pe_lst (pa_cons pe_int pa_nil)) (pe_lc (own := [("number", 3)]) (g := (gName 3)) rfl sc_longer.nd (pi_list (pv 0)) (blkOk_by (own := [("number", 3)]) (N := ["found", "times", "ahead", "number", "at"]) (sc := defScope s_longer) (by decide +kernel)) (fun _ _ _ _ _ => (pg_name (i := 3) sc_longer.nd rfl (Or.inl rfl))) (fun _ _ _ _ _ => pts_nil) (fun _ _ _ _ _ => (pe_op op_mul (pv 1) (pv 3))))))
  (pss_one (ps_ret (pe_lc (own := [("at", 4), ("number", 3)]) (g := (gTup K 2 (gCons (gName 4) (gCons (gName 3) gNil)))) rfl sc_longer.nd (pi_enum (by rfl) Z.enumerate (pa_cons (pe_op op_cat (pv 0) (pe_lst (pa_cons pe_int pa_nil))) pa_nil)) (blkOk_by (own := [("at", 4), ("number", 3)]) (N := ["found", "times", "ahead", "number", "at"]) (sc := defScope s_longer) (by decide +kernel)) (fun _ _ _ _ _ => (pg_tup rfl (pgs_cons (pg_name (i := 4) sc_longer.nd rfl (Or.inl rfl)) (pgs_cons (pg_name (i := 3) sc_longer.nd rfl (Or.inl rfl)) pgs_nil)))) (fun _ _ _ _ _ => pts_nil) (fun _ _ _ _ _ => (pe_op op_add (pe_ix (kx_list (K := K)) (pv 2) (pv 4) (fun _ _ => rfl)) (pv 3))))))), ?_⟩)
  · obtain ⟨p, xs, t, rfl, _⟩ := h
    rfl
  · obtain ⟨p, xs, t, rfl, hp, t0, t1, few, k⟩ := h
    refine ⟨by decide, fun z hz => ?_⟩
    have ez := Ex.new (o := .lst [V.int 0]) hz
    refine ⟨_, rfl, p, rfl, ⟨_, sq_of (ez _ _ hp)⟩, lcP (walk_list (xs := xs.map V.int)) (fun H' e => sq_of (e _ _ (ez _ _ hp))) (by rw [List.length_map]; omega) (fun _ => true) (fun i => V.int (t * xs.getD i 0)) (fun i H1 x H2 hi e y K1 K0 k1 k0 => ?_) (fun d H2 hd e2 h2 => ?_)⟩
    · obtain ⟨rfl, g⟩ := y
      obtain ⟨rfl, _⟩ := int_at g
      exact ⟨rfl, yes_go ⟨_, rfl, _, rfl, _, _, rfl, rfl, .inl ⟨by omega, by omega⟩, k1 rfl _ (Ex.refl _)⟩⟩
    rw [given_all, List.length_map, range_map 0 (fun x => V.int (t * x)), show (xs.map fun x => V.int (t * x)) = (xs.map fun x => t * x).map V.int by rw [List.map_map]; rfl] at h2
    refine ⟨z, d, [V.int 0], (xs.map fun x => t * x).map V.int, rfl, rfl, e2 _ _ upd_same, h2, Nat.le_of_lt (sz_lt (by simp only [List.length_map, List.length_singleton]; omega)), fun a ha => ?_⟩
    have ea := Ex.new (o := .lst ([V.int 0] ++ (xs.map fun x => t * x).map V.int)) ha
    have ha' : upd H2 a (.lst ([V.int 0] ++ (xs.map fun x => t * x).map V.int)) a = some (.lst ((0 :: xs.map fun x => t * x).map V.int)) := upd_same
    generalize upd H2 a (.lst ([V.int 0] ++ (xs.map fun x => t * x).map V.int)) = H3 at ea ha' ⊢
    have e3 := ez.trans (e2.trans ea)
    refine ⟨_, rfl, by decide, fun y hy => ?_⟩
    have ey := Ex.new (o := .lst [V.int 0]) hy
    refine ⟨p, y, _, [V.int 0], rfl, rfl, ey _ _ (e3 _ _ hp), upd_same, Nat.le_of_lt (sz_lt (by simp only [List.length_map, List.length_singleton]; omega)), fun b hb => ?_⟩
    have eb := Ex.new (o := .lst (xs.map V.int ++ [V.int 0])) hb
    have hb' : upd (upd H3 y (.lst [V.int 0])) b (.lst (xs.map V.int ++ [V.int 0])) b = some (.lst ((xs ++ [0]).map V.int)) := by
      rw [upd_same, List.map_append]
      rfl
    generalize upd (upd H3 y (.lst [V.int 0])) b (.lst (xs.map V.int ++ [V.int 0])) = H4 at eb hb' ⊢
    have e34 := ey.trans eb
    have ha4 := e34 _ _ ha'
    refine ⟨b, _, rfl, sq_of hb', lcP walk_enumL (fun H' e => sq_of (e _ _ hb')) (by rw [List.length_map, List.length_append]; simp only [List.length_singleton]; omega) (fun _ => true) (fun i => V.int ((0 :: xs.map fun v => t * v).getD i 0 + (xs ++ [0]).getD i 0)) (fun i H5 x H6 hi e y K1 K0 k1 k0 => ?_) (fun d H6 hd e6 h6 => ?_)⟩
    · obtain ⟨T, x1, rfl, nT, rfl, g⟩ := y
      obtain ⟨rfl, hi'⟩ := int_at g
      have h0 : i < (0 :: xs.map fun v => t * v).length := by
        rw [List.length_append] at hi'
        rw [List.length_cons, List.length_map]
        simpa using hi'
      exact ⟨T, _, rfl, .inl (.inl upd_same), rfl, _, _, rfl, _, _, rfl, rfl, rfl, yes_go ⟨_, rfl, _, rfl, a, _, _, _, rfl, rfl, sq_of ((e.trans (Ex.new nT)) _ _ ha4), atI_int h0, _, rfl, _, _, rfl, rfl, k1 rfl _ (Ex.new nT)⟩⟩
    · rw [given_all, List.length_map, List.length_append] at h6
      have : (List.range (xs.length + [(0 : Int)].length)).map (fun i => V.int ((0 :: xs.map fun v => t * v).getD i 0 + (xs ++ [0]).getD i 0)) = (longerL xs t).map V.int := by
        unfold longerL
        rw [List.map_map]
        rfl
      rw [this] at h6
      exact k d H6 (fresh_back (e3.trans e34) hd) (e3.trans (e34.trans e6)) h6
theorem ok_step_row (F : FnP K "step_row" s_step_row f fd) (Z : Zs mg) (G_longer : Fn P w K mg base CX0 1 "longer" s_longer ["found", "times"] (spLonger K)) : FnOk P w K mg base CX0 2 f fd ["letters", "length", "x"] (spStepRow K) := by
  refine F.ok sc_step_row (fun vs H Q E h => ?_) (fun cdv A outer s H vs Q E hr h => ⟨_, PSs.nox (pss_cons (ps_set (i := 3) sc_step_row.nd rfl (by first | exact Or.inl rfl | exact Or.inr rfl) (pe_lst (pa_cons pe_int pa_nil)))
  (pss_cons (ps_for PassesOwn.never rfl (pi_range1 (by rfl) Z.range (pa_cons (pv 1) pa_nil)) (pg_name (i := 4) sc_step_row.nd rfl (by first | exact Or.inl rfl | exact Or.inr rfl)) (pss_one (ps_set (i := 3) sc_step_row.nd rfl (by first | exact Or.inl rfl | exact Or.inr rfl) (pe_callF G_longer (hr.mono (by decide)) rfl pass0 (pa_cons (pv 3) (pa_cons (pe_ifExp (pt_cmpR op_lt (pv 4) (pv 2) (nomark _)) (pe_un un_neg pe_int) (pe_op op_sub (pv 0) pe_int)) pa_nil))))))
  (pss_one (ps_ret (pe_callTy (kc_tuple (K := K)) (by rfl) Z.tuple (by decide +kernel) (pa_cons (pv 3) pa_nil)))))), ?_⟩)
  · obtain ⟨q, n, x, rfl, _⟩ := h
    rfl
  · obtain ⟨q, n, x, rfl, q0, q1, hn, k⟩ := h
    refine ⟨by decide, fun z hz => ?_⟩
    refine ⟨_, rfl, _, rfl, by omega, by omega, ?_⟩
    rw [show ((n : Nat) : Int).toNat = n by omega]
    refine for_range (lo := 0) (n := n) (fun i σ H' => Ex H H' ∧ ∃ p v, H' p = some (.lst ((stepRow q x i).map V.int)) ∧ σ = [some (.int q), some (.int (n : Int)), some (.int (x : Int)), some (.ref p), v]) ⟨Ex.new hz, z, none, upd_same, rfl⟩ (fun i σ H' hi y => ?_) (fun σ H' y => ?_)
    · obtain ⟨ex, p, v, hp, rfl⟩ := y
      have e0 : (0 : Int) + (i : Int) = (i : Int) := by omega
      show gName _ (V.int ((0 : Int) + (i : Int))) _ _ _
      rw [e0]
      refine ⟨_, rfl, _, rfl, _, rfl, _, _, rfl, rfl, _, rfl, ?_⟩
      by_cases c : i < x
      · rw [decide_eq_true (show (i : Int) < (x : Int) by omega)]
        have e : stepRow q x (i + 1) = longerL (stepRow q x i) (-1) := by
          show longerL _ (if i < x then _ else _) = _
          rw [if_pos c]
        refine iteT ⟨_, rfl, p, stepRow q x i, -1, rfl, hp, by decide, by decide, by rw [step_len]; omega, fun r H2 hr e2 h2 => ⟨ex.trans e2, r, _, ?_, rfl⟩⟩
        rw [e]
        exact h2
      · rw [decide_eq_false (show ¬ (i : Int) < (x : Int) by omega)]
        have e : stepRow q x (i + 1) = longerL (stepRow q x i) (q - 1) := by
          show longerL _ (if i < x then _ else _) = _
          rw [if_neg c]
        refine iteF ⟨_, rfl, _, _, rfl, rfl, p, stepRow q x i, q - 1, rfl, hp, by omega, by omega, by rw [step_len]; omega, fun r H2 hr e2 h2 => ⟨ex.trans e2, r, _, ?_, rfl⟩⟩
        rw [e]
        exact h2
    · obtain ⟨ex, p, v, hp, rfl⟩ := y
      exact ⟨_, rfl, p, _, rfl, .inl ⟨sq_of hp, k.new ex⟩⟩
end
end K11

namespace K11
open PySem PySem.Spec PyProof.Rows L2 Evl Own
open PySem.W (mcComb)
theorem getD_rangeMap {α : Type} {d : α} (f : Nat → α) {n i : Nat} (h : i < n) : ((List.range n).map f).getD i d = f i := by
  simp only [List.getD_eq_getElem?_getD, List.getElem?_map, List.getElem?_range h]
  rfl
theorem ext_getD {α : Type} {d : α} {xs ys : List α} (h : xs.length = ys.length) (e : ∀ i, i < xs.length → xs.getD i d = ys.getD i d) : xs = ys := by
  apply List.ext_getElem h
  intro i h1 h2
  have := e i h1
  rw [List.getD_eq_getElem?_getD, List.getD_eq_getElem?_getD, List.getElem?_eq_getElem h1, List.getElem?_eq_getElem h2] at this
  exact this
/-- acc + c * row, its first j places -/
def addTo (acc row : List Int) (c : Int) (j : Nat) : List Int := (List.range acc.length).map fun k => acc.getD k 0 + (if k < j then c * row.getD k 0 else 0)
theorem addTo_len (acc row : List Int) (c : Int) (j : Nat) : (addTo acc row c j).length = acc.length := by
  unfold addTo
  rw [List.length_map, List.length_range]
theorem addTo_at {acc row : List Int} {c : Int} {j k : Nat} (h : k < acc.length) : (addTo acc row c j).getD k 0 = acc.getD k 0 + (if k < j then c * row.getD k 0 else 0) := getD_rangeMap _ h
theorem addTo_zero (acc row : List Int) (c : Int) : addTo acc row c 0 = acc := by
  apply ext_getD (d := 0) (addTo_len ..)
  intro i hi
  rw [addTo_len] at hi
  rw [addTo_at hi, if_neg (by omega), Int.add_zero]
theorem addTo_nil (acc row : List Int) (j : Nat) : addTo acc row 0 j = acc := by
  apply ext_getD (d := 0) (addTo_len ..)
  intro i hi
  rw [addTo_len] at hi
  rw [addTo_at hi]
  by_cases c : i < j
  · rw [if_pos c, Int.zero_mul, Int.add_zero]
  · rw [if_neg c, Int.add_zero]
theorem addTo_succ {acc row : List Int} {c : Int} {j : Nat} (h : j < acc.length) : (addTo acc row c j).set j ((addTo acc row c j).getD j 0 + c * row.getD j 0) = addTo acc row c (j + 1) := by
  apply ext_getD (d := 0)
  · rw [List.length_set, addTo_len, addTo_len]
  · intro i hi
    rw [List.length_set, addTo_len] at hi
    rw [addTo_at hi]
    by_cases e : j = i
    · subst e
      rw [List.getD_eq_getElem?_getD, List.getElem?_set_self (by rw [addTo_len]; exact h)]
      show (addTo acc row c j).getD j 0 + c * row.getD j 0 = _
      rw [addTo_at h, if_neg (by omega), if_pos (by omega), Int.add_zero]
    · rw [List.getD_eq_getElem?_getD, List.getElem?_set_ne e, ← List.getD_eq_getElem?_getD, addTo_at hi]
      by_cases c' : i < j
      · rw [if_pos c', if_pos (by omega)]
      · rw [if_neg c', if_neg (by omega)]
def topsR (q : Int) (n : Nat) (ns : List Int) : Nat → List Int
  | 0 => List.replicate (n + 1) 0
  | x + 1 => addTo (topsR q n ns x) (stepRow q x n) (ns.getD x 0) (n + 1)
theorem tops_len (q : Int) (n : Nat) (ns : List Int) : ∀ x, (topsR q n ns x).length = n + 1
  | 0 => List.length_replicate ..
  | x + 1 => by
    show (addTo _ _ _ _).length = _
    rw [addTo_len, tops_len q n ns x]
theorem longer_small {xs : List Int} {t : Int} {B : Nat} (h : ∀ v ∈ xs, v.natAbs ≤ B) (ht : t.natAbs ≤ 2) : ∀ v ∈ longerL xs t, v.natAbs ≤ 3 * B := by
  intro v hv
  unfold longerL at hv
  obtain ⟨k, hk, rfl⟩ := List.mem_map.mp hv
  have a : ((0 :: xs.map fun v => t * v).getD k 0).natAbs ≤ 2 * B := by
    cases k with
    | zero =>
      show (0 : Int).natAbs ≤ _
      simp
    | succ k =>
      show ((xs.map fun v => t * v).getD k 0).natAbs ≤ _
      rw [List.getD_eq_getElem?_getD, List.getElem?_map]
      cases e : xs[k]? with
      | none => simp
      | some u =>
        show (t * u).natAbs ≤ _
        rw [Int.natAbs_mul]
        exact Nat.mul_le_mul ht (h u (List.mem_of_getElem? e))
  have b : ((xs ++ [0]).getD k 0).natAbs ≤ B := by
    rw [List.getD_eq_getElem?_getD]
    cases e : (xs ++ [0])[k]? with
    | none => simp
    | some u =>
      show u.natAbs ≤ B
      rcases List.mem_append.mp (List.mem_of_getElem? e) with m | m
      · exact h u m
      · rw [List.mem_singleton.mp m]
        simp
  have := Int.natAbs_add_le ((0 :: xs.map fun v => t * v).getD k 0) ((xs ++ [0]).getD k 0)
  omega
theorem row_small {q : Int} (q0 : 2 ≤ q) (q1 : q ≤ 3) (x : Nat) : ∀ n, ∀ v ∈ stepRow q x n, v.natAbs ≤ 3 ^ n
  | 0 => fun v hv => by
    rw [List.mem_singleton.mp hv]
    decide
  | n + 1 => fun v hv => by
    have := longer_small (row_small q0 q1 x n) (t := if n < x then -1 else q - 1) (by split <;> omega) v hv
    rw [Nat.pow_succ, Nat.mul_comm]
    exact this
theorem row_64 {q : Int} (q0 : 2 ≤ q) (q1 : q ≤ 3) {x n : Nat} (hn : n ≤ 24) {v : Int} (hv : v ∈ stepRow q x n) : v.natAbs < 2 ^ 64 := by
  have h1 := row_small q0 q1 x n v hv
  have h2 : 3 ^ n ≤ 3 ^ 24 := Nat.pow_le_pow_right (by decide) hn
  have h3 : (3 : Nat) ^ 24 < 2 ^ 64 := by decide +kernel
  omega
def spTops (K : PySem.W.Frag) : Sp := fun vs H Q _ => ∃ (q : Int) (n : Nat) (p : Addr) (ns : List Int), vs = [.int q, .int n, .ref p] ∧ 2 ≤ q ∧ q ≤ 3 ∧ n ≤ 24 ∧ Tp K H p (ns.map V.int) ∧ ns.length = n + 1 ∧ RetL ((topsR q n ns (n + 1)).map V.int) H Q
section
variable {P : Program} {w : World} {K : PySem.W.Frag} {mg : Str → Option Value} {base : Heap} {f : Addr} {fd : FuncData}
theorem ok_told_tops (F : FnP K "told_tops" s_told_tops f fd) (Z : Zs mg) (G_step_row : Fn P w K mg base CX0 2 "step_row" s_step_row ["letters", "length", "x"] (spStepRow K)) : FnOk P w K mg base CX0 3 f fd ["letters", "length", "numbers"] (spTops K) := by
  refine F.ok sc_told_tops (fun vs H Q E h => ?_) (fun cdv A outer s H vs Q E hr h => ⟨_, PSs.nox (pss_cons (ps_set (i := 3) sc_told_tops.nd rfl (by first | exact Or.inl rfl | exact Or.inr rfl) (pe_op op_rep (pe_lst (pa_cons pe_int pa_nil)) (pe_op op_add (pv 1) pe_int)))
  (pss_cons (ps_for PassesOwn.never rfl (pi_enumT (by rfl) Z.enumerate (pa_cons (pv 2) pa_nil)) (pg_tup rfl (pgs_cons (pg_name (i := 4) sc_told_tops.nd rfl (by first | exact Or.inl rfl | exact Or.inr rfl)) (pgs_cons (pg_name (i := 5) sc_told_tops.nd rfl (by first | exact Or.inl rfl | exact Or.inr rfl)) pgs_nil))) (pss_one (ps_if (pt_cmpR op_ne (pv 5) pe_int (nomark _)) (pss_one (ps_for PassesOwn.never rfl (pi_enumT (by rfl) Z.enumerate (pa_cons (pe_callF G_step_row (hr.mono (by decide)) rfl pass0 (pa_cons (pv 0) (pa_cons (pv 1) (pa_cons (pv 4) pa_nil)))) pa_nil)) (pg_tup rfl (pgs_cons (pg_name (i := 6) sc_told_tops.nd rfl (by first | exact Or.inl rfl | exact Or.inr rfl)) (pgs_cons (pg_name (i := 7) sc_told_tops.nd rfl (by first | exact Or.inl rfl | exact Or.inr rfl)) pgs_nil))) (pss_one (ps_augS (pv 3) (pv 6) (kget_list (K := K)) (pe_op op_mul (pv 5) (pv 7)) ip_add set_list)))) pss_nil)))
  (pss_one (ps_ret (pv 3))))), ?_⟩)
  · obtain ⟨q, n, p, ns, rfl, _⟩ := h
    rfl
  · obtain ⟨q, n, p, ns, rfl, q0, q1, hn, hp, hl, k⟩ := h
    refine ⟨by decide, fun z hz => ⟨_, rfl, _, _, rfl, rfl, ?_⟩⟩
    have ez := Ex.new (o := .lst [V.int 0]) hz
    show rRep (.ref z) (.int (((n + 1 : Nat)) : Int)) _ _
    refine rep_lst upd_same (by omega) fun L hL => ?_
    have HL : H L = none := fresh_back ez hL
    have e1 := ez.trans (Ex.new (o := .lst (List.replicate (n + 1) (V.int 0))) hL)
    have h1 : upd (upd H z (.lst [V.int 0])) L (.lst (List.replicate (n + 1) (V.int 0))) L = some (.lst ((topsR q n ns 0).map V.int)) := by
      rw [upd_same]
      show _ = some (HO.lst ((List.replicate (n + 1) (0 : Int)).map V.int))
      rw [List.map_replicate]
    generalize upd (upd H z (.lst [V.int 0])) L (.lst (List.replicate (n + 1) (V.int 0))) = H1 at e1 h1 ⊢
    refine ⟨_, rfl, p, _, rfl, (hp.ex e1).sq, for_it walk_enumT (fun i σ H' => Ex H H' ∧ ∃ v1 v2 v3 v4, H' L = some (.lst ((topsR q n ns i).map V.int)) ∧ σ = [some (.int q), some (.int (n : Int)), some (.ref p), some (.ref L), v1, v2, v3, v4]) ⟨e1, none, none, none, none, h1, rfl⟩ (fun i σ H' _ h => (hp.ex h.1).sq) (fun i x σ H' H'' hi h y => ?_) (fun σ H' h => ?_)⟩
    · obtain ⟨ex, v1, v2, v3, v4, hL', rfl⟩ := h
      obtain ⟨T, x1, rfl, nT, rfl, g⟩ := y
      obtain ⟨rfl, hi'⟩ := int_at g
      have ex2 := ex.trans (Ex.new (o := .tup [.int (i : Nat), .int (ns.getD i 0)]) nT)
      have hL2 := (Ex.new (o := .tup [.int (i : Nat), .int (ns.getD i 0)]) nT) _ _ hL'
      refine ⟨T, _, rfl, .inl (.inl upd_same), rfl, _, _, rfl, _, _, rfl, rfl, ?_⟩
      generalize upd H' T (.tup [.int (i : Nat), .int (ns.getD i 0)]) = H2 at ex2 hL2 ⊢
      have tn : topsR q n ns (i + 1) = addTo (topsR q n ns i) (stepRow q i n) (ns.getD i 0) (n + 1) := rfl
      have tl := tops_len q n ns i
      have rl := step_len q i n
      rw [tn]
      generalize topsR q n ns i = acc at hL' hL2 tl ⊢
      generalize ns.getD i 0 = c
      refine ⟨_, rfl, rfl, _, rfl, ?_⟩
      rw [dec_int]
      by_cases c0 : c = 0
      · rw [c0, addTo_nil]
        exact iteF ⟨ex2, _, _, _, _, hL2, rfl⟩
      · rw [beq_eq_false_iff_ne.mpr c0]
        refine iteT ⟨_, rfl, _, rfl, _, rfl, q, n, i, rfl, q0, q1, by omega, fun r H3 e3 hr => ?_⟩
        refine ⟨r, _, rfl, hr.sq, for_it walk_enumT (fun j σ H' => Tp K H' r ((stepRow q i n).map V.int) ∧ Ex H H' ∧ ∃ v3 v4, H' L = some (.lst ((addTo acc (stepRow q i n) c j).map V.int)) ∧ σ = [some (.int q), some (.int (n : Int)), some (.ref p), some (.ref L), some (.int (i : Int)), some (.int c), v3, v4]) ⟨hr, ex2.trans e3, v3, v4, by rw [addTo_zero]; exact e3 _ _ hL2, rfl⟩ (fun j σ H' _ h => h.1.sq) (fun j x σ H' H'' hj h y => ?_) (fun σ H' h => ?_)⟩
        · obtain ⟨er, ex4, w3, w4, hL4, rfl⟩ := h
          obtain ⟨T, x1, rfl, nT, rfl, g⟩ := y
          obtain ⟨rfl, hj'⟩ := int_at g
          have eT := Ex.new (o := .tup [.int (j : Nat), .int ((stepRow q i n).getD j 0)]) nT
          have hL5 := eT _ _ hL4
          have er5 := er.ex eT
          have ex5 := ex4.trans eT
          have small := row_64 q0 q1 hn (Own.getD_mem hj')
          refine ⟨T, _, rfl, .inl (.inl upd_same), rfl, _, _, rfl, _, _, rfl, rfl, ?_⟩
          generalize upd H' T (.tup [.int (j : Nat), .int ((stepRow q i n).getD j 0)]) = H5 at hL5 er5 ex5 ⊢
          have ja : j < (addTo acc (stepRow q i n) c j).length := by rw [addTo_len]; omega
          refine ⟨_, rfl, _, rfl, L, _, _, _, rfl, rfl, sq_of hL5, atI_int ja, _, rfl, _, rfl, _, _, rfl, rfl, .inr ⟨by omega, by omega⟩, _, _, rfl, rfl, L, _, _, _, rfl, rfl, hL5, ixN_nat (by rw [List.length_map]; exact ja), ?_⟩
          rw [int_set, addTo_succ (by omega)]
          exact ⟨er5.mut hL5, ex_side ex5 HL, _, _, upd_same, rfl⟩
        · obtain ⟨_, ex4, w3, w4, hL4, rfl⟩ := h
          rw [List.length_map, rl] at hL4
          exact ⟨ex4, _, _, _, _, hL4, rfl⟩
    · obtain ⟨ex, v1, v2, v3, v4, hL', rfl⟩ := h
      rw [List.length_map, hl] at hL'
      exact ⟨_, rfl, k L H' HL ex hL'⟩
end
end K11

namespace K11
open PySem PySem.Spec PyProof.Rows L2 Evl Own
open PySem.W (mcComb)
def frac (b t : Int) : Int × Int := (t / gcdI t b, b / gcdI t b)
def spCounts (K : PySem.W.Frag) : Sp := fun vs H Q _ => ∃ (q : Int) (n : Nat) (p : Addr) (ns : List Int), vs = [.int q, .int n, .ref p] ∧ 2 ≤ q ∧ q ≤ 3 ∧ n ≤ 24 ∧ Tp K H p (ns.map V.int) ∧ ns.length = n + 1 ∧ 0 < ns.sum ∧ ns.sum.natAbs.log2 < 9000 ∧
  ∀ e H2, Ex H H2 → TpP K H2 e ((topsR q n ns (n + 1)).map (frac ns.sum)) → Q (.ref e) H2
def momL (n r : Nat) (ns : List Int) : Int := ((List.range ns.length).map fun w => ns.getD w 0 * mcComb ((n : Int) - (w : Int)) (r : Int)).sum
def spMoment (K : PySem.W.Frag) : Sp := fun vs H Q _ => ∃ (q : Int) (n r : Nat) (p : Addr) (ns : List Int), vs = [.int q, .ref p, .int r] ∧ n ≤ 24 ∧ Tp K H p (ns.map V.int) ∧ ns.length = n + 1 ∧ r ≤ 1000 ∧ ∀ H2, Ex H H2 → Q (.int (momL n r ns)) H2
section
variable {P : Program} {w : World} {K : PySem.W.Frag} {mg : Str → Option Value} {base : Heap} {f : Addr} {fd : FuncData}
theorem ok_told_counts (F : FnP K "told_counts" s_told_counts f fd) (Z : Zs mg) (G_fraction_of : Fn P w K mg base CX0 1 "fraction_of" s_fraction_of ["top", "bottom"] (spFrac K)) (G_told_tops : Fn P w K mg base CX0 3 "told_tops" s_told_tops ["letters", "length", "numbers"] (spTops K)) : FnOk P w K mg base CX0 4 f fd ["letters", "length", "counts"] (spCounts K) := by
  refine F.ok sc_told_counts (fun vs H Q E h => ?_) (fun cdv A outer s H vs Q E hr h => ⟨_, PSs.nox (pss_cons (ps_set (i := 3) sc_told_counts.nd rfl (by first | exact Or.inl rfl | exact Or.inr rfl) (pe_callB (kc_sumT (K := K) rfl) (by rfl) Z.sum (by decide +kernel) (pa_cons (pv 2) pa_nil)))
  (pss_one (ps_ret (pe_callTy (kc_tuple (K := K)) (by rfl) Z.tuple (by decide +kernel) (pa_cons (pe_lc (own := [("top", 4)]) (g := (gName 4)) rfl sc_told_counts.nd (pi_list (pe_callF G_told_tops (hr.mono (by decide)) rfl pass0 (pa_cons (pv 0) (pa_cons (pv 1) (pa_cons (pv 2) pa_nil))))) (blkOk_by (own := [("top", 4)]) (N := ["letters", "length", "counts", "size", "top"]) (sc := defScope s_told_counts) (by decide +kernel)) (fun _ _ _ _ _ => (pg_name (i := 4) sc_told_counts.nd rfl (Or.inl rfl))) (fun _ _ _ _ _ => pts_nil) (fun _ _ _ _ _ => (pe_callF G_fraction_of (hr.mono (by decide)) rfl pass0 (pa_cons (pv 4) (pa_cons (pv 3) pa_nil))))) pa_nil))))), ?_⟩)
  · obtain ⟨q, n, p, ns, rfl, _⟩ := h
    rfl
  · obtain ⟨q, n, p, ns, rfl, q0, q1, hn, hp, hl, s0, sl, k⟩ := h
    refine ⟨_, rfl, p, ns, rfl, hp.sq, ?_⟩
    refine ⟨_, rfl, _, rfl, _, rfl, q, n, p, ns, rfl, q0, q1, hn, hp, hl, fun t H1 ht e1 h1 => ?_⟩
    have tl := tops_len q n ns (n + 1)
    have kk := fun e H2 (ex : Ex H H2) (h : TpP K H2 e ((topsR q n ns (n + 1)).map (frac ns.sum))) => k e H2 ex h
    generalize topsR q n ns (n + 1) = ts at h1 tl kk
    refine ⟨t, rfl, ⟨_, sq_of h1⟩, lcX (fun i acc H' => ∃ es, acc = es.map V.ref ∧ LstP K H' es ((ts.take i).map (frac ns.sum)) ∧ i ≤ ts.length) (walk_list (xs := ts.map V.int)) (fun D _ => ⟨[], rfl, ⟨rfl, fun i e f h => by cases h⟩, by omega⟩) (fun H' e => sq_of (e _ _ h1)) (fun i acc H' s => ?_)
      (fun i D acc H2 x H3 hi ex hD hacc s y K1 K0 k1 k0 => ?_) (fun D acc H2 hD ex hacc s => ?_)⟩
    · obtain ⟨es, rfl, l, hi⟩ := s
      rw [List.length_map, l.len, List.length_map, List.length_take]
      omega
    · obtain ⟨rfl, g⟩ := y
      obtain ⟨rfl, hi'⟩ := int_at g
      obtain ⟨es, rfl, l, _⟩ := s
      refine ⟨rfl, yes_go ⟨_, rfl, _, rfl, ts.getD i 0, ns.sum, rfl, s0, sl, fun e H5 e5 he => ?_⟩⟩
      refine k1 _ H5 e5 ⟨es ++ [e], by rw [List.map_append]; rfl, ?_, by omega⟩
      have tk : (ts.take (i + 1)).map (frac ns.sum) = (ts.take i).map (frac ns.sum) ++ [frac ns.sum (ts.getD i 0)] := by
        rw [List.take_succ, List.getElem?_eq_getElem hi', List.map_append, List.getD_eq_getElem?_getD, List.getElem?_eq_getElem hi']
        rfl
      rw [tk]
      exact ((l.ex e5).push he).mut (e5 _ _ hacc)
    · obtain ⟨es, rfl, l, _⟩ := s
      rw [List.length_map, List.take_length] at l
      refine ⟨D, _, rfl, .inl ⟨sq_of hacc, RetU.new (K := K) (H := H2) (fun e H5 e5 he => ?_) (Ex.refl _)⟩⟩
      exact kk e H5 (e1.trans (ex.trans e5)) ⟨es, he, l.ex e5⟩
theorem ok_moment (F : FnP K "moment" s_moment f fd) (Z : Zs mg) (M : Ms mg) : FnOk P w K mg base CX0 1 f fd ["letters", "counts", "r"] (spMoment K) := by
  refine F.ok sc_moment (fun vs H Q E h => ?_) (fun cdv A outer s H vs Q E hr h => ⟨_, PSs.nox (pss_cons (ps_set (i := 3) sc_moment.nd rfl (by first | exact Or.inl rfl | exact Or.inr rfl) (pe_op op_sub (pe_callB (kc_len (K := K)) (by rfl) Z.len PySem.boot_len (pa_cons (pv 1) pa_nil)) pe_int))
  (pss_one (ps_ret (pe_callB (kc_sum (K := K) rfl) (by rfl) Z.sum (by decide +kernel) (pa_cons (pe_lc (own := [("weight", 4), ("count", 5)]) (g := (gTup K 2 (gCons (gName 4) (gCons (gName 5) gNil)))) rfl sc_moment.nd (pi_enumT (by rfl) Z.enumerate (pa_cons (pv 1) pa_nil)) (blkOk_by (own := [("weight", 4), ("count", 5)]) (N := ["letters", "counts", "r", "length", "weight", "count"]) (sc := defScope s_moment) (by decide +kernel)) (fun _ _ _ _ _ => (pg_tup rfl (pgs_cons (pg_name (i := 4) sc_moment.nd rfl (Or.inl rfl)) (pgs_cons (pg_name (i := 5) sc_moment.nd rfl (Or.inl rfl)) pgs_nil)))) (fun _ _ _ _ _ => pts_nil) (fun _ _ _ _ _ => (pe_op op_mul (pv 5) (pe_callBfun cr_comb (by rfl) M.comb (pa_cons (pe_op op_sub (pv 3) (pv 4)) (pa_cons (pv 2) pa_nil)))))) pa_nil))))), ?_⟩)
  · obtain ⟨q, n, r, p, ns, rfl, _⟩ := h
    rfl
  · obtain ⟨q, n, r, p, ns, rfl, hn, hp, hl, hr', k⟩ := h
    refine ⟨_, rfl, p, _, rfl, .inr hp.sq, _, _, rfl, rfl, ?_⟩
    rw [List.length_map, hl]
    show gName 3 (V.int (((n + 1 : Nat) : Int) - 1)) _ _ _
    rw [show (((n + 1 : Nat)) : Int) - 1 = (n : Int) by omega]
    refine ⟨_, rfl, p, _, rfl, hp.sq, lcP walk_enumT (fun H' e => (hp.ex e).sq) (by rw [List.length_map]; omega) (fun _ => true) (fun i => V.int (ns.getD i 0 * mcComb ((n : Int) - (i : Int)) (r : Int))) (fun i H5 x H6 hi e y K1 K0 k1 k0 => ?_) (fun d H6 hd e6 h6 => ?_)⟩
    · obtain ⟨T, x1, rfl, nT, rfl, g⟩ := y
      obtain ⟨rfl, hi'⟩ := int_at g
      have small : (mcComb ((n : Int) - (i : Int)) (r : Int)).natAbs < 2 ^ 64 := by
        have e1 : (n : Int) - (i : Int) = ((n - i : Nat) : Int) := by omega
        rw [e1]
        by_cases c : r ≤ 24
        · exact comb_small _ (by omega) _ c
        · rw [PySem.W.mcComb_above (by omega)]
          decide
      exact ⟨T, _, rfl, .inl (.inl upd_same), rfl, _, _, rfl, _, _, rfl, rfl, rfl, yes_go ⟨_, rfl, _, rfl, _, rfl, _, _, rfl, rfl, _, rfl, (n : Int) - (i : Int), (r : Int), rfl, by omega, by omega, by omega, _, _, rfl, rfl, .inr ⟨by omega, by omega⟩, k1 rfl _ (Ex.new nT)⟩⟩
    · rw [given_all, List.length_map] at h6
      have : (List.range ns.length).map (fun i => V.int (ns.getD i 0 * mcComb ((n : Int) - (i : Int)) (r : Int))) = ((List.range ns.length).map fun w => ns.getD w 0 * mcComb ((n : Int) - (w : Int)) (r : Int)).map V.int := by
        rw [List.map_map]
        rfl
      rw [this] at h6
      exact ⟨d, _, rfl, sq_of h6, k _ e6⟩
end
end K11

namespace K11
open PySem PySem.Spec PyProof.Rows L2 Evl Own
theorem two_of {α : Type} {l : List α} (h : l.length = 2) : ∃ a b, l = [a, b] := by
  match l, h with
  | [a, b], _ => exact ⟨a, b, rfl⟩
section
variable {P : Program} {w : World} {K : PySem.W.Frag} {mg : Str → Option Value} {base : Heap} {f : Addr} {fd : FuncData}
theorem ok__law_deal (F : FnP K "_law_deal" s__law_deal f fd) (Z : Zs mg) : FnOk P w K mg base CX0 1 f fd ["script", "salt"] (spDeal 2 K) := by
  refine F.ok sc__law_deal (fun vs H Q E h => ?_) (fun cdv A outer s H vs Q E hr h => ⟨_, PSs.nox (pss_cons (ps_setLc (i := 2) (own := [("cell", 3)]) (g := (gName 3)) rfl sc__law_deal.nd rfl rfl (sw_true rfl rfl rfl (by decide +kernel)) (pi_list (pe_slice (ksl_list (K := K)) (pv 0) po_none (po_some pe_int))) (blkOk_by (own := [("cell", 3)]) (N := ["script", "salt", "cells", "cell", "mix"]) (sc := defScope s__law_deal) (by decide +kernel)) (fun _ _ _ _ _ => (pg_name (i := 3) sc__law_deal.nd rfl (Or.inl rfl))) (fun _ _ _ _ _ => pts_nil) (fun _ _ _ _ _ => (pe_callB call_abs (by rfl) Z.abs (by decide +kernel) (pa_cons (pe_callTy call_int1 (by rfl) Z.int (by decide +kernel) (pa_cons (pv 3) pa_nil)) pa_nil))))
  (pss_cons (ps_set (i := 4) sc__law_deal.nd rfl (by first | exact Or.inl rfl | exact Or.inr rfl) (pe_op op_add pe_int (pe_op op_mul pe_int (pv 1))))
  (pss_cons (ps_for PassesOwn.never rfl (pi_list (pv 2)) (pg_name (i := 3) sc__law_deal.nd rfl (by first | exact Or.inl rfl | exact Or.inr rfl)) (pss_one (ps_set (i := 4) sc__law_deal.nd rfl (by first | exact Or.inl rfl | exact Or.inr rfl) (pe_op op_mod (pe_callTy call_int1 (by rfl) Z.int (by decide +kernel) (pa_cons (pe_op op_add (pe_op op_add (pe_op op_mul (pv 4) pe_int) (pe_op op_mod (pv 3) pe_int)) pe_int) pa_nil)) pe_int))))
  (pss_one (ps_ret (pe_lst (pa_cons (pe_revL (pe_lc (own := [("cell", 3)]) (g := (gName 3)) rfl sc__law_deal.nd (pi_list (pv 2)) (blkOk_by (own := [("cell", 3)]) (N := ["script", "salt", "cells", "cell", "mix"]) (sc := defScope s__law_deal) (by decide +kernel)) (fun _ _ _ _ _ => (pg_name (i := 3) sc__law_deal.nd rfl (Or.inl rfl))) (fun _ _ _ _ _ => (pts_one (pt_cmpR op_ge (pv 3) (pe_op op_pow pe_int pe_int) (nomark _)))) (fun _ _ _ _ _ => (pv 3)))) (pa_cons (pv 4) (pa_cons pe_int pa_nil))))))))), ?_⟩)
  · obtain ⟨a, ns, salt, rfl, _⟩ := h
    rfl
  · obtain ⟨a, ns, salt, rfl, ha, s0, s1, k⟩ := h
    obtain ⟨ms, hm, hml⟩ := cut_ints ns none (some 63)
    have hm63 := cut_len63 ns
    rw [hm, List.length_map] at hm63
    refine ⟨_, rfl, _, rfl, a, _, rfl, ha, fun p hp => ⟨p, rfl, ⟨_, sq_of upd_same⟩, ?_⟩⟩
    rw [hm]
    have e1 := Ex.new (o := .lst (ms.map V.int)) hp
    refine lcP (Q := fun _ _ => _) (walk_list (xs := ms.map V.int)) (fun H' e => sq_of (e _ _ upd_same)) (by rw [List.length_map]; omega) (fun _ => true) (fun i => V.int (if ms.getD i 0 < 0 then -(ms.getD i 0) else ms.getD i 0)) (fun i H1 x H2 hi e y K1 K0 k1 k0 => ?_) (fun q H2 hq e2 h2 => ?_)
    · obtain ⟨rfl, g⟩ := y
      obtain ⟨rfl, _⟩ := int_at g
      exact ⟨rfl, yes_go ⟨_, rfl, .inl ⟨_, rfl, _, rfl, k1 rfl _ (Ex.refl _)⟩⟩⟩
    · rw [given_all, List.length_map, range_map 0 (fun x => V.int (if x < 0 then -x else x)), show (ms.map fun x => V.int (if x < 0 then -x else x)) = (ms.map fun x => if x < 0 then -x else x).map V.int by rw [List.map_map]; rfl] at h2
      have hpos : ∀ x ∈ ms.map (fun x => if x < 0 then -x else x), 0 ≤ x := fun x hx => by
        obtain ⟨y, _, rfl⟩ := List.mem_map.mp hx
        split <;> omega
      have hlen : (ms.map fun x => if x < 0 then -x else x).length ≤ 63 := by rw [List.length_map]; omega
      generalize (ms.map fun x => if x < 0 then -x else x) = cs at h2 hpos hlen
      have e12 := e1.trans e2
      refine ⟨_, rfl, _, _, rfl, rfl, .inl ⟨by decide, by decide⟩, _, _, rfl, rfl, ?_⟩
      refine ⟨_, rfl, q, rfl, ⟨_, sq_of h2⟩, for_list (xs := cs.map V.int) (fun i σ H' => H' = H2 ∧ ∃ (v : Option V) (mix : Int), 0 ≤ mix ∧ mix < 2147483647 ∧ σ = [some (.ref a), some (.int salt), some (.ref q), v, some (.int mix)]) ⟨rfl, none, _, ?_, ?_, rfl⟩ (fun i σ H' _ h => h.1 ▸ sq_of h2) (fun i x σ H' hx z => ?_) (fun σ H' z => ?_)⟩
      · omega
      · omega
      · obtain ⟨rfl, v, mix, m0, m1, rfl⟩ := z
        obtain ⟨rfl, _⟩ := int_at hx
        refine ⟨_, rfl, _, _, rfl, rfl, .inr ⟨by decide, by decide⟩, _, rfl, _, _, rfl, rfl, (show (0 : Int) < 2147483563 by decide), _, _, rfl, rfl, _, _, rfl, rfl, .inl ⟨_, rfl, _, _, rfl, rfl, (show (0 : Int) < 2147483647 by decide), ?_⟩⟩
        exact ⟨rfl, _, _, Int.emod_nonneg _ (by decide), Int.emod_lt_of_pos _ (by decide), rfl⟩
      · obtain ⟨rfl, v, mix, m0, m1, rfl⟩ := z
        refine ⟨_, rfl, q, rfl, ⟨_, sq_of h2⟩, lcP (walk_list (xs := cs.map V.int)) (fun H' e => sq_of (e _ _ h2)) (by rw [List.length_map]; omega) (fun i => decide (10 ^ 18 ≤ cs.getD i 0)) (fun i => V.int (cs.getD i 0)) (fun i H1 x H3 hi e y K1 K0 k1 k0 => ?_) (fun r H3 hr e3 h3 => ?_)⟩
        · obtain ⟨rfl, g⟩ := y
          obtain ⟨rfl, _⟩ := int_at g
          refine ⟨rfl, _, rfl, _, _, rfl, rfl, ⟨by decide, by decide, by decide⟩, _, _, rfl, rfl, _, rfl, ?_⟩
          by_cases c : (10 : Int) ^ 18 ≤ cs.getD i 0
          · have c' : (10 : Int) ^ (18 : Int).toNat ≤ cs.getD i 0 := c
            rw [decide_eq_true c']
            exact iteT ⟨_, rfl, k1 (decide_eq_true c) _ (Ex.refl _)⟩
          · have c' : ¬ (10 : Int) ^ (18 : Int).toNat ≤ cs.getD i 0 := c
            rw [decide_eq_false c']
            exact iteF (k0 (decide_eq_false c) _ (Ex.refl _))
        · have e13 := e12.trans e3
          rw [given_ints, List.length_map] at h3
          refine ⟨r, _, rfl, sq_of h3, ?_⟩
          rw [← List.map_reverse]
          refine fun t ht => ⟨_, rfl, (by show 3 ≤ sizeLine; decide), fun d hd => k d t _ ?_⟩
          clear h3
          have hlen2 : (((List.range cs.length).filter fun i => decide ((10 : Int) ^ 18 ≤ cs.getD i 0)).map fun i => cs.getD i 0).length ≤ cs.length := by
            rw [List.length_map]
            exact Nat.le_trans (List.length_filter_le _ _) (by rw [List.length_range]; exact Nat.le_refl _)
          have hpos2 : ∀ x ∈ (((List.range cs.length).filter fun i => decide ((10 : Int) ^ 18 ≤ cs.getD i 0)).map fun i => cs.getD i 0), 0 ≤ x := fun x hx => by
            obtain ⟨i, hi, rfl⟩ := List.mem_map.mp hx
            exact hpos _ (Own.getD_mem (List.mem_range.mp (List.mem_filter.mp hi).1))
          generalize (((List.range cs.length).filter fun i => decide ((10 : Int) ^ 18 ≤ cs.getD i 0)).map fun i => cs.getD i 0) = ds at hlen2 hpos2 hd
          have td : t ≠ d := fun e => by
            subst e
            rw [upd_same] at hd
            cases hd
          have hd3 : H3 d = none := by
            rw [upd_ne td.symm] at hd
            exact hd
          refine (Wd.wl (cs := ds.reverse) (ms := [mix, 0]) ⟨e13.trans ((Ex.new ht).trans (Ex.new hd)), fresh_back e13 hd3, fresh_back e13 ht, td.symm, upd_same, by rw [upd_ne td]; exact upd_same, fun x hx => hpos2 x (List.mem_reverse.mp hx), rfl, by rw [List.length_reverse]; omega⟩)
theorem ok__law_any (F : FnP K "_law_any" s__law_any f fd) (Z : Zs mg) : FnOk P w K mg base CX0 1 f fd ["deal", "bound"] (spAny 2) := by
  refine F.ok sc__law_any (fun vs H Q E h => ?_) (fun cdv A outer s H vs Q E hr h => ⟨_, PSs.nox (pss_cons (ps_while PassesOwn.never (PW.pt (pw_and (pt_cmpR (ko_ne (K := K) hr.units) (pe_ix (kx_list (K := K)) (pv 0) pe_int (fun _ _ => rfl)) (pe_lst pa_nil) (nomark _)) (pw_and1 (pt_cmpR op_eq (pe_ix (kx_list (K := K)) (pe_ix (kx_list (K := K)) (pv 0) pe_int (fun _ _ => rfl)) (pe_un un_neg pe_int) (fun _ _ => rfl)) pe_int (nomark _))))) (pss_one (ps_expr (km_bm0 (K := K) PySem.F.plainAttrs_list PySem.F.slot_list_pop PySem.F.type_list_pop mt_pop (pe_ix (kx_list (K := K)) (pv 0) pe_int (fun _ _ => rfl))))))
  (pss_cons (ps_if (pt_cmpR (ko_ne (K := K) hr.units) (pe_ix (kx_list (K := K)) (pv 0) pe_int (fun _ _ => rfl)) (pe_lst pa_nil) (nomark _)) (pss_cons (ps_set (i := 2) sc__law_any.nd rfl (by first | exact Or.inl rfl | exact Or.inr rfl) (pe_callTy call_int1 (by rfl) Z.int (by decide +kernel) (pa_cons (km_bm0 (K := K) PySem.F.plainAttrs_list PySem.F.slot_list_pop PySem.F.type_list_pop mt_pop (pe_ix (kx_list (K := K)) (pv 0) pe_int (fun _ _ => rfl))) pa_nil)))
  (pss_cons (ps_expr (km_bm (K := K) PySem.F.plainAttrs_list PySem.F.slot_list_append PySem.F.type_list_append mt_append (pe_ix (kx_list (K := K)) (pv 0) pe_int (fun _ _ => rfl)) (pa_cons (pe_op op_fdivW (pv 2) (pv 1)) pa_nil)))
  (pss_one (ps_ret (pe_op op_mod (pv 2) (pv 1)))))) pss_nil)
  (pss_cons (ps_asg (pe_op op_add (pe_ix (kx_list (K := K)) (pv 0) pe_int (fun _ _ => rfl)) pe_int) (pg_sub (pv 0) pe_int set_list))
  (pss_cons (ps_asg (pe_op op_mod (pe_callTy call_int1 (by rfl) Z.int (by decide +kernel) (pa_cons (pe_op op_add (pe_op op_add (pe_op op_mul (pe_ix (kx_list (K := K)) (pv 0) pe_int (fun _ _ => rfl)) pe_int) pe_int) (pe_op op_mul pe_int (pe_ix (kx_list (K := K)) (pv 0) pe_int (fun _ _ => rfl)))) pa_nil)) pe_int) (pg_sub (pv 0) pe_int set_list))
  (pss_one (ps_ret (pe_op op_mod (pe_callTy call_int1 (by rfl) Z.int (by decide +kernel) (pa_cons (pe_op op_fdivW (pe_op op_mod (pe_callTy call_int1 (by rfl) Z.int (by decide +kernel) (pa_cons (pe_op op_add (pe_op op_mul (pe_ix (kx_list (K := K)) (pv 0) pe_int (fun _ _ => rfl)) pe_int) (pe_ix (kx_list (K := K)) (pv 0) pe_int (fun _ _ => rfl))) pa_nil)) pe_int) pe_int) pa_nil)) (pv 1)))))))), ?_⟩)
  · obtain ⟨a, l, R, b, rfl, _⟩ := h
    rfl
  · obtain ⟨a, l, R, b, rfl, hw, b0, bl, k⟩ := h
    refine while_split (fun m σ H' => σ = [some (.ref a), some (.int b), none] ∧ ∃ cs ms, Wd 2 a l R H' cs ms ∧ cs.length = m) (fun σ H' => σ = [some (.ref a), some (.int b), none] ∧ ∃ cs ms, Wd 2 a l R H' cs ms) ?_ ?_ ?_
    · obtain ⟨cs, ms, hd⟩ := hw.wd
      exact ⟨_, rfl, cs, ms, hd, rfl⟩
    · rintro σ H' ⟨rfl, cs, ms, hd⟩
      obtain ⟨mx, c, rfl⟩ := two_of hd.is.mn
      refine ⟨_, rfl, a, _, 0, .ref l, rfl, rfl, sq_of hd.is.ha, rfl, by decide, fun z hz => ?_⟩
      have hd1 := hd.keep (Ex.new (o := .lst []) hz)
      refine ne_nil hd1.is.hl upd_same ?_
      rcases cases_last cs with rfl | ⟨ds, x, rfl⟩
      · refine ⟨_, rfl, iteF ?_⟩
        refine ⟨_, rfl, a, _, 2, .int c, rfl, rfl, sq_of hd1.is.ha, rfl, _, _, rfl, rfl, _, rfl, a, _, 2, 2, rfl, rfl, hd1.is.ha, rfl, ?_⟩
        have hd2 := hd1.nums (ms' := [mx, c + 1]) rfl
        refine ⟨_, rfl, a, _, 1, .int mx, rfl, rfl, sq_of hd2.is.ha, rfl, _, _, rfl, rfl, .inr ⟨by decide, by decide⟩, _, _, rfl, rfl, _, rfl, a, _, 2, .int (c + 1), rfl, rfl, sq_of hd2.is.ha, rfl, _, _, rfl, rfl, .inl ⟨by decide, by decide⟩, _, _, rfl, rfl, .inl ⟨_, rfl, _, _, rfl, rfl, (show (0 : Int) < 2147483647 by decide), _, rfl, a, _, 1, 1, rfl, rfl, hd2.is.ha, rfl, ?_⟩⟩
        have hd3 := hd2.nums (ms' := [(mx * 48271 + 41 + 1009 * (c + 1)) % 2147483647, c + 1]) rfl
        refine ⟨_, rfl, a, _, 1, .int _, rfl, rfl, sq_of hd3.is.ha, rfl, _, _, rfl, rfl, .inr ⟨by decide, by decide⟩, _, rfl, a, _, 2, .int (c + 1), rfl, rfl, sq_of hd3.is.ha, rfl, _, _, rfl, rfl, .inl ⟨_, rfl, _, _, rfl, rfl, (show (0 : Int) < 2147483629 by decide), _, _, rfl, rfl, ⟨by decide, by decide⟩, .inl ⟨_, rfl, _, rfl, _, _, rfl, rfl, b0, k _ _ (Int.emod_nonneg _ (by omega)) (Int.emod_lt_of_pos _ b0) hd3.wl⟩⟩⟩
      · rw [not_empty]
        refine ⟨_, rfl, iteT ?_⟩
        refine ⟨_, rfl, a, _, 0, .ref l, rfl, rfl, sq_of hd1.is.ha, rfl, .inl ⟨rfl, _, sq_of hd1.is.hl⟩, l, _, _, rfl, rfl, hd1.is.hl, (pop_last ds x).1, ?_⟩
        rw [(pop_last ds x).2]
        have hx : 0 ≤ x := hd1.is.pos x (by simp)
        have hlen := hd1.is.len
        rw [List.length_append, List.length_singleton] at hlen
        have hd2 := hd1.cells (ds := ds) (fun x hx => hd1.is.pos x (List.mem_append_left _ hx)) (by omega)
        refine .inl ⟨_, rfl, ?_⟩
        refine ⟨_, rfl, a, _, 0, .ref l, rfl, rfl, sq_of hd2.is.ha, rfl, .inl ⟨rfl, _, sq_of hd2.is.hl⟩, _, rfl, _, rfl, _, _, rfl, rfl, ⟨b0, bl⟩, l, _, _, rfl, rfl, hd2.is.hl, sz_lt (by rw [List.length_map]; omega), ?_⟩
        have hd3 := hd2.cells (ds := ds ++ [x / b]) (fun y hy => by
          rcases List.mem_append.mp hy with h | h
          · exact hd1.is.pos y (List.mem_append_left _ h)
          · rw [List.mem_singleton.mp h]
            exact Int.ediv_nonneg hx (by omega)) (by rw [List.length_append, List.length_singleton]; omega)
        rw [List.map_append] at hd3
        exact ⟨_, rfl, _, rfl, _, _, rfl, rfl, b0, k _ _ (Int.emod_nonneg _ (by omega)) (Int.emod_lt_of_pos _ b0) hd3.wl⟩
    · rintro nx hn m σ H' ⟨rfl, cs, ms, hd, rfl⟩
      obtain ⟨mx, c, rfl⟩ := two_of hd.is.mn
      refine ⟨_, rfl, a, _, 0, .ref l, rfl, rfl, sq_of hd.is.ha, rfl, by decide, fun z hz => ?_⟩
      have hd1 := hd.keep (Ex.new (o := .lst []) hz)
      refine ne_nil hd1.is.hl upd_same ?_
      rcases cases_last cs with rfl | ⟨ds, x, rfl⟩
      · exact ⟨_, rfl, iteF (iteF (hn _ _ ⟨rfl, _, _, hd1⟩))⟩
      · rw [not_empty]
        refine ⟨_, rfl, iteT ?_⟩
        refine ⟨_, rfl, a, _, 0, .ref l, rfl, rfl, sq_of hd1.is.ha, rfl, _, rfl, l, _, _, _, rfl, rfl, sq_of hd1.is.hl, at_last ds x, rfl, _, rfl, ?_⟩
        rw [dec_int]
        by_cases hx : x = 0
        · subst hx
          refine iteT ⟨_, fun σ' H' h => h, ⟨_, rfl, a, _, 0, .ref l, rfl, rfl, sq_of hd1.is.ha, rfl, .inl ⟨rfl, _, sq_of hd1.is.hl⟩, l, _, _, rfl, rfl, hd1.is.hl, (pop_last ds 0).1, ?_⟩⟩
          rw [(pop_last ds 0).2]
          exact ⟨ds.length, by rw [List.length_append, List.length_singleton]; omega, rfl, ds, _, hd1.cells (fun x hx => hd1.is.pos x (List.mem_append_left _ hx)) (by have := hd1.is.len; rw [List.length_append] at this; omega), rfl⟩
        · rw [beq_eq_false_iff_ne.mpr hx]
          exact iteF (hn _ _ ⟨rfl, _, _, hd1⟩)
theorem ok__law_of (F : FnP K "_law_of" s__law_of f fd) (Z : Zs mg) (G__law_any : Fn P w K mg base CX0 1 "_law_any" s__law_any ["deal", "bound"] (spAny 2)) : FnOk P w K mg base CX0 2 f fd ["deal", "some"] (spOf 2 K) := by
  refine F.ok sc__law_of (fun vs H Q E h => ?_) (fun cdv A outer s H vs Q E hr h => ⟨_, PSs.nox (pss_one (ps_ret (pe_ix (kx_list (K := K)) (pv 1) (pe_callF G__law_any (hr.mono (by decide)) rfl pass0 (pa_cons (pv 0) (pa_cons (pe_callB (kc_len (K := K)) (by rfl) Z.len PySem.boot_len (pa_cons (pv 1) pa_nil)) pa_nil))) (fun _ _ => rfl)))), ?_⟩)
  · obtain ⟨a, l, p, R, xs, rfl, _⟩ := h
    rfl
  · obtain ⟨a, l, p, R, xs, rfl, hw, hp, hne, hz, k⟩ := h
    have hlen : 0 < xs.length := List.length_pos_iff.mpr hne
    refine ⟨_, rfl, _, rfl, _, rfl, p, _, rfl, .inl (ex_l hw.ex hp), a, l, R, (xs.length : Int), rfl, hw, Int.ofNat_lt.mpr hlen, ?_, fun r H1 h0 h1 hw1 => ?_⟩
    · have := Nat.log2_le_self xs.length
      show xs.length.log2 < 9000
      omega
    · have hi : r.toNat < xs.length := by omega
      have hx : xs[r.toNat]? = some xs[r.toNat] := List.getElem?_eq_getElem hi
      refine ⟨p, _, r, xs[r.toNat], rfl, rfl, ex_l hw1.ex hp, ?_, k _ _ (List.getElem_mem hi) hw1⟩
      have e : r = ((r.toNat : Nat) : Int) := by omega
      have := atI_nat hx
      rw [← e] at this
      exact this
theorem ok__law_same0 (F : FnP K "_law_same" s__law_same f fd) (Z : Zs mg) : FnOk P w K mg base CX0 1 f fd ["told", "due"] (spSameR K 0) :=
  F.ok sc__law_same (fun vs H Q E h => h.elim) (fun cdv A outer s H vs Q E hr h => h.elim)
theorem ok__law_sameS {n : Nat} (F : FnP K "_law_same" s__law_same f fd) (Z : Zs mg) (G__law_same : Fn P w K mg base CX0 (n + 1) "_law_same" s__law_same ["told", "due"] (spSameR K n)) : FnOk P w K mg base CX0 (n + 2) f fd ["told", "due"] (spSame K n) := by
  refine F.ok sc__law_same (fun vs H Q E h => ?_) (fun cdv A outer s H vs Q E hr h => ⟨_, PSs.nox (pss_cons (ps_if (pt_val (pe_callB (kc_isi (K := K)) (by rfl) Z.isinstance (by decide +kernel) (pa_cons (pv 1) (pa_cons (pe_bltn (v := .ty "tuple") (u := .type "tuple") (by rfl) Z.tuple (by decide +kernel) rfl) pa_nil)))) (pss_cons (ps_if (PW.pt (pw_or (pt_not (pt_val (pe_callB (kc_isi (K := K)) (by rfl) Z.isinstance (by decide +kernel) (pa_cons (pv 0) (pa_cons (pe_bltn (v := .ty "tuple") (u := .type "tuple") (by rfl) Z.tuple (by decide +kernel) rfl) pa_nil))))) (pw_or1 (pt_cmpR op_ne (pe_callB (kc_len (K := K)) (by rfl) Z.len PySem.boot_len (pa_cons (pv 0) pa_nil)) (pe_callB (kc_len (K := K)) (by rfl) Z.len PySem.boot_len (pa_cons (pv 1) pa_nil)) (nomark _))))) (pss_one (ps_ret pe_bl)) pss_nil)
  (pss_one (ps_ret (pe_cmpR op_eq (pe_callB (kc_len (K := K)) (by rfl) Z.len PySem.boot_len (pa_cons (pe_lc (own := [("at", 2)]) (g := (gName 2)) rfl sc__law_same.nd (pi_range1 (by rfl) Z.range (pa_cons (pe_callB (kc_len (K := K)) (by rfl) Z.len PySem.boot_len (pa_cons (pv 1) pa_nil)) pa_nil)) (blkOk_by (own := [("at", 2)]) (N := ["told", "due", "at"]) (sc := defScope s__law_same) (by decide +kernel)) (fun _ _ _ _ _ => (pg_name (i := 2) sc__law_same.nd rfl (Or.inl rfl))) (fun _ _ _ _ _ => (pts_one (pt_not (pt_val (pe_callF G__law_same (hr.mono (Nat.le_refl _)) rfl pass0 (pa_cons (pe_ix (kx_tup (K := K)) (pv 0) (pv 2) (fun _ _ => rfl)) (pa_cons (pe_ix (kx_tup (K := K)) (pv 1) (pv 2) (fun _ _ => rfl)) pa_nil))))))) (fun _ _ _ _ _ => (pv 2))) pa_nil)) pe_int (nomark _))))) pss_nil)
  (pss_cons (ps_if (pt_cmpR op_isN (pv 1) pe_non (nomark _)) (pss_one (ps_ret (pe_cmpR op_isN (pv 0) pe_non (nomark _)))) pss_nil)
  (pss_cons (ps_if (PW.pt (pw_or (pt_cmpR op_isBg (pv 1) pe_bl (nomark _)) (pw_or1 (pt_cmpR op_isBg (pv 1) pe_bl (nomark _))))) (pss_one (ps_ret (pe_ifExp (pt_val (pv 1)) (pe_cmpR op_isBg (pv 0) pe_bl (nomark _)) (pe_cmpR op_isBg (pv 0) pe_bl (nomark _))))) pss_nil)
  (pss_cons (ps_if (pt_val (pe_callB (kc_isi (K := K)) (by rfl) Z.isinstance (by decide +kernel) (pa_cons (pv 1) (pa_cons (pe_bltn (v := .ty "str") (u := .type "str") (by rfl) Z.str (by decide +kernel) rfl) pa_nil)))) (pss_one (ps_ret (pe_and (pe_callB (kc_isi (K := K)) (by rfl) Z.isinstance (by decide +kernel) (pa_cons (pv 0) (pa_cons (pe_bltn (v := .ty "str") (u := .type "str") (by rfl) Z.str (by decide +kernel) rfl) pa_nil))) (pe_one (pe_cmpR op_eq (pv 0) (pv 1) (nomark _)))))) pss_nil)
  (pss_one (ps_ret (pe_and (pe_callB (kc_isi (K := K)) (by rfl) Z.isinstance (by decide +kernel) (pa_cons (pv 0) (pa_cons (pe_bltn (v := .ty "int") (u := .type "int") (by rfl) Z.int (by decide +kernel) rfl) pa_nil))) (pe_and (pe_not (pe_callB (kc_isi (K := K)) (by rfl) Z.isinstance (by decide +kernel) (pa_cons (pv 0) (pa_cons (pe_bltn (v := .ty "bool") (u := .type "bool") (by rfl) Z.bool (by decide +kernel) rfl) pa_nil)))) (pe_one (pe_cmpR op_eq (pv 0) (pv 1) (nomark _))))))))))), ?_⟩)
  · obtain ⟨x, y, rfl, _⟩ := h
    rfl
  · obtain ⟨x, y, rfl, h, k⟩ := h
    have h' : (x = y ∧ scalV x = true) ∨ ∃ m, n = m + 1 ∧ ∃ p q xs ys, x = .ref p ∧ y = .ref q ∧ Tp K H p xs ∧ Tp K H q ys ∧ xs.length = ys.length ∧ xs.length ≤ 1000 ∧ ∀ (i : Nat) u v, xs[i]? = some u → ys[i]? = some v → Sm K H m u v := by
      cases n with
      | zero => exact .inl h
      | succ m =>
        rcases h with h | h
        · exact .inl h
        · exact .inr ⟨m, rfl, h⟩
    rcases h' with ⟨rfl, hs⟩ | ⟨m, rfl, p, q, xs, ys, rfl, rfl, hp, hq, hl, hz, hi⟩
    · cases x <;> first | cases hs | skip
      · refine ⟨_, rfl, _, .ty "tuple", _, .type "tuple", _, rfl, .ty _, ((Vk.non : Vk K H _ _)).ty, kit_vk ((Vk.non : Vk K H _ _)) "tuple", _, rfl, iteF ?_⟩
        exact ⟨_, rfl, rfl, _, rfl, iteT ⟨_, rfl, rfl, k _ (Ex.refl _)⟩⟩
      · rename_i b
        refine ⟨_, rfl, _, .ty "tuple", _, .type "tuple", _, rfl, .ty _, ((Vk.bl b : Vk K H _ _)).ty, kit_vk ((Vk.bl b : Vk K H _ _)) "tuple", _, rfl, iteF ?_⟩
        refine ⟨_, rfl, rfl, _, rfl, iteF ?_⟩
        cases b
        · refine ⟨_, rfl, true, rfl, rfl, _, rfl, iteF ⟨_, rfl, false, rfl, rfl, _, rfl, iteT ?_⟩⟩
          exact ⟨_, rfl, _, rfl, iteF ⟨_, rfl, false, rfl, rfl, k _ (Ex.refl _)⟩⟩
        · refine ⟨_, rfl, true, rfl, rfl, _, rfl, iteT (iteT ?_)⟩
          exact ⟨_, rfl, _, rfl, iteT ⟨_, rfl, true, rfl, rfl, k _ (Ex.refl _)⟩⟩
      · rename_i i
        refine ⟨_, rfl, _, .ty "tuple", _, .type "tuple", _, rfl, .ty _, ((Vk.int i : Vk K H _ _)).ty, kit_vk ((Vk.int i : Vk K H _ _)) "tuple", _, rfl, iteF ?_⟩
        refine ⟨_, rfl, rfl, _, rfl, iteF ?_⟩
        refine ⟨_, rfl, true, rfl, rfl, _, rfl, iteF ⟨_, rfl, false, rfl, rfl, _, rfl, iteF ?_⟩⟩
        refine ⟨_, rfl, _, .ty "str", _, .type "str", _, rfl, .ty _, ((Vk.int i : Vk K H _ _)).ty, kit_vk ((Vk.int i : Vk K H _ _)) "str", _, rfl, iteF ?_⟩
        refine ⟨_, rfl, _, .ty "int", _, .type "int", _, rfl, .ty _, ((Vk.int i : Vk K H _ _)).ty, kit_vk ((Vk.int i : Vk K H _ _)) "int", _, rfl, iteT ⟨_, rfl, _, .ty "bool", _, .type "bool", _, rfl, .ty _, ((Vk.int i : Vk K H _ _)).ty, kit_vk ((Vk.int i : Vk K H _ _)) "bool", _, rfl, _, rfl, iteT ⟨_, rfl, _, rfl, rfl, ?_⟩⟩⟩
        rw [dec_int, beq_self_eq_true]
        exact k _ (Ex.refl _)
      · rename_i z
        refine ⟨_, rfl, _, .ty "tuple", _, .type "tuple", _, rfl, .ty _, ((Vk.str z : Vk K H _ _)).ty, kit_vk ((Vk.str z : Vk K H _ _)) "tuple", _, rfl, iteF ?_⟩
        refine ⟨_, rfl, rfl, _, rfl, iteF ?_⟩
        refine ⟨_, rfl, true, rfl, rfl, _, rfl, iteF ⟨_, rfl, false, rfl, rfl, _, rfl, iteF ?_⟩⟩
        refine ⟨_, rfl, _, .ty "str", _, .type "str", _, rfl, .ty _, ((Vk.str z : Vk K H _ _)).ty, kit_vk ((Vk.str z : Vk K H _ _)) "str", _, rfl, iteT ?_⟩
        refine ⟨_, rfl, _, .ty "str", _, .type "str", _, rfl, .ty _, ((Vk.str z : Vk K H _ _)).ty, kit_vk ((Vk.str z : Vk K H _ _)) "str", _, rfl, iteT ⟨_, rfl, _, rfl, rfl, ?_⟩⟩
        rw [decide_eq_true rfl]
        exact k _ (Ex.refl _)
    · refine ⟨_, rfl, _, .ty "tuple", _, .type "tuple", _, rfl, .ty _, ((Vk.tup hq : Vk K H _ _)).ty, kit_vk ((Vk.tup hq : Vk K H _ _)) "tuple", _, rfl, iteT ?_⟩
      refine ⟨_, rfl, _, .ty "tuple", _, .type "tuple", _, rfl, .ty _, ((Vk.tup hp : Vk K H _ _)).ty, kit_vk ((Vk.tup hp : Vk K H _ _)) "tuple", _, rfl, iteF ⟨_, rfl, p, _, rfl, .inr hp.sq, _, rfl, q, _, rfl, .inr hq.sq, rfl, _, rfl, ?_⟩⟩
      rw [hl, decide_eq_true rfl]
      refine iteF ?_
      refine ⟨_, rfl, q, _, rfl, .inr hq.sq, _, rfl, by omega, by omega, ?_⟩
      rw [show ((ys.length : Nat) : Int).toNat = ys.length by omega]
      refine lcP (walk_range (lo := 0)) (fun _ _ => trivial) (by omega) (fun _ => false) (fun i => V.int (i : Int)) (fun i H1 x H2 hi' e y K1 K0 k1 k0 => ?_) (fun r H2 hr e2 h2 => ?_)
      · obtain ⟨rfl, rfl⟩ := y
        have e0 : (0 : Int) + (i : Int) = (i : Int) := by omega
        show gName _ (V.int ((0 : Int) + (i : Int))) _ _ _
        rw [e0]
        have hx : xs[i]? = some (xs[i]'(by omega)) := List.getElem?_eq_getElem _
        have hy : ys[i]? = some ys[i] := List.getElem?_eq_getElem _
        refine ⟨rfl, _, rfl, _, rfl, p, _, _, _, rfl, rfl, (hp.ex e).sq, atI_nat hx, _, rfl, _, rfl, q, _, _, _, rfl, rfl, (hq.ex e).sq, atI_nat hy, ?_⟩
        exact ⟨_, _, rfl, (hi i _ _ hx hy).ex e, fun H' e' => ⟨_, rfl, iteF (k0 rfl _ e')⟩⟩
      · have h0 : given ys.length (fun _ => false) (fun i => V.int (i : Int)) = [] := by
          unfold given
          simp
        rw [h0] at h2
        exact ⟨r, _, rfl, .inl (sq_of h2), rfl, k _ e2⟩
theorem ok__law_same (F : FnP K "_law_same" s__law_same f fd) (hb : Binds K fd ["told", "due"] []) (hf : mg "_law_same" = some (.ref f)) (Z : Zs mg) : ∀ n : Nat, FnOk P w K mg base CX0 (n + 2) f fd ["told", "due"] (spSame K n)
  | 0 => ok__law_sameS F Z ⟨f, fd, hf, F, hb, ok__law_same0 F Z⟩
  | n + 1 => ok__law_sameS F Z ⟨f, fd, hf, F, hb, ok__law_same F hb hf Z n⟩
end
end K11

namespace K11
open PySem PySem.Spec PyProof.Rows L2 Evl Own
def spPow : Sp := fun vs H Q _ => ∃ (b : Int) (n : Nat), vs = [.int b, .int (n : Int)] ∧ 0 ≤ b ∧ b ≤ 10 ∧ n ≤ 100 ∧ Q (.int (b ^ n)) H
section
variable {P : Program} {w : World} {K : PySem.W.Frag} {mg : Str → Option Value} {base : Heap} {f : Addr} {fd : FuncData}
theorem ok__law_power (F : FnP K "_law_power" s__law_power f fd) (Z : Zs mg) : FnOk P w K mg base CX0 1 f fd ["base", "times"] spPow := by
  refine F.ok sc__law_power (fun vs H Q E h => ?_) (fun cdv A outer s H vs Q E hr h => ⟨_, PSs.nox (pss_cons (ps_set (i := 2) sc__law_power.nd rfl (by first | exact Or.inl rfl | exact Or.inr rfl) pe_int)
  (pss_cons (ps_for PassesOwn.never rfl (pi_range1 (by rfl) Z.range (pa_cons (pv 1) pa_nil)) (pg_name (i := 3) sc__law_power.nd rfl (by first | exact Or.inl rfl | exact Or.inr rfl)) (pss_one (ps_set (i := 2) sc__law_power.nd rfl (by first | exact Or.inl rfl | exact Or.inr rfl) (pe_op op_mul (pv 2) (pv 0)))))
  (pss_one (ps_ret (pv 2))))), ?_⟩)
  · obtain ⟨b, n, rfl, _⟩ := h
    rfl
  · obtain ⟨b, n, rfl, b0, b1, hn, k⟩ := h
    refine ⟨_, rfl, (n : Int), rfl, by omega, by omega, ?_⟩
    rw [show ((n : Nat) : Int).toNat = n by omega]
    refine for_range (lo := 0) (n := n) (fun i σ H' => H' = H ∧ ∃ v, σ = [some (.int b), some (.int (n : Int)), some (.int (b ^ i)), v]) ⟨rfl, none, by rw [Int.pow_zero]; rfl⟩ (fun i σ H' hi z => ?_) (fun σ H' z => ?_)
    · obtain ⟨rfl, v, rfl⟩ := z
      refine ⟨_, rfl, _, rfl, _, _, rfl, rfl, .inr ⟨by omega, by omega⟩, rfl, some (.int (0 + (i : Int))), ?_⟩
      rw [Int.pow_succ]
      rfl
    · obtain ⟨rfl, v, rfl⟩ := z
      exact ⟨_, rfl, k⟩
/-- Euclid's way, so many turns -/
def euc : Nat → Int → Int → Int × Int
  | 0, a, b => (a, b)
  | n + 1, a, b => if b = 0 then (a, b) else euc n b (a % b)
theorem euc_gcd : ∀ (n : Nat) (a b : Int), 0 ≤ a → 0 ≤ b → Nat.gcd (euc n a b).1.natAbs (euc n a b).2.natAbs = Nat.gcd a.natAbs b.natAbs
  | 0, _, _, _, _ => rfl
  | n + 1, a, b, ha, hb => by
    unfold euc
    by_cases c : b = 0
    · rw [if_pos c]
    · rw [if_neg c, euc_gcd n b (a % b) hb (Int.emod_nonneg _ c)]
      have e : (a % b).natAbs = a.natAbs % b.natAbs := by
        have h1 : ((a % b).natAbs : Int) = ((a.natAbs % b.natAbs : Nat) : Int) := by
          rw [Int.natAbs_of_nonneg (Int.emod_nonneg _ c), Int.natCast_emod, Int.natAbs_of_nonneg ha, Int.natAbs_of_nonneg hb]
        omega
      rw [e, Nat.gcd_comm b.natAbs, ← Nat.gcd_rec, Nat.gcd_comm]
/-- each two turns halve: enough turns end it -/
theorem euc_end : ∀ (n : Nat) (a b : Int), 0 ≤ b → b < a → a < 2 ^ n → (euc (2 * n) a b).2 = 0
  | 0, a, b, hb, ha, h => by
    have : (2 : Int) ^ 0 = 1 := rfl
    omega
  | n + 1, a, b, hb, ha, h => by
    rw [show 2 * (n + 1) = 2 * n + 1 + 1 by omega]
    unfold euc
    by_cases c : b = 0
    · rw [if_pos c, c]
    · rw [if_neg c]
      unfold euc
      have m0 := Int.emod_nonneg a c
      have m1 := Int.emod_lt_of_pos a (show 0 < b by omega)
      by_cases d : a % b = 0
      · rw [if_pos d]
        exact d
      · rw [if_neg d]
        have m2 := Int.emod_nonneg b d
        have m3 := Int.emod_lt_of_pos b (show 0 < a % b by omega)
        refine euc_end n (a % b) (b % (a % b)) m2 m3 ?_
        have e := Int.mul_ediv_add_emod a b
        have q1 : 1 ≤ a / b := Int.le_ediv_of_mul_le (by omega) (by omega)
        have : b * 1 ≤ b * (a / b) := Int.mul_le_mul_of_nonneg_left q1 hb
        have p : (2 : Int) ^ (n + 1) = 2 ^ n * 2 := Int.pow_succ ..
        omega
theorem euc_succ : ∀ (i : Nat) (a b : Int), euc (i + 1) a b = if (euc i a b).2 = 0 then euc i a b else ((euc i a b).2, (euc i a b).1 % (euc i a b).2)
  | 0, a, b => rfl
  | i + 1, a, b => by
    by_cases c : b = 0
    · have e : ∀ j, euc (j + 1) a b = (a, b) := fun j => by
        unfold euc
        rw [if_pos c]
      rw [e, e, if_pos c]
    · have e : ∀ j, euc (j + 1) a b = euc j b (a % b) := fun j => by
        show (if b = 0 then _ else _) = _
        rw [if_neg c]
      rw [e (i + 1), e i]
      exact euc_succ i b (a % b)
theorem euc_nn : ∀ (i : Nat) (a b : Int), 0 ≤ a → 0 ≤ b → 0 ≤ (euc i a b).1 ∧ 0 ≤ (euc i a b).2
  | 0, _, _, ha, hb => ⟨ha, hb⟩
  | i + 1, a, b, ha, hb => by
    unfold euc
    by_cases c : b = 0
    · rw [if_pos c]
      exact ⟨ha, hb⟩
    · rw [if_neg c]
      exact euc_nn i b (a % b) hb (Int.emod_nonneg _ c)
theorem euc_is {a b : Int} {i : Nat} (h : (euc i (if a < 0 then -a else a) (if b < 0 then -b else b)).2 = 0) : (euc i (if a < 0 then -a else a) (if b < 0 then -b else b)).1 = gcdI a b := by
  have n1 : 0 ≤ (if a < 0 then -a else a) := by split <;> omega
  have n2 : 0 ≤ (if b < 0 then -b else b) := by split <;> omega
  have g := euc_gcd i _ _ n1 n2
  have nn := (euc_nn i _ _ n1 n2).1
  rw [h, Int.natAbs_zero, Nat.gcd_zero_right] at g
  have e1 : (if a < 0 then -a else a).natAbs = a.natAbs := by split <;> omega
  have e2 : (if b < 0 then -b else b).natAbs = b.natAbs := by split <;> omega
  rw [e1, e2] at g
  unfold gcdI
  omega
def spGcd : Sp := fun vs H Q _ => ∃ a b : Int, vs = [.int a, .int b] ∧ 0 < b ∧ b < 2 ^ 1999 ∧ Q (.int (gcdI a b)) H
theorem ok__law_gcd (F : FnP K "_law_gcd" s__law_gcd f fd) (Z : Zs mg) : FnOk P w K mg base CX0 1 f fd ["one", "other"] spGcd := by
  refine F.ok sc__law_gcd (fun vs H Q E h => ?_) (fun cdv A outer s H vs Q E hr h => ⟨_, PSs.nox (pss_cons (ps_par (i := 0) (j := 1) rfl sc__law_gcd.nd rfl rfl (by decide) rfl rfl (pa_cons (pe_callB call_abs (by rfl) Z.abs (by decide +kernel) (pa_cons (pv 0) pa_nil)) (pa_cons (pe_callB call_abs (by rfl) Z.abs (by decide +kernel) (pa_cons (pv 1) pa_nil)) pa_nil)) (by rfl))
  (pss_cons (ps_for PassesOwn.never rfl (pi_range1 (by rfl) Z.range (pa_cons pe_int pa_nil)) (pg_name (i := 2) sc__law_gcd.nd rfl (by first | exact Or.inl rfl | exact Or.inr rfl)) (pss_cons (ps_if (pt_cmpR op_eq (pv 1) pe_int (nomark _)) (pss_one ps_break) pss_nil)
  (pss_one (ps_par (i := 0) (j := 1) rfl sc__law_gcd.nd rfl rfl (by decide) rfl rfl (pa_cons (pv 1) (pa_cons (pe_op op_mod (pe_callTy call_int1 (by rfl) Z.int (by decide +kernel) (pa_cons (pv 0) pa_nil)) (pv 1)) pa_nil)) (by rfl)))))
  (pss_one (ps_ret (pv 0))))), ?_⟩)
  · obtain ⟨a, b, rfl, _⟩ := h
    rfl
  · obtain ⟨a, b, rfl, b0, bs, k⟩ := h
    refine ⟨_, rfl, _, rfl, _, rfl, _, rfl, _, _, rfl, ?_⟩
    have eb : (if b < 0 then -b else b) = b := if_neg (by omega)
    have n1 : 0 ≤ (if a < 0 then -a else a) := by split <;> omega
    have fin : (euc 3999 (if a < 0 then -a else a) (if b < 0 then -b else b)).2 = 0 := by
      rw [eb]
      generalize (if a < 0 then -a else a) = A at n1
      show (euc (3998 + 1) A b).2 = 0
      have e : euc (3998 + 1) A b = euc 3998 b (A % b) := by
        show (if b = 0 then _ else _) = _
        rw [if_neg (by omega)]
      rw [e]
      exact euc_end 1999 b (A % b) (Int.emod_nonneg _ (by omega)) (Int.emod_lt_of_pos _ b0) bs
    have fin2 : (euc 4000 (if a < 0 then -a else a) (if b < 0 then -b else b)).2 = 0 := by
      rw [euc_succ 3999, if_pos fin]
      exact fin
    refine ⟨4000, rfl, by decide, by decide, for_range (lo := 0) (n := 4000) (fun i σ H' => H' = H ∧ ∃ v, σ = [some (.int (euc i (if a < 0 then -a else a) (if b < 0 then -b else b)).1), some (.int (euc i (if a < 0 then -a else a) (if b < 0 then -b else b)).2), v]) ⟨rfl, none, rfl⟩ (fun i σ H' hi z => ?_) (fun σ H' z => ?_)⟩
    · obtain ⟨rfl, v, rfl⟩ := z
      have n2 : 0 ≤ (if b < 0 then -b else b) := by split <;> omega
      have nn := euc_nn i _ _ n1 n2
      have es := euc_succ i (if a < 0 then -a else a) (if b < 0 then -b else b)
      have eg := @euc_is a b i
      generalize (if a < 0 then -a else a) = A at nn es eg ⊢
      generalize (if b < 0 then -b else b) = B at nn es eg ⊢
      refine ⟨_, rfl, rfl, _, rfl, ?_⟩
      rw [dec_int]
      by_cases c : (euc i A B).2 = 0
      · rw [c, eg c]
        exact iteT ⟨_, rfl, k⟩
      · rw [if_neg c] at es
        rw [beq_eq_false_iff_ne.mpr c, es]
        refine iteF ⟨_, rfl, _, rfl, .inl ⟨_, rfl, _, rfl, _, _, rfl, rfl, by show 0 < _; omega, _, _, rfl, rfl, some (.int (0 + (i : Int))), rfl⟩⟩
    · obtain ⟨rfl, v, rfl⟩ := z
      rw [euc_is fin2]
      exact ⟨_, rfl, k⟩
def spLFrac (K : PySem.W.Frag) : Sp := fun vs H Q _ => ∃ t b : Int, vs = [.int t, .int b] ∧ 0 < b ∧ b < 2 ^ 1999 ∧ RetU K (pairL (frac b t)) H Q
theorem log_1999 {b : Int} (h0 : 0 < b) (h : b < 2 ^ 1999) : b.natAbs.log2 < 9000 := by
  have h1 : b.natAbs < 2 ^ 1999 := by
    have : (b.natAbs : Int) < ((2 ^ 1999 : Nat) : Int) := by
      rw [Int.natAbs_of_nonneg (by omega), Int.natCast_pow]
      exact h
    exact Int.ofNat_lt.mp this
  have := (Nat.log2_lt (show b.natAbs ≠ 0 by omega)).mpr h1
  omega
theorem ok__law_fraction (F : FnP K "_law_fraction" s__law_fraction f fd) (Z : Zs mg) (G__law_gcd : Fn P w K mg base CX0 1 "_law_gcd" s__law_gcd ["one", "other"] spGcd) : FnOk P w K mg base CX0 2 f fd ["top", "bottom"] (spLFrac K) := by
  refine F.ok sc__law_fraction (fun vs H Q E h => ?_) (fun cdv A outer s H vs Q E hr h => ⟨_, PSs.nox (pss_cons (ps_set (i := 2) sc__law_fraction.nd rfl (by first | exact Or.inl rfl | exact Or.inr rfl) (pe_callF G__law_gcd (hr.mono (by decide)) rfl pass0 (pa_cons (pv 0) (pa_cons (pv 1) pa_nil))))
  (pss_one (ps_ret (pe_tupF (pa_cons (pe_op op_fdivW (pv 0) (pv 2)) (pa_cons (pe_op op_fdivW (pv 1) (pv 2)) pa_nil)))))), ?_⟩)
  · obtain ⟨t, b, rfl, _⟩ := h
    rfl
  · obtain ⟨t, b, rfl, b0, bs, k⟩ := h
    obtain ⟨g0, g1⟩ := gcd_pos (t := t) b0
    have gl : (gcdI t b).natAbs.log2 < 9000 := log2_mono (show (gcdI t b).natAbs ≤ b.natAbs by omega) (log_1999 b0 bs)
    exact ⟨_, rfl, _, rfl, t, b, rfl, b0, bs, _, rfl, _, rfl, _, _, rfl, rfl, ⟨g0, gl⟩, _, rfl, _, rfl, _, _, rfl, rfl, ⟨g0, gl⟩, by show 2 ≤ sizeLine; decide, k.new (Ex.refl _)⟩
end
end K11

namespace K11
open PySem PySem.Spec PyProof.Rows L2 Evl Own
def spLLonger (K : PySem.W.Frag) : Sp := fun vs H Q _ => ∃ (p : Addr) (xs : List Int) (t : Int), vs = [.ref p, .int t] ∧ H p = some (.lst (xs.map V.int)) ∧ -1000 ≤ t ∧ t ≤ 1000 ∧ xs.length ≤ 1000 ∧ RetL ((longerL xs t).map V.int) H Q
section
variable {P : Program} {w : World} {K : PySem.W.Frag} {mg : Str → Option Value} {base : Heap} {f : Addr} {fd : FuncData}
theorem cut_last {zs : List Int} (h : 0 < zs.length) : cutV (zs.map V.int) (some (-1)) none = [V.int (zs.getD (zs.length - 1) 0)] := by
  have e : HT.sIx (zs.map V.int).length 0 (some (-1)) = zs.length - 1 := by
    show (if (-1 : Int) < 0 then ((-1 : Int) + ((zs.map V.int).length : Int)).toNat else min (-1 : Int).toNat (zs.map V.int).length) = _
    rw [if_pos (by decide), List.length_map]
    omega
  have hl : zs.length - 1 < (zs.map V.int).length := by rw [List.length_map]; omega
  unfold cutV
  rw [e, HT.sIx_none, List.drop_eq_getElem_cons hl, List.length_map, show zs.length - (zs.length - 1) = 1 by omega, List.take_one, List.getElem_map, List.getD_eq_getElem?_getD, List.getElem?_eq_getElem (by omega)]
  rfl
theorem longer_split (xs : List Int) (t : Int) : longerL xs t = ((List.range xs.length).map fun k => (0 :: xs.map fun v => t * v).getD k 0 + xs.getD k 0) ++ [(0 :: xs.map fun v => t * v).getD xs.length 0] := by
  unfold longerL
  rw [List.range_succ, List.map_append]
  congr 1
  · apply List.map_congr_left
    intro k hk
    have := List.mem_range.mp hk
    rw [List.getD_eq_getElem?_getD (l := xs ++ [0]), List.getElem?_append_left this, ← List.getD_eq_getElem?_getD]
  · have e : (xs ++ [(0 : Int)]).getD xs.length 0 = 0 := by
      rw [List.getD_eq_getElem?_getD, List.getElem?_append_right (Nat.le_refl _), Nat.sub_self]
      rfl
    rw [List.map_singleton, e, Int.add_zero]
theorem ok__law_longer (F : FnP K "_law_longer" s__law_longer f fd) (Z : Zs mg) : FnOk P w K mg base CX0 1 f fd ["found", "times"] (spLLonger K) := by
  refine F.ok sc__law_longer (fun vs H Q E h => ?_) (fun cdv A outer s H vs Q E hr h => ⟨_, PSs.nox (pss_cons (ps_set (i := 2) sc__law_longer.nd rfl (by first | exact Or.inl rfl | exact Or.inr rfl) (pe_op op_cat (pe_lst (pa_cons pe_int pa_nil)) (pe_lc (own := [("one", 3)]) (g := (gName 3)) rfl sc__law_longer.nd (pi_list (pv 0)) (blkOk_by (own := [("one", 3)]) (N := ["found", "times", "late", "one", "at"]) (sc := defScope s__law_longer) (by decide +kernel)) (fun _ _ _ _ _ => (pg_name (i := 3) sc__law_longer.nd rfl (Or.inl rfl))) (fun _ _ _ _ _ => pts_nil) (fun _ _ _ _ _ => (pe_op op_mul (pv 1) (pv 3))))))
  (pss_one (ps_ret (pe_op op_cat (pe_lc (own := [("at", 4)]) (g := (gName 4)) rfl sc__law_longer.nd (pi_range1 (by rfl) Z.range (pa_cons (pe_callB (kc_len (K := K)) (by rfl) Z.len PySem.boot_len (pa_cons (pv 0) pa_nil)) pa_nil)) (blkOk_by (own := [("at", 4)]) (N := ["found", "times", "late", "one", "at"]) (sc := defScope s__law_longer) (by decide +kernel)) (fun _ _ _ _ _ => (pg_name (i := 4) sc__law_longer.nd rfl (Or.inl rfl))) (fun _ _ _ _ _ => pts_nil) (fun _ _ _ _ _ => (pe_op op_add (pe_ix (kx_list (K := K)) (pv 2) (pv 4) (fun _ _ => rfl)) (pe_ix (kx_list (K := K)) (pv 0) (pv 4) (fun _ _ => rfl))))) (pe_slice (ksl_list (K := K)) (pv 2) (po_some (pe_un un_neg pe_int)) po_none))))), ?_⟩)
  · obtain ⟨p, xs, t, rfl, _⟩ := h
    rfl
  · obtain ⟨p, xs, t, rfl, hp, t0, t1, few, k⟩ := h
    refine ⟨by decide, fun z hz => ?_⟩
    have ez := Ex.new (o := .lst [V.int 0]) hz
    refine ⟨_, rfl, p, rfl, ⟨_, sq_of (ez _ _ hp)⟩, lcP (walk_list (xs := xs.map V.int)) (fun H' e => sq_of (e _ _ (ez _ _ hp))) (by rw [List.length_map]; omega) (fun _ => true) (fun i => V.int (t * xs.getD i 0)) (fun i H1 x H2 hi e y K1 K0 k1 k0 => ?_) (fun d H2 hd e2 h2 => ?_)⟩
    · obtain ⟨rfl, g⟩ := y
      obtain ⟨rfl, _⟩ := int_at g
      exact ⟨rfl, yes_go ⟨_, rfl, _, rfl, _, _, rfl, rfl, .inl ⟨by omega, by omega⟩, k1 rfl _ (Ex.refl _)⟩⟩
    rw [given_all, List.length_map, range_map 0 (fun x => V.int (t * x)), show (xs.map fun x => V.int (t * x)) = (xs.map fun x => t * x).map V.int by rw [List.map_map]; rfl] at h2
    refine ⟨z, d, [V.int 0], (xs.map fun x => t * x).map V.int, rfl, rfl, e2 _ _ upd_same, h2, Nat.le_of_lt (sz_lt (by simp only [List.length_map, List.length_singleton]; omega)), fun a ha => ?_⟩
    have ea := Ex.new (o := .lst ([V.int 0] ++ (xs.map fun x => t * x).map V.int)) ha
    have ha' : upd H2 a (.lst ([V.int 0] ++ (xs.map fun x => t * x).map V.int)) a = some (.lst ((0 :: xs.map fun x => t * x).map V.int)) := upd_same
    generalize upd H2 a (.lst ([V.int 0] ++ (xs.map fun x => t * x).map V.int)) = H3 at ea ha' ⊢
    have e3 := ez.trans (e2.trans ea)
    have hp3 := e3 _ _ hp
    have ll : (0 :: xs.map fun x => t * x).length = xs.length + 1 := by rw [List.length_cons, List.length_map]
    refine ⟨_, rfl, p, _, rfl, .inl (sq_of hp3), _, rfl, by omega, by rw [List.length_map]; omega, ?_⟩
    rw [show (((xs.map V.int).length : Nat) : Int).toNat = xs.length by rw [List.length_map]; omega]
    refine lcP (walk_range (lo := 0)) (fun _ _ => trivial) (by omega) (fun _ => true) (fun i => V.int ((0 :: xs.map fun v => t * v).getD i 0 + xs.getD i 0)) (fun i H5 x H6 hi e y K1 K0 k1 k0 => ?_) (fun b H6 hb e6 h6 => ?_)
    · obtain ⟨rfl, rfl⟩ := y
      have e0 : (0 : Int) + (i : Int) = (i : Int) := by omega
      show gName _ (V.int ((0 : Int) + (i : Int))) _ _ _
      rw [e0]
      exact ⟨rfl, yes_go ⟨_, rfl, _, rfl, a, _, _, _, rfl, rfl, sq_of (e _ _ ha'), atI_int (by omega), _, rfl, _, rfl, p, _, _, _, rfl, rfl, sq_of (e _ _ hp3), atI_int hi, _, _, rfl, rfl, k1 rfl _ (Ex.refl _)⟩⟩
    · rw [given_all] at h6
      have he : (List.range xs.length).map (fun i => V.int ((0 :: xs.map fun v => t * v).getD i 0 + xs.getD i 0)) = ((List.range xs.length).map fun k => (0 :: xs.map fun v => t * v).getD k 0 + xs.getD k 0).map V.int := by
        rw [List.map_map]
        rfl
      rw [he] at h6
      refine ⟨_, rfl, _, rfl, _, rfl, a, _, rfl, sq_of (e6 _ _ ha'), fun c hc => ?_⟩
      dsimp only
      rw [cut_last (by omega), ll, Nat.add_sub_cancel]
      have ec := Ex.new (o := .lst [V.int ((0 :: xs.map fun x => t * x).getD xs.length 0)]) hc
      refine ⟨b, c, _, _, rfl, rfl, ec _ _ h6, upd_same, Nat.le_of_lt (sz_lt (by simp only [List.length_map, List.length_range, List.length_singleton]; omega)), fun g hg => ?_⟩
      have eg := Ex.new (o := .lst (((List.range xs.length).map fun k => (0 :: xs.map fun v => t * v).getD k 0 + xs.getD k 0).map V.int ++ [V.int ((0 :: xs.map fun x => t * x).getD xs.length 0)])) hg
      have ex := e3.trans (e6.trans ec)
      refine k g _ (fresh_back ex hg) (ex.trans eg) ?_
      rw [upd_same, longer_split, List.map_append]
      rfl
end
end K11

namespace K11
open PySem PySem.Spec PyProof.Rows L2 Evl Own
def mulIn (xs ys acc : List Int) (a : Nat) : Nat → List Int
  | 0 => acc
  | j + 1 => (mulIn xs ys acc a j).set (a + j) ((mulIn xs ys acc a j).getD (a + j) 0 + xs.getD a 0 * ys.getD j 0)
def mulUp (xs ys : List Int) : Nat → List Int
  | 0 => List.replicate (xs.length + ys.length - 1) 0
  | i + 1 => mulIn xs ys (mulUp xs ys i) i ys.length
theorem mulIn_len (xs ys acc : List Int) (a : Nat) : ∀ j, (mulIn xs ys acc a j).length = acc.length
  | 0 => rfl
  | j + 1 => by
    show ((mulIn xs ys acc a j).set _ _).length = _
    rw [List.length_set, mulIn_len xs ys acc a j]
theorem mulUp_len (xs ys : List Int) : ∀ i, (mulUp xs ys i).length = xs.length + ys.length - 1
  | 0 => List.length_replicate ..
  | i + 1 => by
    show (mulIn _ _ _ _ _).length = _
    rw [mulIn_len, mulUp_len xs ys i]
def spTimesL (K : PySem.W.Frag) : Sp := fun vs H Q _ => ∃ (p r : Addr) (xs ys : List Int), vs = [.ref p, .ref r] ∧ H p = some (.lst (xs.map V.int)) ∧ H r = some (.lst (ys.map V.int)) ∧ 0 < xs.length ∧ xs.length ≤ 100 ∧ 0 < ys.length ∧ ys.length ≤ 100 ∧ (∀ y ∈ ys, y.natAbs < 2 ^ 64) ∧ RetL ((mulUp xs ys xs.length).map V.int) H Q
section
variable {P : Program} {w : World} {K : PySem.W.Frag} {mg : Str → Option Value} {base : Heap} {f : Addr} {fd : FuncData}
theorem ok__law_times (F : FnP K "_law_times" s__law_times f fd) (Z : Zs mg) : FnOk P w K mg base CX0 1 f fd ["one", "other"] (spTimesL K) := by
  refine F.ok sc__law_times (fun vs H Q E h => ?_) (fun cdv A outer s H vs Q E hr h => ⟨_, PSs.nox (pss_cons (ps_set (i := 2) sc__law_times.nd rfl (by first | exact Or.inl rfl | exact Or.inr rfl) (pe_op op_rep (pe_lst (pa_cons pe_int pa_nil)) (pe_op op_sub (pe_op op_add (pe_callB (kc_len (K := K)) (by rfl) Z.len PySem.boot_len (pa_cons (pv 0) pa_nil)) (pe_callB (kc_len (K := K)) (by rfl) Z.len PySem.boot_len (pa_cons (pv 1) pa_nil))) pe_int)))
  (pss_cons (ps_for PassesOwn.never rfl (pi_range1 (by rfl) Z.range (pa_cons (pe_callB (kc_len (K := K)) (by rfl) Z.len PySem.boot_len (pa_cons (pv 0) pa_nil)) pa_nil)) (pg_name (i := 3) sc__law_times.nd rfl (by first | exact Or.inl rfl | exact Or.inr rfl)) (pss_one (ps_for PassesOwn.never rfl (pi_range1 (by rfl) Z.range (pa_cons (pe_callB (kc_len (K := K)) (by rfl) Z.len PySem.boot_len (pa_cons (pv 1) pa_nil)) pa_nil)) (pg_name (i := 4) sc__law_times.nd rfl (by first | exact Or.inl rfl | exact Or.inr rfl)) (pss_one (ps_augS (pv 2) (pe_op op_add (pv 3) (pv 4)) (kget_list (K := K)) (pe_op op_mul (pe_ix (kx_list (K := K)) (pv 0) (pv 3) (fun _ _ => rfl)) (pe_ix (kx_list (K := K)) (pv 1) (pv 4) (fun _ _ => rfl))) ip_add set_list)))))
  (pss_one (ps_ret (pv 2))))), ?_⟩)
  · obtain ⟨p, r, xs, ys, rfl, _⟩ := h
    rfl
  · obtain ⟨p, r, xs, ys, rfl, hp, hr', x0, x1, y0, y1, sm, k⟩ := h
    refine ⟨by decide, fun z hz => ?_⟩
    have ez := Ex.new (o := .lst [V.int 0]) hz
    refine ⟨_, rfl, p, _, rfl, .inl (sq_of (ez _ _ hp)), _, rfl, r, _, rfl, .inl (sq_of (ez _ _ hr')), _, _, rfl, rfl, _, _, rfl, rfl, ?_⟩
    rw [List.length_map, List.length_map]
    have ln : ((xs.length : Int) + (ys.length : Int)) - 1 = ((xs.length + ys.length - 1 : Nat) : Int) := by omega
    show rRep (.ref z) (.int (((xs.length : Int) + (ys.length : Int)) - 1)) _ _
    rw [ln]
    refine rep_lst upd_same (by omega) fun L hL => ?_
    have HL : H L = none := fresh_back ez hL
    have e1 := ez.trans (Ex.new (o := .lst (List.replicate (xs.length + ys.length - 1) (V.int 0))) hL)
    have h1 : upd (upd H z (.lst [V.int 0])) L (.lst (List.replicate (xs.length + ys.length - 1) (V.int 0))) L = some (.lst ((mulUp xs ys 0).map V.int)) := by
      rw [upd_same]
      show _ = some (HO.lst ((List.replicate (xs.length + ys.length - 1) (0 : Int)).map V.int))
      rw [List.map_replicate]
    generalize upd (upd H z (.lst [V.int 0])) L (.lst (List.replicate (xs.length + ys.length - 1) (V.int 0))) = H1 at e1 h1 ⊢
    refine ⟨_, rfl, p, _, rfl, .inl (sq_of (e1 _ _ hp)), _, rfl, by omega, by rw [List.length_map]; omega, ?_⟩
    rw [show (((xs.map V.int).length : Nat) : Int).toNat = xs.length by rw [List.length_map]; omega]
    refine for_range (lo := 0) (n := xs.length) (fun i σ H' => Ex H H' ∧ H' L = some (.lst ((mulUp xs ys i).map V.int)) ∧ ∃ v1 v2, σ = [some (.ref p), some (.ref r), some (.ref L), v1, v2]) ⟨e1, h1, none, none, rfl⟩ (fun i σ H' hi y => ?_) (fun σ H' y => ?_)
    · obtain ⟨ex, hL', v1, v2, rfl⟩ := y
      have e0 : (0 : Int) + (i : Int) = (i : Int) := by omega
      show gName _ (V.int ((0 : Int) + (i : Int))) _ _ _
      rw [e0]
      refine ⟨_, rfl, r, _, rfl, .inl (sq_of (ex _ _ hr')), _, rfl, by omega, by rw [List.length_map]; omega, ?_⟩
      rw [show (((ys.map V.int).length : Nat) : Int).toNat = ys.length by rw [List.length_map]; omega]
      have ul := mulUp_len xs ys i
      refine for_range (lo := 0) (n := ys.length) (fun j σ H' => Ex H H' ∧ H' L = some (.lst ((mulIn xs ys (mulUp xs ys i) i j).map V.int)) ∧ ∃ v2, σ = [some (.ref p), some (.ref r), some (.ref L), some (.int (i : Int)), v2]) ⟨ex, hL', v2, rfl⟩ (fun j σ H' hj y => ?_) (fun σ H' y => ?_)
      · obtain ⟨ex, hL', v2, rfl⟩ := y
        have e0 : (0 : Int) + (j : Int) = (j : Int) := by omega
        show gName _ (V.int ((0 : Int) + (j : Int))) _ _ _
        rw [e0]
        have small := sm _ (Own.getD_mem hj)
        have ja : i + j < (mulIn xs ys (mulUp xs ys i) i j).length := by rw [mulIn_len]; omega
        have ia : atI ((mulIn xs ys (mulUp xs ys i) i j).map V.int) ((i : Int) + (j : Int)) = some (.int ((mulIn xs ys (mulUp xs ys i) i j).getD (i + j) 0)) := by
          rw [show (i : Int) + (j : Int) = ((i + j : Nat) : Int) by omega]
          exact atI_int ja
        have ib : ixN ((mulIn xs ys (mulUp xs ys i) i j).map V.int).length ((i : Int) + (j : Int)) = some (i + j) := by
          rw [show (i : Int) + (j : Int) = ((i + j : Nat) : Int) by omega]
          exact ixN_nat (by rw [List.length_map]; exact ja)
        refine ⟨_, rfl, _, rfl, _, rfl, _, _, rfl, rfl, L, _, _, _, rfl, rfl, sq_of hL', ia, _, rfl, _, rfl, p, _, _, _, rfl, rfl, sq_of (ex _ _ hp), atI_int hi, _, rfl, _, rfl, r, _, _, _, rfl, rfl, sq_of (ex _ _ hr'), atI_int hj, _, _, rfl, rfl, .inr ⟨by omega, by omega⟩, _, _, rfl, rfl, L, _, _, _, rfl, rfl, hL', ib, ?_⟩
        rw [int_set]
        exact ⟨ex_side ex HL, upd_same, _, rfl⟩
      · obtain ⟨ex, hL', v2, rfl⟩ := y
        exact ⟨ex, hL', _, _, rfl⟩
    · obtain ⟨ex, hL', v1, v2, rfl⟩ := y
      exact ⟨_, rfl, k L H' HL ex hL'⟩
end
end K11

namespace K11
open PySem PySem.Spec PyProof.Rows L2 Evl Own
/-- from the greatest place on: the sum so far, and the power so far -/
def hornR (q : Int) (ns : List Int) : Nat → List Int × List Int
  | 0 => ([ns.getD (ns.length - 1) 0], [1])
  | k + 1 =>
    let g := longerL (hornR q ns k).2 (q - 1)
    let f := longerL (hornR q ns k).1 (-1)
    ((List.range f.length).map fun at_ => f.getD at_ 0 + ns.getD (ns.length - 2 - k) 0 * g.getD at_ 0, g)
theorem horn_len (q : Int) (ns : List Int) : ∀ k, (hornR q ns k).1.length = k + 1 ∧ (hornR q ns k).2.length = k + 1
  | 0 => ⟨rfl, rfl⟩
  | k + 1 => by
    have := horn_len q ns k
    constructor
    · show ((List.range (longerL (hornR q ns k).1 (-1)).length).map _).length = _
      rw [List.length_map, List.length_range, longer_len, this.1]
    · show (longerL (hornR q ns k).2 (q - 1)).length = _
      rw [longer_len, this.2]
theorem horn_row (q : Int) (ns : List Int) : ∀ k, (hornR q ns k).2 = stepRow q 0 k
  | 0 => rfl
  | k + 1 => by
    show longerL (hornR q ns k).2 (q - 1) = longerL (stepRow q 0 k) (if k < 0 then -1 else q - 1)
    rw [horn_row q ns k, if_neg (by omega)]
def spLTops (K : PySem.W.Frag) : Sp := fun vs H Q _ => ∃ (q : Int) (p : Addr) (ns : List Int), vs = [.int q, .ref p] ∧ 2 ≤ q ∧ q ≤ 3 ∧ H p = some (.lst (ns.map V.int)) ∧ 0 < ns.length ∧ ns.length ≤ 25 ∧ RetL ((hornR q ns (ns.length - 1)).1.map V.int) H Q
section
variable {P : Program} {w : World} {K : PySem.W.Frag} {mg : Str → Option Value} {base : Heap} {f : Addr} {fd : FuncData}
theorem ok__law_tops (F : FnP K "_law_tops" s__law_tops f fd) (Z : Zs mg) (G__law_longer : Fn P w K mg base CX0 1 "_law_longer" s__law_longer ["found", "times"] (spLLonger K)) : FnOk P w K mg base CX0 2 f fd ["letters", "numbers"] (spLTops K) := by
  refine F.ok sc__law_tops (fun vs H Q E h => ?_) (fun cdv A outer s H vs Q E hr h => ⟨_, PSs.nox (pss_cons (ps_asg (pe_tupF (pa_cons (pe_lst (pa_cons (pe_ix (kx_list (K := K)) (pv 1) (pe_un un_neg pe_int) (fun _ _ => rfl)) pa_nil)) (pa_cons (pe_lst (pa_cons pe_int pa_nil)) pa_nil))) (pg_tup rfl (pgs_cons (pg_name (i := 2) sc__law_tops.nd rfl (by first | exact Or.inl rfl | exact Or.inr rfl)) (pgs_cons (pg_name (i := 3) sc__law_tops.nd rfl (by first | exact Or.inl rfl | exact Or.inr rfl)) pgs_nil))))
  (pss_cons (ps_for PassesOwn.never rfl (pi_range3 (by rfl) Z.range (pa_cons (pe_op op_sub (pe_callB (kc_len (K := K)) (by rfl) Z.len PySem.boot_len (pa_cons (pv 1) pa_nil)) pe_int) (pa_cons (pe_un un_neg pe_int) (pa_cons (pe_un un_neg pe_int) pa_nil)))) (pg_name (i := 4) sc__law_tops.nd rfl (by first | exact Or.inl rfl | exact Or.inr rfl)) (pss_cons (ps_set (i := 3) sc__law_tops.nd rfl (by first | exact Or.inl rfl | exact Or.inr rfl) (pe_callF G__law_longer (hr.mono (by decide)) rfl pass0 (pa_cons (pv 3) (pa_cons (pe_op op_sub (pv 0) pe_int) pa_nil))))
  (pss_cons (ps_set (i := 2) sc__law_tops.nd rfl (by first | exact Or.inl rfl | exact Or.inr rfl) (pe_callF G__law_longer (hr.mono (by decide)) rfl pass0 (pa_cons (pv 2) (pa_cons (pe_un un_neg pe_int) pa_nil))))
  (pss_one (ps_set (i := 2) sc__law_tops.nd rfl (by first | exact Or.inl rfl | exact Or.inr rfl) (pe_lc (own := [("at", 5)]) (g := (gName 5)) rfl sc__law_tops.nd (pi_range1 (by rfl) Z.range (pa_cons (pe_callB (kc_len (K := K)) (by rfl) Z.len PySem.boot_len (pa_cons (pv 2) pa_nil)) pa_nil)) (blkOk_by (own := [("at", 5)]) (N := ["letters", "numbers", "found", "grown", "x", "at"]) (sc := defScope s__law_tops) (by decide +kernel)) (fun _ _ _ _ _ => (pg_name (i := 5) sc__law_tops.nd rfl (Or.inl rfl))) (fun _ _ _ _ _ => pts_nil) (fun _ _ _ _ _ => (pe_op op_add (pe_ix (kx_list (K := K)) (pv 2) (pv 5) (fun _ _ => rfl)) (pe_op op_mul (pe_ix (kx_list (K := K)) (pv 1) (pv 4) (fun _ _ => rfl)) (pe_ix (kx_list (K := K)) (pv 3) (pv 5) (fun _ _ => rfl)))))))))))
  (pss_one (ps_ret (pv 2))))), ?_⟩)
  · obtain ⟨q, p, ns, rfl, _⟩ := h
    rfl
  · obtain ⟨q, p, ns, rfl, q0, q1, hp, n0, n1, k⟩ := h
    dsimp only
    have at1 : atI (ns.map V.int) (-1) = some (.int (ns.getD (ns.length - 1) 0)) := by
      rcases cases_last ns with e | ⟨ds, x, e⟩
      · subst e
        exact absurd n0 (by decide)
      · subst e
        rw [at_last, List.getD_eq_getElem?_getD, List.length_append, List.length_singleton, Nat.add_sub_cancel, List.getElem?_append_right (Nat.le_refl _), Nat.sub_self]
        rfl
    refine ⟨_, rfl, _, rfl, p, _, _, _, rfl, rfl, sq_of hp, at1, (show 1 ≤ sizeLine by decide), fun a ha => ⟨by decide, fun b hb => ⟨(show 2 ≤ sizeLine by decide), fun T o hT ho => ⟨T, _, rfl, (Tp.of ho upd_same).sq, rfl, _, _, rfl, _, _, rfl, rfl, ?_⟩⟩⟩⟩
    have e1 := (Ex.new (o := .lst [.int (ns.getD (ns.length - 1) 0)]) ha)
    have e2 := Ex.new (o := .lst [.int 1]) hb
    have e3 := Ex.new (o := .frz o (.tup [.ref a, .ref b])) hT
    have ha1 := e3 _ _ (e2 _ _ (upd_same (H := H) (a := a) (o := .lst [.int (ns.getD (ns.length - 1) 0)])))
    have hb1 := e3 _ _ (upd_same (H := upd H a (.lst [.int (ns.getD (ns.length - 1) 0)])) (a := b) (o := .lst [.int 1]))
    have e4 := e1.trans (e2.trans e3)
    generalize upd (upd (upd H a (.lst [.int (ns.getD (ns.length - 1) 0)])) b (.lst [.int 1])) T (.frz o (.tup [.ref a, .ref b])) = H1 at ha1 hb1 e4 ⊢
    have cnt : (((ns.length : Int) - 2) - (-1)).toNat = ns.length - 1 := by omega
    refine ⟨_, rfl, p, _, rfl, .inl (sq_of (e4 _ _ hp)), _, _, rfl, rfl, _, rfl, _, rfl, _, _, _, ns.length - 1, rfl, by rw [← cnt, List.length_map]; exact RgC.neg (by omega) (by omega) (by decide) (by decide), ?_⟩
    refine for_rangeC (n := ns.length - 1) (fun i σ H' => Ex H H' ∧ ∃ r s v1 v2, H r = none ∧ H' r = some (.lst ((hornR q ns i).1.map V.int)) ∧ H' s = some (.lst ((hornR q ns i).2.map V.int)) ∧ σ = [some (.int q), some (.ref p), some (.ref r), some (.ref s), v1, v2]) ⟨e4, a, b, _, _, ha, ha1, hb1, rfl⟩ (fun i σ H' hi y => ?_) (fun σ H' y => ?_)
    · obtain ⟨ex, r, s, v1, v2, Hr, hr', hs', rfl⟩ := y
      have hl := horn_len q ns i
      have e0 : ((ns.map V.int).length : Int) - 2 + (i : Int) * -1 = ((ns.length - 2 - i : Nat) : Int) := by rw [List.length_map]; omega
      show gName _ (V.int (((ns.map V.int).length : Int) - 2 + (i : Int) * -1)) _ _ _
      rw [e0]
      refine ⟨_, rfl, _, rfl, _, _, rfl, rfl, s, (hornR q ns i).2, q - 1, rfl, hs', by omega, by omega, by omega, fun g H2 hg e5 h2 => ?_⟩
      refine ⟨_, rfl, _, rfl, r, (hornR q ns i).1, -1, rfl, e5 _ _ hr', by decide, by decide, by omega, fun t H3 ht e6 h3 => ?_⟩
      have ex6 := ex.trans (e5.trans e6)
      have gl : (longerL (hornR q ns i).2 (q - 1)).length = i + 2 := by rw [longer_len, hl.2]
      have fl : (longerL (hornR q ns i).1 (-1)).length = i + 2 := by rw [longer_len, hl.1]
      have gs : ∀ v ∈ longerL (hornR q ns i).2 (q - 1), v.natAbs < 2 ^ 64 := by
        have e : longerL (hornR q ns i).2 (q - 1) = stepRow q 0 (i + 1) := horn_row q ns (i + 1)
        rw [e]
        exact fun v hv => row_64 q0 q1 (by omega) hv
      have et : hornR q ns (i + 1) = ((List.range (longerL (hornR q ns i).1 (-1)).length).map fun at_ => (longerL (hornR q ns i).1 (-1)).getD at_ 0 + ns.getD (ns.length - 2 - i) 0 * (longerL (hornR q ns i).2 (q - 1)).getD at_ 0, longerL (hornR q ns i).2 (q - 1)) := rfl
      rw [et]
      generalize longerL (hornR q ns i).2 (q - 1) = G at h2 gl gs ⊢
      generalize longerL (hornR q ns i).1 (-1) = F at h3 fl ⊢
      refine ⟨_, rfl, t, _, rfl, .inl (sq_of h3), _, rfl, by omega, by rw [List.length_map]; omega, ?_⟩
      rw [show (((F.map V.int).length : Nat) : Int).toNat = F.length by rw [List.length_map]; omega]
      refine lcP (walk_range (lo := 0)) (fun _ _ => trivial) (by omega) (fun _ => true) (fun j => V.int (F.getD j 0 + ns.getD (ns.length - 2 - i) 0 * G.getD j 0)) (fun j H5 x H6 hj e y K1 K0 k1 k0 => ?_) (fun d H6 hd e7 h7 => ?_)
      · obtain ⟨rfl, rfl⟩ := y
        have e0 : (0 : Int) + (j : Int) = (j : Int) := by omega
        show gName _ (V.int ((0 : Int) + (j : Int))) _ _ _
        rw [e0]
        have small := gs _ (Own.getD_mem (show j < G.length by omega))
        exact ⟨rfl, yes_go ⟨_, rfl, _, rfl, t, _, _, _, rfl, rfl, sq_of (e _ _ h3), atI_int hj, _, rfl, _, rfl, p, _, _, _, rfl, rfl, sq_of (e _ _ (ex6 _ _ hp)), atI_int (by omega), _, rfl, _, rfl, g, _, _, _, rfl, rfl, sq_of (e _ _ (e6 _ _ h2)), atI_int (by omega), _, _, rfl, rfl, .inr ⟨by omega, by omega⟩, _, _, rfl, rfl, k1 rfl _ (Ex.refl _)⟩⟩
      · rw [given_all] at h7
        refine ⟨ex6.trans e7, d, g, _, _, fresh_back ex6 hd, ?_, e7 _ _ (e6 _ _ h2), rfl⟩
        rw [h7, List.map_map]
        rfl
    · obtain ⟨ex, r, s, v1, v2, Hr, hr', hs', rfl⟩ := y
      exact ⟨_, rfl, k r H' Hr ex hr'⟩
end
end K11

namespace K11
open PySem PySem.Spec PyProof.Rows L2 Evl Own
def pasc (top : Nat) : Nat → List Int
  | 0 => 1 :: List.replicate top 0
  | i + 1 => 1 :: (List.range top).map fun p => (pasc top i).getD p 0 + (pasc top i).getD (p + 1) 0
theorem pasc_len (top : Nat) : ∀ i, (pasc top i).length = top + 1
  | 0 => by
    show (1 :: List.replicate top 0).length = _
    rw [List.length_cons, List.length_replicate]
  | i + 1 => by
    show (1 :: (List.range top).map _).length = _
    rw [List.length_cons, List.length_map, List.length_range]
/-- the rows of the table lie there -/
def Tab (top n : Nat) (L : Addr) (H0 H : Hp) : Prop := ∃ es : List Addr, H L = some (.lst (es.map V.ref)) ∧ es.length = n ∧ ∀ i e, es[i]? = some e → (e ≠ L ∧ H0 e = none) ∧ H e = some (.lst ((pasc top i).map V.int))
theorem Tab.ex {top n : Nat} {L : Addr} {H0 H H1 : Hp} (t : Tab top n L H0 H) (e : Ex H H1) : Tab top n L H0 H1 := by
  obtain ⟨es, h1, h2, h3⟩ := t
  exact ⟨es, e _ _ h1, h2, fun i a h => ⟨(h3 i a h).1, e _ _ (h3 i a h).2⟩⟩
theorem Tab.at {top n i : Nat} {L : Addr} {H0 H : Hp} (t : Tab top n L H0 H) (h : i < n) : ∃ (es : List Addr) (e : Addr), H L = some (.lst (es.map V.ref)) ∧ atI (es.map V.ref) (i : Int) = some (.ref e) ∧ H e = some (.lst ((pasc top i).map V.int)) := by
  obtain ⟨es, h1, h2, h3⟩ := t
  have hi : i < es.length := by omega
  have := h3 i es[i] (List.getElem?_eq_getElem hi)
  refine ⟨es, es[i], h1, atI_nat ?_, this.2⟩
  rw [List.getElem?_map, List.getElem?_eq_getElem hi]
  rfl
def spPascal : Sp := fun vs H Q _ => ∃ (top : Nat), vs = [.int top] ∧ top ≤ 100 ∧ ∀ L H2, H L = none → Ex H H2 → Tab top (top + 1) L H H2 → Q (.ref L) H2
section
variable {P : Program} {w : World} {K : PySem.W.Frag} {mg : Str → Option Value} {base : Heap} {f : Addr} {fd : FuncData}
theorem ok__law_pascal (F : FnP K "_law_pascal" s__law_pascal f fd) (Z : Zs mg) : FnOk P w K mg base CX0 1 f fd ["top"] spPascal := by
  refine F.ok sc__law_pascal (fun vs H Q E h => ?_) (fun cdv A outer s H vs Q E hr h => ⟨_, PSs.nox (pss_cons (ps_set (i := 1) sc__law_pascal.nd rfl (by first | exact Or.inl rfl | exact Or.inr rfl) (pe_lst (pa_cons (pe_op op_cat (pe_lst (pa_cons pe_int pa_nil)) (pe_op op_rep (pe_lst (pa_cons pe_int pa_nil)) (pv 0))) pa_nil)))
  (pss_cons (ps_for PassesOwn.never rfl (pi_range1 (by rfl) Z.range (pa_cons (pv 0) pa_nil)) (pg_name (i := 2) sc__law_pascal.nd rfl (by first | exact Or.inl rfl | exact Or.inr rfl)) (pss_one (ps_expr (km_bm (K := K) PySem.F.plainAttrs_list PySem.F.slot_list_append PySem.F.type_list_append mt_append (pv 1) (pa_cons (pe_op op_cat (pe_lst (pa_cons pe_int pa_nil)) (pe_lc (own := [("place", 3)]) (g := (gName 3)) rfl sc__law_pascal.nd (pi_range1 (by rfl) Z.range (pa_cons (pv 0) pa_nil)) (blkOk_by (own := [("place", 3)]) (N := ["top", "rows", "at", "place"]) (sc := defScope s__law_pascal) (by decide +kernel)) (fun _ _ _ _ _ => (pg_name (i := 3) sc__law_pascal.nd rfl (Or.inl rfl))) (fun _ _ _ _ _ => pts_nil) (fun _ _ _ _ _ => (pe_op op_add (pe_ix (kx_list (K := K)) (pe_ix (kx_list (K := K)) (pv 1) (pv 2) (fun _ _ => rfl)) (pv 3) (fun _ _ => rfl)) (pe_ix (kx_list (K := K)) (pe_ix (kx_list (K := K)) (pv 1) (pv 2) (fun _ _ => rfl)) (pe_op op_add (pv 3) pe_int) (fun _ _ => rfl)))))) pa_nil)))))
  (pss_one (ps_ret (pv 1))))), ?_⟩)
  · obtain ⟨top, rfl, _⟩ := h
    rfl
  · obtain ⟨top, rfl, ht, k⟩ := h
    refine ⟨by decide, fun a ha => ⟨by decide, fun b hb => ⟨_, rfl, ?_⟩⟩⟩
    have ea := Ex.new (o := .lst [V.int 1]) ha
    have eb := Ex.new (o := .lst [V.int 0]) hb
    refine rep_lst upd_same (by omega) fun c hc => ?_
    have ec := Ex.new (o := .lst (List.replicate top (V.int 0))) hc
    have e3 := ea.trans (eb.trans ec)
    have ha3 := ec _ _ (eb _ _ (upd_same (H := H) (a := a) (o := .lst [V.int 1])))
    have hc3 : upd (upd (upd H a (.lst [V.int 1])) b (.lst [V.int 0])) c (.lst (List.replicate top (V.int 0))) c = some (.lst (List.replicate top (V.int 0))) := upd_same
    generalize upd (upd (upd H a (.lst [V.int 1])) b (.lst [V.int 0])) c (.lst (List.replicate top (V.int 0))) = H1 at e3 ha3 hc3 ⊢
    refine ⟨a, c, _, _, rfl, rfl, ha3, hc3, Nat.le_of_lt (sz_lt (by simp only [List.length_replicate, List.length_singleton]; omega)), fun d hd => ?_⟩
    have ed := Ex.new (o := .lst ([V.int 1] ++ List.replicate top (V.int 0))) hd
    have Hd : H d = none := fresh_back e3 hd
    have hd2 : upd H1 d (.lst ([V.int 1] ++ List.replicate top (V.int 0))) d = some (.lst ((pasc top 0).map V.int)) := by
      rw [upd_same]
      show _ = some (HO.lst (V.int 1 :: (List.replicate top (0 : Int)).map V.int))
      rw [List.map_replicate]
      rfl
    generalize upd H1 d (.lst ([V.int 1] ++ List.replicate top (V.int 0))) = H2 at ed hd2 ⊢
    refine ⟨by show 1 ≤ sizeLine; decide, fun L hL => ?_⟩
    have e4 := e3.trans ed
    have HL : H L = none := fresh_back e4 hL
    have eL := Ex.new (o := .lst [V.ref d]) hL
    have tab1 : Tab top 1 L H (upd H2 L (.lst [V.ref d])) := by
      refine ⟨[d], upd_same, rfl, fun i e h => ?_⟩
      cases i with
      | zero =>
        cases h
        refine ⟨⟨fun z => ?_, Hd⟩, eL _ _ hd2⟩
        rw [z, hL] at hd2
        cases hd2
      | succ i => cases h
    have e5 := e4.trans eL
    generalize upd H2 L (.lst [V.ref d]) = H3 at e5 tab1 ⊢
    refine ⟨_, rfl, (top : Int), rfl, by omega, by omega, ?_⟩
    rw [show ((top : Nat) : Int).toNat = top by omega]
    refine for_range (lo := 0) (n := top) (fun i σ H' => Ex H H' ∧ Tab top (i + 1) L H H' ∧ ∃ v1 v2, σ = [some (.int (top : Int)), some (.ref L), v1, v2]) ⟨e5, tab1, none, none, rfl⟩ (fun i σ H' hi y => ?_) (fun σ H' y => ?_)
    · obtain ⟨ex, tb, v1, v2, rfl⟩ := y
      have e0 : (0 : Int) + (i : Int) = (i : Int) := by omega
      show gName _ (V.int ((0 : Int) + (i : Int))) _ _ _
      rw [e0]
      obtain ⟨es, e, hes, hat, he⟩ := tb.at (i := i) (by omega)
      refine ⟨_, rfl, .inl ⟨rfl, _, sq_of hes⟩, by decide, fun o ho => ?_⟩
      have eo := Ex.new (o := .lst [V.int 1]) ho
      have ho1 : upd H' o (.lst [V.int 1]) o = some (.lst [V.int 1]) := upd_same
      have Ho : H o = none := fresh_back ex ho
      generalize upd H' o (.lst [V.int 1]) = H4 at eo ho1 ⊢
      refine ⟨_, rfl, (top : Int), rfl, by omega, by omega, ?_⟩
      rw [show ((top : Nat) : Int).toNat = top by omega]
      have pl := pasc_len top i
      refine lcP (walk_range (lo := 0)) (fun _ _ => trivial) (by omega) (fun _ => true) (fun p => V.int ((pasc top i).getD p 0 + (pasc top i).getD (p + 1) 0)) (fun p H5 x H6 hp e y K1 K0 k1 k0 => ?_) (fun D H6 hD e7 h7 => ?_)
      · obtain ⟨rfl, rfl⟩ := y
        have e0 : (0 : Int) + (p : Int) = (p : Int) := by omega
        show gName _ (V.int ((0 : Int) + (p : Int))) _ _ _
        rw [e0]
        have em := eo.trans e
        have ip : atI ((pasc top i).map V.int) ((p : Int) + 1) = some (.int ((pasc top i).getD (p + 1) 0)) := by
          rw [show (p : Int) + 1 = ((p + 1 : Nat) : Int) by omega]
          exact atI_int (by omega)
        exact ⟨rfl, yes_go ⟨_, rfl, _, rfl, L, _, _, _, rfl, rfl, sq_of (em _ _ hes), hat, _, rfl, _, _, _, _, rfl, rfl, sq_of (em _ _ he), atI_int (by omega), _, rfl, _, rfl, L, _, _, _, rfl, rfl, sq_of (em _ _ hes), hat, _, rfl, _, _, rfl, rfl, _, _, _, _, rfl, rfl, sq_of (em _ _ he), ip, _, _, rfl, rfl, k1 rfl _ (Ex.refl _)⟩⟩
      · rw [given_all] at h7
        refine ⟨o, D, _, _, rfl, rfl, e7 _ _ ho1, h7, Nat.le_of_lt (sz_lt (by simp only [List.length_map, List.length_range, List.length_singleton]; omega)), fun g hg => ?_⟩
        have eg := Ex.new (o := .lst ([V.int 1] ++ (List.range top).map fun p => V.int ((pasc top i).getD p 0 + (pasc top i).getD (p + 1) 0))) hg
        have hg2 : upd H6 g (.lst ([V.int 1] ++ (List.range top).map fun p => V.int ((pasc top i).getD p 0 + (pasc top i).getD (p + 1) 0))) g = some (.lst ((pasc top (i + 1)).map V.int)) := by
          rw [upd_same]
          show _ = some (HO.lst (V.int 1 :: ((List.range top).map fun p => (pasc top i).getD p 0 + (pasc top i).getD (p + 1) 0).map V.int))
          rw [List.map_map]
          rfl
        have ex8 := eo.trans (e7.trans eg)
        generalize upd H6 g (.lst ([V.int 1] ++ (List.range top).map fun p => V.int ((pasc top i).getD p 0 + (pasc top i).getD (p + 1) 0))) = H8 at eg hg2 ex8 ⊢
        have tb8 := tb.ex ex8
        obtain ⟨fs, f1, f2, f3⟩ := tb8
        have gL : g ≠ L := fun z => by
          have := (eo.trans e7) _ _ hes
          rw [← z, hg] at this
          cases this
        refine ⟨L, _, _, rfl, rfl, f1, sz_lt (by rw [List.length_map]; omega), ?_⟩
        refine ⟨ex_side (ex.trans ex8) HL, ⟨fs ++ [g], by rw [upd_same, List.map_append]; rfl, by rw [List.length_append, f2]; rfl, fun j e h => ?_⟩, _, _, rfl⟩
        by_cases c : j < fs.length
        · rw [List.getElem?_append_left c] at h
          have := f3 j e h
          exact ⟨this.1, by rw [upd_ne this.1.1]; exact this.2⟩
        · rw [List.getElem?_append_right (by omega)] at h
          have jj : j - fs.length = 0 := by
            have := (List.getElem?_eq_some_iff.mp h).1
            simp at this
            omega
          rw [jj] at h
          cases h
          refine ⟨⟨gL, fresh_back (ex.trans (eo.trans e7)) hg⟩, ?_⟩
          rw [upd_ne gL, show j = i + 1 by omega]
          exact hg2
    · obtain ⟨ex, tb, v1, v2, rfl⟩ := y
      exact ⟨_, rfl, k L H' HL ex tb⟩
end
end K11

namespace K11
open PySem PySem.Spec PyProof.Rows L2 Evl Own
open PySem.W (mcComb)
/-! ### rows by their places -/
/-- times (1 + t z) -/
def upF (t : Int) (f : Nat → Int) : Nat → Int
  | 0 => f 0
  | k + 1 => f (k + 1) + t * f k
def rowF (q : Int) (x : Nat) : Nat → Nat → Int
  | 0 => fun k => if k = 0 then 1 else 0
  | n + 1 => upF (if n < x then -1 else q - 1) (rowF q x n)
theorem longer_at (xs : List Int) (t : Int) (k : Nat) : (longerL xs t).getD k 0 = upF t (fun i => xs.getD i 0) k := by
  by_cases h : k < xs.length + 1
  · unfold longerL
    rw [getD_rangeMap _ h]
    have e : (xs ++ [0]).getD k 0 = xs.getD k 0 := by
      by_cases c : k < xs.length
      · rw [List.getD_eq_getElem?_getD, List.getElem?_append_left c, ← List.getD_eq_getElem?_getD]
      · have : k = xs.length := by omega
        subst this
        rw [List.getD_eq_getElem?_getD, List.getElem?_append_right (Nat.le_refl _), Nat.sub_self, List.getD_eq_getElem?_getD, List.getElem?_eq_none (Nat.le_refl _)]
        rfl
    rw [e]
    cases k with
    | zero =>
      show 0 + _ = _
      rw [Int.zero_add]
      rfl
    | succ k =>
      show (xs.map fun v => t * v).getD k 0 + _ = xs.getD (k + 1) 0 + t * xs.getD k 0
      have e2 : (xs.map fun v => t * v).getD k 0 = t * xs.getD k 0 := by
        rw [List.getD_eq_getElem?_getD, List.getElem?_map, List.getD_eq_getElem?_getD]
        cases xs[k]? with
        | none => show (0 : Int) = t * 0; rw [Int.mul_zero]
        | some v => rfl
      rw [e2, Int.add_comm]
  · have e : ∀ ys : List Int, ys.length ≤ k → ys.getD k 0 = 0 := fun ys h => by
      rw [List.getD_eq_getElem?_getD, List.getElem?_eq_none h]
      rfl
    rw [e _ (by rw [longer_len]; omega)]
    cases k with
    | zero => omega
    | succ k =>
      show 0 = xs.getD (k + 1) 0 + t * xs.getD k 0
      rw [e xs (by omega), List.getD_eq_getElem?_getD, List.getElem?_eq_none (show xs.length ≤ k by omega)]
      show 0 = 0 + t * 0
      rw [Int.mul_zero]
      rfl
theorem row_at (q : Int) (x : Nat) : ∀ n k, (stepRow q x n).getD k 0 = rowF q x n k
  | 0, 0 => rfl
  | 0, k + 1 => rfl
  | n + 1, k => by
    show (longerL (stepRow q x n) _).getD k 0 = upF _ (rowF q x n) k
    rw [longer_at]
    have : (fun i => (stepRow q x n).getD i 0) = rowF q x n := funext fun i => row_at q x n i
    rw [this]
theorem upF_comm (s t : Int) (f : Nat → Int) : upF s (upF t f) = upF t (upF s f) := by
  funext k
  match k with
  | 0 => rfl
  | 1 =>
    show f 1 + t * f 0 + s * f 0 = f 1 + s * f 0 + t * f 0
    omega
  | k + 2 =>
    show f (k + 2) + t * f (k + 1) + s * (f (k + 1) + t * f k) = f (k + 2) + s * f (k + 1) + t * (f (k + 1) + s * f k)
    rw [Int.mul_add, Int.mul_add, Int.mul_left_comm s t]
    omega
theorem row_same (q : Int) (x y : Nat) : ∀ n, n ≤ x → n ≤ y → rowF q x n = rowF q y n
  | 0, _, _ => rfl
  | n + 1, hx, hy => by
    show upF _ (rowF q x n) = upF _ (rowF q y n)
    rw [row_same q x y n (by omega) (by omega), if_pos (by omega), if_pos (by omega)]
/-- one more of the first sort -/
theorem row_up (q : Int) (x : Nat) : ∀ n, x ≤ n → upF (-1) (rowF q x n) = rowF q (x + 1) (n + 1)
  | 0, h => by
    have : x = 0 := by omega
    subst this
    show upF (-1) (rowF q 0 0) = upF (if 0 < 1 then -1 else q - 1) (rowF q 1 0)
    rw [if_pos (by omega)]
    rfl
  | n + 1, h => by
    by_cases c : x = n + 1
    · subst c
      show upF (-1) (rowF q (n + 1) (n + 1)) = upF (if n + 1 < n + 1 + 1 then -1 else q - 1) (rowF q (n + 1 + 1) (n + 1))
      rw [if_pos (by omega), row_same q (n + 1) (n + 1 + 1) (n + 1) (by omega) (by omega)]
    · show upF (-1) (upF (if n < x then -1 else q - 1) (rowF q x n)) = upF (if n + 1 < x + 1 then -1 else q - 1) (rowF q (x + 1) (n + 1))
      rw [if_neg (by omega), if_neg (by omega), upF_comm, row_up q x n (by omega)]
/-! ### tops -/
def sumF (f : Nat → Int) : Nat → Int
  | 0 => 0
  | n + 1 => sumF f n + f n
theorem sumF_congr {f g : Nat → Int} : ∀ n, (∀ i, i < n → f i = g i) → sumF f n = sumF g n
  | 0, _ => rfl
  | n + 1, h => by
    show sumF f n + f n = sumF g n + g n
    rw [sumF_congr n fun i hi => h i (by omega), h n (by omega)]
theorem sumF_shift (f : Nat → Int) : ∀ n, sumF f (n + 1) = f 0 + sumF (fun i => f (i + 1)) n
  | 0 => by
    show 0 + f 0 = f 0 + 0
    omega
  | n + 1 => by
    show sumF f (n + 1) + f (n + 1) = f 0 + (sumF (fun i => f (i + 1)) n + f (n + 1))
    rw [sumF_shift f n]
    omega
theorem sumF_add (f g : Nat → Int) : ∀ n, sumF (fun i => f i + g i) n = sumF f n + sumF g n
  | 0 => rfl
  | n + 1 => by
    show sumF _ n + (f n + g n) = sumF f n + f n + (sumF g n + g n)
    rw [sumF_add f g n]
    omega
theorem sumF_mul (c : Int) (f : Nat → Int) : ∀ n, sumF (fun i => c * f i) n = c * sumF f n
  | 0 => by
    show (0 : Int) = c * 0
    rw [Int.mul_zero]
  | n + 1 => by
    show sumF _ n + c * f n = c * (sumF f n + f n)
    rw [sumF_mul c f n, Int.mul_add]
theorem sumF_swap (f : Nat → Nat → Int) (m : Nat) : ∀ n, sumF (fun i => sumF (fun j => f i j) m) n = sumF (fun j => sumF (fun i => f i j) n) m
  | 0 => by
    show (0 : Int) = sumF (fun j => 0) m
    induction m with
    | zero => rfl
    | succ m ih => show 0 = sumF (fun j => 0) m + 0; rw [← ih]; rfl
  | n + 1 => by
    show sumF _ n + sumF (fun j => f n j) m = sumF (fun j => sumF (fun i => f i j) n + f n j) m
    rw [sumF_add, sumF_swap f m n]
theorem tops_at (q : Int) (n : Nat) (ns : List Int) (k : Nat) (hk : k < n + 1) : ∀ x, (topsR q n ns x).getD k 0 = sumF (fun x => ns.getD x 0 * rowF q x n k) x
  | 0 => by
    show (List.replicate (n + 1) (0 : Int)).getD k 0 = 0
    rw [List.getD_eq_getElem?_getD, List.getElem?_replicate, if_pos hk]
    rfl
  | x + 1 => by
    show (addTo (topsR q n ns x) (stepRow q x n) (ns.getD x 0) (n + 1)).getD k 0 = _
    rw [addTo_at (by rw [tops_len]; exact hk), if_pos hk, tops_at q n ns k hk x, row_at]
    rfl
theorem upF_sum (t : Int) (f : Nat → Nat → Int) (m : Nat) : ∀ k, upF t (fun k => sumF (fun i => f i k) m) k = sumF (fun i => upF t (f i) k) m
  | 0 => rfl
  | k + 1 => by
    show sumF _ m + t * sumF _ m = sumF (fun i => f i (k + 1) + t * f i k) m
    rw [sumF_add, sumF_mul]
theorem upF_scal (t c : Int) (f : Nat → Int) : ∀ k, upF t (fun k => c * f k) k = c * upF t f k
  | 0 => rfl
  | k + 1 => by
    show c * f (k + 1) + t * (c * f k) = c * (f (k + 1) + t * f k)
    rw [Int.mul_add, Int.mul_left_comm]
theorem horn_at (q : Int) (ns : List Int) : ∀ k, k < ns.length → ∀ j, (hornR q ns k).1.getD j 0 = sumF (fun i => ns.getD (ns.length - 1 - k + i) 0 * rowF q i k j) (k + 1)
  | 0, _, 0 => by
    show ns.getD (ns.length - 1) 0 = 0 + ns.getD (ns.length - 1 - 0 + 0) 0 * 1
    rw [Int.mul_one, Nat.sub_zero, Nat.add_zero, Int.zero_add]
  | 0, _, j + 1 => by
    show 0 = 0 + ns.getD (ns.length - 1 - 0 + 0) 0 * 0
    rw [Int.mul_zero]
    rfl
  | k + 1, h, j => by
    have hl := horn_len q ns k
    have ih : (fun j => (hornR q ns k).1.getD j 0) = fun j => sumF (fun i => ns.getD (ns.length - 1 - k + i) 0 * rowF q i k j) (k + 1) := funext fun j => horn_at q ns k (by omega) j
    show ((List.range (longerL (hornR q ns k).1 (-1)).length).map fun at_ => (longerL (hornR q ns k).1 (-1)).getD at_ 0 + ns.getD (ns.length - 2 - k) 0 * (longerL (hornR q ns k).2 (q - 1)).getD at_ 0).getD j 0 = _
    have key : (longerL (hornR q ns k).1 (-1)).getD j 0 + ns.getD (ns.length - 2 - k) 0 * (longerL (hornR q ns k).2 (q - 1)).getD j 0 = sumF (fun i => ns.getD (ns.length - 1 - (k + 1) + i) 0 * rowF q i (k + 1) j) (k + 1 + 1) := by
      rw [sumF_shift, longer_at, ih, upF_sum, horn_row, longer_at]
      have e1 : (fun i => (stepRow q 0 k).getD i 0) = rowF q 0 k := funext fun i => row_at q 0 k i
      have e2 : upF (q - 1) (rowF q 0 k) j = rowF q 0 (k + 1) j := by
        show _ = upF (if k < 0 then -1 else q - 1) (rowF q 0 k) j
        rw [if_neg (by omega)]
      rw [e1, e2, Int.add_comm, show ns.length - 1 - (k + 1) + 0 = ns.length - 2 - k by omega]
      congr 1
      refine sumF_congr _ fun i hi => ?_
      rw [upF_scal, row_up q i k (by omega), show ns.length - 1 - (k + 1) + (i + 1) = ns.length - 1 - k + i by omega]
    by_cases c : j < (longerL (hornR q ns k).1 (-1)).length
    · rw [getD_rangeMap _ c]
      exact key
    · rw [← key]
      have e : ∀ ys : List Int, ys.length ≤ j → ys.getD j 0 = 0 := fun ys h => by
        rw [List.getD_eq_getElem?_getD, List.getElem?_eq_none h]
        rfl
      rw [longer_len, hl.1] at c
      rw [e _ (by rw [List.length_map, List.length_range, longer_len, hl.1]; omega), e (longerL (hornR q ns k).1 (-1)) (by rw [longer_len, hl.1]; omega), e (longerL (hornR q ns k).2 (q - 1)) (by rw [longer_len, hl.2]; omega), Int.mul_zero]
      rfl
/-- the tops, both ways -/
theorem tops_horn (q : Int) (n : Nat) (ns : List Int) (h : ns.length = n + 1) : topsR q n ns (n + 1) = (hornR q ns (ns.length - 1)).1 := by
  apply ext_getD (d := 0)
  · rw [tops_len, (horn_len q ns _).1]
    omega
  · intro k hk
    rw [tops_len] at hk
    rw [tops_at q n ns k hk, horn_at q ns _ (by omega)]
    rw [show ns.length - 1 = n by omega]
    refine sumF_congr _ fun i hi => ?_
    rw [Nat.sub_self, Nat.zero_add]
/-! ### products by (1 + t z) -/
theorem set_at (xs : List Int) (i k : Nat) (v : Int) (h : i < xs.length) : (xs.set i v).getD k 0 = if i = k then v else xs.getD k 0 := by
  by_cases c : i = k
  · subst c
    rw [if_pos rfl, List.getD_eq_getElem?_getD, List.getElem?_set_self h]
    rfl
  · rw [if_neg c, List.getD_eq_getElem?_getD, List.getElem?_set_ne c, ← List.getD_eq_getElem?_getD]
theorem mulUp_at (xs : List Int) (t : Int) (k : Nat) (hx : 0 < xs.length) : ∀ i, i ≤ xs.length → (mulUp xs [1, t] i).getD k 0 = upF t (fun j => if j < i then xs.getD j 0 else 0) k
  | 0, _ => by
    show (List.replicate (xs.length + 2 - 1) (0 : Int)).getD k 0 = _
    have e : (List.replicate (xs.length + 2 - 1) (0 : Int)).getD k 0 = 0 := by
      rw [List.getD_eq_getElem?_getD, List.getElem?_replicate]
      split <;> rfl
    rw [e]
    cases k with
    | zero => rfl
    | succ k =>
      show (0 : Int) = 0 + t * 0
      rw [Int.mul_zero]
      rfl
  | i + 1, h => by
    have ih := fun k => mulUp_at xs t k hx i (by omega)
    have hl := mulUp_len xs [1, t] i
    have hl2 : xs.length + [1, t].length - 1 = xs.length + 1 := by show xs.length + 2 - 1 = _; omega
    rw [hl2] at hl
    show (((mulUp xs [1, t] i).set (i + 0) ((mulUp xs [1, t] i).getD (i + 0) 0 + xs.getD i 0 * 1)).set (i + 1) (((mulUp xs [1, t] i).set (i + 0) ((mulUp xs [1, t] i).getD (i + 0) 0 + xs.getD i 0 * 1)).getD (i + 1) 0 + xs.getD i 0 * t)).getD k 0 = _
    rw [Nat.add_zero, set_at _ _ _ _ (by rw [List.length_set, hl]; omega), set_at _ _ _ _ (by rw [hl]; omega), set_at _ _ _ _ (by rw [hl]; omega), if_neg (show ¬ i = i + 1 by omega), ih, ih, ih, Int.mul_one]
    match k with
    | 0 =>
      rw [if_neg (by omega)]
      by_cases c : i = 0
      · subst c
        rw [if_pos rfl]
        show (if (0 : Nat) < 0 then xs.getD 0 0 else 0) + xs.getD 0 0 = if (0 : Nat) < 0 + 1 then xs.getD 0 0 else 0
        rw [if_neg (by omega), if_pos (by omega), Int.zero_add]
      · rw [if_neg c]
        show (if 0 < i then xs.getD 0 0 else 0) = if 0 < i + 1 then xs.getD 0 0 else 0
        rw [if_pos (by omega), if_pos (by omega)]
    | k + 1 =>
      show (if i + 1 = k + 1 then (if i + 1 < i then xs.getD (i + 1) 0 else 0) + t * (if i < i then xs.getD i 0 else 0) + xs.getD i 0 * t else if i = k + 1 then upF t _ i + xs.getD i 0 else (if k + 1 < i then xs.getD (k + 1) 0 else 0) + t * (if k < i then xs.getD k 0 else 0)) = (if k + 1 < i + 1 then xs.getD (k + 1) 0 else 0) + t * (if k < i + 1 then xs.getD k 0 else 0)
      by_cases c : i = k
      · subst c
        rw [if_pos rfl, if_neg (by omega), if_neg (by omega), if_neg (by omega), if_pos (by omega), Int.mul_zero, Int.mul_comm t]
        omega
      · rw [if_neg (by omega)]
        by_cases d : i = k + 1
        · subst d
          rw [if_pos rfl, if_pos (by omega), if_pos (by omega)]
          show (if k + 1 < k + 1 then _ else 0) + t * (if k < k + 1 then _ else 0) + _ = _
          rw [if_neg (by omega), if_pos (by omega)]
          omega
        · rw [if_neg d]
          by_cases e : k < i
          · rw [if_pos (by omega), if_pos (by omega), if_pos (by omega), if_pos (by omega)]
          · rw [if_neg (by omega), if_neg (by omega), if_neg (by omega), if_neg (by omega)]
theorem mulUp_longer (xs : List Int) (t : Int) (hx : 0 < xs.length) : mulUp xs [1, t] xs.length = longerL xs t := by
  apply ext_getD (d := 0)
  · rw [mulUp_len, longer_len]
    rfl
  · intro k hk
    rw [mulUp_at xs t k hx _ (Nat.le_refl _), longer_at]
    congr 1
    funext j
    split
    · rfl
    · rw [List.getD_eq_getElem?_getD, List.getElem?_eq_none (by omega)]
      rfl
/-! ### how many sets of b things a things have -/
def chN : Nat → Nat → Int
  | _, 0 => 1
  | 0, _ + 1 => 0
  | a + 1, b + 1 => chN a b + chN a (b + 1)
theorem chN_above : ∀ a b, a < b → chN a b = 0
  | 0, b + 1, _ => rfl
  | a + 1, b + 1, h => by
    show chN a b + chN a (b + 1) = 0
    rw [chN_above a b (by omega), chN_above a (b + 1) (by omega)]
    rfl
theorem pasc_at (top : Nat) : ∀ i p, p ≤ top → (pasc top i).getD p 0 = chN i p
  | 0, 0, _ => rfl
  | 0, p + 1, h => by
    show (List.replicate top (0 : Int)).getD p 0 = 0
    rw [List.getD_eq_getElem?_getD, List.getElem?_replicate]
    split <;> rfl
  | i + 1, 0, _ => by
    show (1 : Int) = _
    unfold chN
    rfl
  | i + 1, p + 1, h => by
    show ((List.range top).map fun p => (pasc top i).getD p 0 + (pasc top i).getD (p + 1) 0).getD p 0 = chN i p + chN i (p + 1)
    rw [getD_rangeMap _ (by omega), pasc_at top i p (by omega), pasc_at top i (p + 1) (by omega)]
theorem comb_pasc : ∀ a, a ≤ 24 → ∀ b, b ≤ 24 → mcComb ((a : Nat) : Int) ((b : Nat) : Int) = (pasc 24 a).getD b 0 := by
  have : (List.range 25).all (fun a => (List.range 25).all fun b => decide (mcComb ((a : Nat) : Int) ((b : Nat) : Int) = (pasc 24 a).getD b 0)) = true := by decide +kernel
  intro a ha b hb
  have h1 := List.all_eq_true.mp this a (List.mem_range.mpr (by omega))
  exact of_decide_eq_true (List.all_eq_true.mp h1 b (List.mem_range.mpr (by omega)))
theorem comb_is {a b : Nat} (h : a ≤ 24) : mcComb ((a : Nat) : Int) ((b : Nat) : Int) = chN a b := by
  by_cases c : b ≤ 24
  · rw [comb_pasc a h b c, pasc_at 24 a b c]
  · rw [PySem.W.mcComb_above (by omega), chN_above a b (by omega)]
/-- the moment, by the table -/
theorem mom_is {n r : Nat} {ns : List Int} (hn : n ≤ 24) (hl : ns.length = n + 1) : momL n r ns = if r ≤ n then ((List.range (n + 1)).map fun i => ns.getD i 0 * (pasc n (n - i)).getD r 0).sum else 0 := by
  unfold momL
  rw [hl]
  by_cases c : r ≤ n
  · rw [if_pos c]
    congr 1
    apply List.map_congr_left
    intro i hi
    have := List.mem_range.mp hi
    rw [show (n : Int) - (i : Int) = ((n - i : Nat) : Int) by omega, comb_is (by omega), pasc_at n _ r c]
  · rw [if_neg c]
    have : (List.range (n + 1)).map (fun w => ns.getD w 0 * mcComb ((n : Int) - (w : Int)) (r : Int)) = (List.range (n + 1)).map fun _ => (0 : Int) := by
      apply List.map_congr_left
      intro i hi
      have := List.mem_range.mp hi
      rw [show (n : Int) - (i : Int) = ((n - i : Nat) : Int) by omega, comb_is (by omega), chN_above _ _ (by omega), Int.mul_zero]
    rw [this]
    generalize List.range (n + 1) = l
    induction l with
    | nil => rfl
    | cons a l ih => rw [List.map_cons, List.sum_cons, ih]; rfl
/-! ### sums by steps -/
def cvF (f g : Nat → Int) (j : Nat) : Int := sumF (fun i => f i * g (j - i)) (j + 1)
theorem cv_up (f g : Nat → Int) (t : Int) : cvF f (upF t g) = upF t (cvF f g) := by
  funext j
  cases j with
  | zero => rfl
  | succ j =>
    show sumF (fun i => f i * upF t g (j + 1 - i)) (j + 1) + f (j + 1) * upF t g (j + 1 - (j + 1)) = (sumF (fun i => f i * g (j + 1 - i)) (j + 1) + f (j + 1) * g (j + 1 - (j + 1))) + t * sumF (fun i => f i * g (j - i)) (j + 1)
    have e : sumF (fun i => f i * upF t g (j + 1 - i)) (j + 1) = sumF (fun i => f i * g (j + 1 - i)) (j + 1) + t * sumF (fun i => f i * g (j - i)) (j + 1) := by
      rw [← sumF_mul, ← sumF_add]
      refine sumF_congr _ fun i hi => ?_
      rw [show j + 1 - i = (j - i) + 1 by omega]
      show f i * (g (j - i + 1) + t * g (j - i)) = f i * g (j - i + 1) + t * (f i * g (j - i))
      rw [Int.mul_add, Int.mul_left_comm]
    rw [e, Nat.sub_self]
    show _ + f (j + 1) * g 0 = _
    omega
theorem cv_one (f : Nat → Int) (j : Nat) : cvF f (fun k => if k = 0 then 1 else 0) j = f j := by
  show sumF (fun i => f i * (if j - i = 0 then 1 else 0)) j + f j * (if j - j = 0 then 1 else 0) = f j
  have e : sumF (fun i => f i * (if j - i = 0 then 1 else 0)) j = sumF (fun i => 0 * 0) j := sumF_congr _ fun i hi => by rw [if_neg (by omega), Int.mul_zero]; rfl
  rw [e, sumF_mul, Int.zero_mul, Nat.sub_self, if_pos rfl, Int.mul_one, Int.zero_add]
def powC (q : Int) (m k : Nat) : Int := chN m k * (q - 1) ^ k
theorem powC_up (q : Int) (m : Nat) : powC q (m + 1) = upF (q - 1) (powC q m) := by
  funext k
  cases k with
  | zero =>
    show chN (m + 1) 0 * _ = chN m 0 * _
    unfold chN
    rfl
  | succ k =>
    show (chN m k + chN m (k + 1)) * (q - 1) ^ (k + 1) = chN m (k + 1) * (q - 1) ^ (k + 1) + (q - 1) * (chN m k * (q - 1) ^ k)
    rw [Int.add_mul, Int.pow_succ (q - 1) k, ← Int.mul_assoc (chN m k), Int.mul_comm (chN m k * (q - 1) ^ k), Int.add_comm]
theorem powC_zero (q : Int) : powC q 0 = fun k => if k = 0 then 1 else 0 := by
  funext k
  cases k with
  | zero =>
    show (1 : Int) * (q - 1) ^ 0 = 1
    rw [Int.pow_zero]
    rfl
  | succ k =>
    show (0 : Int) * _ = 0
    rw [Int.zero_mul]
theorem sgn_is (x i : Nat) : (if i % 2 = 0 then chN x i else -(chN x i)) = powC 0 x i := by
  unfold powC
  have e : ∀ i : Nat, ((0 : Int) - 1) ^ i = if i % 2 = 0 then 1 else -1 := by
    intro i
    induction i with
    | zero => rfl
    | succ i ih =>
      rw [Int.pow_succ, ih]
      by_cases c : i % 2 = 0
      · rw [if_pos c, if_neg (by omega)]
        rfl
      · rw [if_neg c, if_pos (by omega)]
        rfl
  rw [e]
  by_cases c : i % 2 = 0
  · rw [if_pos c, if_pos c, Int.mul_one]
  · rw [if_neg c, if_neg c]
    omega
theorem row_diag (q : Int) (x : Nat) : ∀ n, n ≤ x → rowF q x n = powC 0 n
  | 0, _ => by
    rw [powC_zero]
    rfl
  | n + 1, h => by
    show upF (if n < x then -1 else q - 1) (rowF q x n) = _
    rw [if_pos (by omega), powC_up, row_diag q x n (by omega)]
    rfl
theorem row_cv (q : Int) (x : Nat) : ∀ m, rowF q x (x + m) = cvF (powC 0 x) (powC q m)
  | 0 => by
    funext j
    rw [Nat.add_zero, row_diag q x x (Nat.le_refl _), powC_zero, cv_one]
  | m + 1 => by
    show upF (if x + m < x then -1 else q - 1) (rowF q x (x + m)) = _
    rw [if_neg (by omega), row_cv q x m, powC_up, cv_up]
theorem step_part {q : Int} {n j x i : Nat} (hn : n ≤ 24) (hx : x ≤ n) (hi : i ≤ j) : (if i % 2 = 0 then stepPart q n j x i else -(stepPart q n j x i)) = powC 0 x i * powC q (n - x) (j - i) := by
  unfold stepPart
  rw [comb_is (by omega), show (n : Int) - (x : Int) = ((n - x : Nat) : Int) by omega, show (j : Int) - (i : Int) = ((j - i : Nat) : Int) by omega, comb_is (by omega), ← sgn_is]
  show (if i % 2 = 0 then chN x i * chN (n - x) (j - i) * (q - 1) ^ (j - i) else _) = _ * (chN (n - x) (j - i) * (q - 1) ^ (j - i))
  by_cases c : i % 2 = 0
  · rw [if_pos c, if_pos c, Int.mul_assoc]
  · rw [if_neg c, if_neg c, Int.mul_assoc, Int.neg_mul]
theorem step_sumF {q : Int} {n j x : Nat} (hn : n ≤ 24) (hx : x ≤ n) : ∀ m, m ≤ j + 1 → stepSum q n j x m = sumF (fun i => powC 0 x i * powC q (n - x) (j - i)) m
  | 0, _ => rfl
  | m + 1, h => by
    show stepSum q n j x m + _ = sumF _ m + _
    rw [step_sumF hn hx m (by omega), step_part hn hx (by omega)]
theorem sumF_more (f : Nat → Int) (m : Nat) : ∀ k, (∀ i, m ≤ i → f i = 0) → sumF f (m + k) = sumF f m
  | 0, _ => rfl
  | k + 1, h => by
    show sumF f (m + k) + f (m + k) = _
    rw [sumF_more f m k h, h _ (by omega), Int.add_zero]
/-- a sum by steps is a number of the product -/
theorem step_is {q : Int} {n j x : Nat} (hn : n ≤ 24) (hx : x ≤ n) : stepSum q n j x (min j x + 1) = (stepRow q x n).getD j 0 := by
  rw [step_sumF hn hx _ (by omega), row_at, show n = x + (n - x) by omega, row_cv, Nat.add_sub_cancel_left]
  unfold cvF
  rw [show j + 1 = (min j x + 1) + (j - min j x) by omega]
  symm
  by_cases c : j ≤ x
  · rw [Nat.min_eq_left c, Nat.sub_self]
  · rw [Nat.min_eq_right (by omega)]
    refine sumF_more _ _ _ fun i hi => ?_
    show chN x i * _ * _ = 0
    rw [chN_above x i (by omega), Int.zero_mul, Int.zero_mul]
/-! ### told twice -/
theorem sum_F : ∀ ns : List Int, ns.sum = sumF (fun i => ns.getD i 0) ns.length
  | [] => rfl
  | a :: r => by
    rw [List.sum_cons, sum_F r, List.length_cons, sumF_shift]
    rfl
theorem row_deg (q : Int) (x : Nat) : ∀ n k, n < k → rowF q x n k = 0
  | 0, k + 1, _ => rfl
  | n + 1, k + 1, h => by
    show rowF q x n (k + 1) + _ * rowF q x n k = 0
    rw [row_deg q x n (k + 1) (by omega), row_deg q x n k (by omega), Int.mul_zero]
    rfl
theorem row_sum (q : Int) (x : Nat) : ∀ n, sumF (rowF q x n) (n + 1) = if x = 0 ∨ n = 0 then q ^ n else 0
  | 0 => by
    rw [if_pos (.inr rfl), Int.pow_zero]
    rfl
  | n + 1 => by
    have e : sumF (rowF q x (n + 1)) (n + 1 + 1) = (1 + (if n < x then -1 else q - 1)) * sumF (rowF q x n) (n + 1) := by
      rw [sumF_shift]
      show rowF q x n 0 + sumF (fun i => rowF q x n (i + 1) + (if n < x then -1 else q - 1) * rowF q x n i) (n + 1) = _
      rw [sumF_add, sumF_mul, Int.add_mul, Int.one_mul]
      have h := sumF_shift (rowF q x n) (n + 1)
      have h2 : sumF (rowF q x n) (n + 1 + 1) = sumF (rowF q x n) (n + 1) + rowF q x n (n + 1) := rfl
      rw [row_deg q x n (n + 1) (by omega)] at h2
      omega
    rw [e, row_sum q x n]
    by_cases c : x = 0
    · rw [if_neg (show ¬ n < x by omega), if_pos (.inl c), if_pos (.inl c), Int.pow_succ, show 1 + (q - 1) = q by omega, Int.mul_comm]
    · rw [if_neg (show ¬ (x = 0 ∨ n + 1 = 0) by omega)]
      by_cases d : n = 0
      · rw [if_pos (show n < x by omega)]
        show (0 : Int) * _ = 0
        rw [Int.zero_mul]
      · rw [if_neg (show ¬ (x = 0 ∨ n = 0) by omega), Int.mul_zero]
/-- what numbers by weights tell, not yet divided -/
def tellF (q : Int) (n : Nat) (f : Nat → Int) : Nat → Int := fun j => sumF (fun x => f x * rowF q x n j) (n + 1)
def lateF (g : Nat → Int) : Nat → Int
  | 0 => 0
  | k + 1 => g k
theorem sumF_up (t : Int) (f r : Nat → Int) (n : Nat) (h : f (n + 1) = 0) : sumF (fun x => upF t f x * r x) (n + 1 + 1) = sumF (fun x => f x * r x) (n + 1) + t * sumF (fun x => f x * r (x + 1)) (n + 1) := by
  rw [sumF_shift]
  show f 0 * r 0 + sumF (fun i => (f (i + 1) + t * f i) * r (i + 1)) (n + 1) = _
  have e : sumF (fun i => (f (i + 1) + t * f i) * r (i + 1)) (n + 1) = sumF (fun i => f (i + 1) * r (i + 1)) (n + 1) + t * sumF (fun i => f i * r (i + 1)) (n + 1) := by
    rw [← sumF_mul, ← sumF_add]
    refine sumF_congr _ fun i hi => ?_
    rw [Int.add_mul, Int.mul_assoc]
  rw [e]
  have h1 := sumF_shift (fun x => f x * r x) (n + 1)
  have h2 : sumF (fun x => f x * r x) (n + 1 + 1) = sumF (fun x => f x * r x) (n + 1) + f (n + 1) * r (n + 1) := rfl
  rw [h, Int.zero_mul] at h2
  have h3 : (fun x => f x * r x) 0 = f 0 * r 0 := rfl
  have h4 : sumF (fun i => (fun x => f x * r x) (i + 1)) (n + 1) = sumF (fun i => f (i + 1) * r (i + 1)) (n + 1) := rfl
  omega
theorem tell_up (q t : Int) (n : Nat) (f : Nat → Int) (h : f (n + 1) = 0) (j : Nat) : tellF q (n + 1) (upF t f) j = upF (q - 1) (tellF q n f) j + t * upF (-1) (tellF q n f) j := by
  unfold tellF
  rw [sumF_up t f (fun x => rowF q x (n + 1) j) n h, upF_sum, upF_sum]
  congr 1
  · refine sumF_congr _ fun x hx => ?_
    rw [upF_scal]
    show f x * upF (if n < x then -1 else q - 1) (rowF q x n) j = _
    rw [if_neg (by omega)]
  · congr 1
    refine sumF_congr _ fun x hx => ?_
    rw [upF_scal, row_up q x n (by omega)]
theorem tell_row (q : Int) (y : Nat) : ∀ n j, tellF q n (rowF q y n) j = if j = min n y then q ^ n else 0
  | 0, j => by
    show 0 + rowF q y 0 0 * rowF q 0 0 j = _
    rw [Nat.zero_min, Int.pow_zero, Int.zero_add]
    show 1 * (if j = 0 then (1 : Int) else 0) = _
    rw [Int.one_mul]
  | n + 1, j => by
    show tellF q (n + 1) (upF (if n < y then -1 else q - 1) (rowF q y n)) j = _
    rw [tell_up q _ n _ (row_deg q y n _ (by omega))]
    have ih := tell_row q y n
    by_cases c : n < y
    · rw [if_pos c, show min (n + 1) y = n + 1 by omega]
      rw [show min n y = n by omega] at ih
      cases j with
      | zero =>
        show tellF q n (rowF q y n) 0 + -1 * tellF q n (rowF q y n) 0 = _
        rw [if_neg (by omega)]
        omega
      | succ j =>
        show tellF q n (rowF q y n) (j + 1) + (q - 1) * tellF q n (rowF q y n) j + -1 * (tellF q n (rowF q y n) (j + 1) + -1 * tellF q n (rowF q y n) j) = _
        rw [ih j]
        by_cases d : j = n
        · rw [if_pos d, if_pos (by omega), Int.sub_mul, Int.pow_succ, Int.mul_comm q]
          omega
        · rw [if_neg d, if_neg (by omega), Int.mul_zero]
          omega
    · rw [if_neg c, show min (n + 1) y = y by omega]
      rw [show min n y = y by omega] at ih
      have fin : ∀ j, q * tellF q n (rowF q y n) j = if j = y then q ^ (n + 1) else 0 := fun j => by
        rw [ih j]
        by_cases d : j = y
        · rw [if_pos d, if_pos d, Int.pow_succ, Int.mul_comm]
        · rw [if_neg d, if_neg d, Int.mul_zero]
      rw [← fin j]
      cases j with
      | zero =>
        show tellF q n (rowF q y n) 0 + (q - 1) * tellF q n (rowF q y n) 0 = _
        rw [Int.sub_mul]
        omega
      | succ j =>
        show tellF q n (rowF q y n) (j + 1) + (q - 1) * tellF q n (rowF q y n) j + (q - 1) * (tellF q n (rowF q y n) (j + 1) + -1 * tellF q n (rowF q y n) j) = _
        rw [Int.mul_add, Int.sub_mul q 1 (tellF q n (rowF q y n) (j + 1)), Int.mul_left_comm (q - 1) (-1)]
        omega
/-- told twice, not yet divided -/
theorem tell_tell (q : Int) (n : Nat) (f : Nat → Int) (j : Nat) (hj : j ≤ n) : tellF q n (tellF q n f) j = q ^ n * f j := by
  have e : tellF q n (tellF q n f) j = sumF (fun y => f y * tellF q n (rowF q y n) j) (n + 1) := by
    show sumF (fun x => sumF (fun y => f y * rowF q y n x) (n + 1) * rowF q x n j) (n + 1) = _
    have e1 : (fun x => sumF (fun y => f y * rowF q y n x) (n + 1) * rowF q x n j) = fun x => sumF (fun y => f y * rowF q y n x * rowF q x n j) (n + 1) := by
      funext x
      rw [Int.mul_comm, ← sumF_mul]
      refine sumF_congr _ fun y hy => ?_
      rw [Int.mul_comm]
    rw [e1, sumF_swap]
    refine sumF_congr _ fun y hy => ?_
    unfold tellF
    rw [← sumF_mul]
    refine sumF_congr _ fun x hx => ?_
    rw [Int.mul_assoc]
  rw [e]
  have e2 : sumF (fun y => f y * tellF q n (rowF q y n) j) (n + 1) = sumF (fun y => if y = j then q ^ n * f j else 0) (n + 1) := by
    refine sumF_congr _ fun y hy => ?_
    rw [tell_row, show min n y = y by omega]
    by_cases c : y = j
    · subst c
      rw [if_pos rfl, if_pos rfl, Int.mul_comm]
    · rw [if_neg (by omega), if_neg c, Int.mul_zero]
  rw [e2]
  have one : ∀ (m : Nat) (v : Int), sumF (fun y => if y = j then v else 0) m = if j < m then v else 0 := by
    intro m v
    induction m with
    | zero => rfl
    | succ m ih =>
      show sumF _ m + (if m = j then v else 0) = _
      rw [ih]
      by_cases c : j < m
      · rw [if_pos c, if_neg (by omega), if_pos (by omega), Int.add_zero]
      · rw [if_neg c]
        by_cases d : m = j
        · rw [if_pos d, if_pos (by omega), Int.zero_add]
        · rw [if_neg d, if_neg (by omega)]
          rfl
  rw [one, if_pos (by omega)]
theorem tops_tell (q : Int) (n : Nat) (ns : List Int) {j : Nat} (hj : j ≤ n) : (topsR q n ns (n + 1)).getD j 0 = tellF q n (fun i => ns.getD i 0) j := tops_at q n ns j (by omega) _
theorem tell_sum (q : Int) (n : Nat) (f : Nat → Int) : sumF (tellF q n f) (n + 1) = q ^ n * f 0 := by
  show sumF (fun j => sumF (fun x => f x * rowF q x n j) (n + 1)) (n + 1) = _
  rw [sumF_swap]
  have e : sumF (fun x => sumF (fun j => f x * rowF q x n j) (n + 1)) (n + 1) = sumF (fun x => if x = 0 then q ^ n * f 0 else 0) (n + 1) := by
    refine sumF_congr _ fun x hx => ?_
    rw [sumF_mul, row_sum]
    by_cases c : x = 0
    · subst c
      rw [if_pos (.inl rfl), if_pos rfl, Int.mul_comm]
    · rw [if_neg (by omega), if_neg c, Int.mul_zero]
  rw [e, sumF_shift]
  show (if 0 = 0 then _ else _) + sumF (fun i => if i + 1 = 0 then _ else 0) n = _
  rw [if_pos rfl]
  have z : sumF (fun i => if i + 1 = 0 then q ^ n * f 0 else 0) n = 0 * sumF (fun _ => 0) n := by
    rw [← sumF_mul]
    refine sumF_congr _ fun i _ => ?_
    rw [if_neg (by omega)]
    rfl
  rw [z, Int.zero_mul, Int.add_zero]
theorem gcdI_one {t b : Int} (hb : 0 < b) (h : b / gcdI t b = 1) : gcdI t b = b := by
  have d : gcdI t b ∣ b := by
    unfold gcdI
    rw [show ((Nat.gcd t.natAbs b.natAbs : Nat) : Int) ∣ b ↔ Nat.gcd t.natAbs b.natAbs ∣ b.natAbs from Int.ofNat_dvd_left]
    exact Nat.gcd_dvd_right ..
  obtain ⟨c, hc⟩ := d
  have g0 : gcdI t b ≠ 0 := fun z => by
    rw [z, Int.zero_mul] at hc
    omega
  have : b / gcdI t b = c := by
    conv => lhs; lhs; rw [hc]
    rw [Int.mul_ediv_cancel_left _ g0]
  rw [this] at h
  rw [h, Int.mul_one] at hc
  exact hc.symm
theorem gcdI_dvd (t b : Int) : gcdI t b ∣ t := by
  unfold gcdI
  rw [show ((Nat.gcd t.natAbs b.natAbs : Nat) : Int) ∣ t ↔ Nat.gcd t.natAbs b.natAbs ∣ t.natAbs from Int.ofNat_dvd_left]
  exact Nat.gcd_dvd_left ..
theorem frac_times {v d : Int} (hd : 0 < d) : frac d (v * d) = (v, 1) := by
  have g : gcdI (v * d) d = d := by
    unfold gcdI
    rw [Int.natAbs_mul, Nat.gcd_mul_left_left]
    omega
  unfold frac
  rw [g, Int.mul_ediv_cancel _ (by omega), Int.ediv_self (by omega)]
theorem told_twice {q : Int} {n : Nat} {ns : List Int} (hq : 0 < q) (hl : ns.length = n + 1) (h0 : ns.getD 0 0 = 1) (hs : 0 < ns.sum) (h1 : ∀ t ∈ topsR q n ns (n + 1), (frac ns.sum t).2 = 1) :
    0 < ((topsR q n ns (n + 1)).map fun t => (frac ns.sum t).1).sum ∧ ((topsR q n ns (n + 1)).map fun t => (frac ns.sum t).1).sum ≤ q ^ n ∧
    (topsR q n ((topsR q n ns (n + 1)).map fun t => (frac ns.sum t).1) (n + 1)).map (frac ((topsR q n ns (n + 1)).map fun t => (frac ns.sum t).1).sum) = ns.map fun v => (v, 1) := by
  have tl := tops_len q n ns (n + 1)
  have dl : ((topsR q n ns (n + 1)).map fun t => (frac ns.sum t).1).length = n + 1 := by rw [List.length_map, tl]
  have at_ : ∀ i, i ≤ n → ((topsR q n ns (n + 1)).map fun t => (frac ns.sum t).1).getD i 0 * ns.sum = tellF q n (fun i => ns.getD i 0) i := by
    intro i hi
    have hi' : i < (topsR q n ns (n + 1)).length := by omega
    have e : ((topsR q n ns (n + 1)).map fun t => (frac ns.sum t).1).getD i 0 = (topsR q n ns (n + 1)).getD i 0 / ns.sum := by
      simp only [List.getD_eq_getElem?_getD, List.getElem?_map, List.getElem?_eq_getElem hi']
      show (topsR q n ns (n + 1))[i] / gcdI _ _ = (topsR q n ns (n + 1))[i] / _
      rw [gcdI_one hs (h1 _ (List.getElem_mem hi'))]
    have d : ns.sum ∣ (topsR q n ns (n + 1)).getD i 0 := by
      have m : (topsR q n ns (n + 1)).getD i 0 ∈ topsR q n ns (n + 1) := by
        rw [List.getD_eq_getElem?_getD, List.getElem?_eq_getElem hi']
        exact List.getElem_mem hi'
      have := gcdI_dvd ((topsR q n ns (n + 1)).getD i 0) ns.sum
      rw [gcdI_one hs (h1 _ m)] at this
      exact this
    rw [e, Int.ediv_mul_cancel d, tops_tell q n ns hi]
  generalize hD : ((topsR q n ns (n + 1)).map fun t => (frac ns.sum t).1) = D at dl at_ ⊢
  have sD : D.sum * ns.sum = q ^ n := by
    rw [sum_F D, dl, Int.mul_comm, ← sumF_mul]
    have e : sumF (fun i => ns.sum * D.getD i 0) (n + 1) = sumF (tellF q n fun i => ns.getD i 0) (n + 1) := sumF_congr _ fun i hi => by rw [Int.mul_comm]; exact at_ i (by omega)
    rw [e, tell_sum, h0, Int.mul_one]
  have qn : 0 < q ^ n := Int.pow_pos hq
  have D0 : 0 < D.sum := by
    refine Int.pos_of_mul_pos_left ?_ hs
    rw [sD]
    exact qn
  refine ⟨D0, ?_, ?_⟩
  · have : D.sum * 1 ≤ D.sum * ns.sum := Int.mul_le_mul_of_nonneg_left (by omega) (by omega)
    omega
  · have tv : ∀ j, j ≤ n → (topsR q n D (n + 1)).getD j 0 = ns.getD j 0 * D.sum := by
      intro j hj
      rw [tops_tell q n D hj]
      have e : tellF q n (fun i => D.getD i 0) j * ns.sum = tellF q n (tellF q n fun i => ns.getD i 0) j := by
        unfold tellF
        rw [Int.mul_comm, ← sumF_mul]
        refine sumF_congr _ fun i hi => ?_
        rw [← Int.mul_assoc, Int.mul_comm ns.sum, at_ i (by omega)]
        rfl
      rw [tell_tell q n _ j hj, ← sD] at e
      refine Int.eq_of_mul_eq_mul_right (show ns.sum ≠ 0 by omega) ?_
      rw [e, Int.mul_comm (D.sum * ns.sum), Int.mul_assoc]
    have e : topsR q n D (n + 1) = ns.map fun v => v * D.sum := by
      apply ext_getD (d := 0)
      · rw [tops_len, List.length_map, hl]
      · intro i hi
        rw [tops_len] at hi
        rw [tv i (by omega)]
        simp only [List.getD_eq_getElem?_getD, List.getElem?_map, List.getElem?_eq_getElem (show i < ns.length by omega)]
        rfl
    rw [e, List.map_map]
    apply List.map_congr_left
    intro v _
    exact frac_times D0
end K11

namespace K11
open PySem PySem.Spec PyProof.Rows L2 Evl Own
theorem kb_step_sum_x_j_length_letters {K : PySem.W.Frag} {f : Addr} {fd : FuncData} (F : FnP K "step_sum" s_step_sum f fd) : KBinds K fd ["letters", "length", "j", "x"] ["x", "j", "length", "letters"] (pick 4 [3, 2, 1, 0]) (pick 4 [3, 2, 1, 0]) := kb_of 4 [3, 2, 1, 0] F (by decide) (fun kV doc pm an cdv ct ws hw => match ws, hw with | [w0, w1, w2, w3], _ => rfl)
theorem log_lt {b : Int} (h0 : 0 < b) (h : b < 2 ^ 200) : b.natAbs.log2 < 9000 := by
  have h1 : b.natAbs < 2 ^ 200 := by
    have : (b.natAbs : Int) < ((2 ^ 200 : Nat) : Int) := by
      rw [Int.natAbs_of_nonneg (by omega), Int.natCast_pow]
      exact h
    exact Int.ofNat_lt.mp this
  have := (Nat.log2_lt (show b.natAbs ≠ 0 by omega)).mpr h1
  omega
/-- a new list that came beside is known from then on -/
theorem wl_lst {N : Nat} {a l p : Addr} {R H H1 : Hp} {o : HO} (w : Wl N a l R H) (hp : H p = none) (e : Ex H H1) (h : H1 p = some o) : ∃ R1, Ex R R1 ∧ Wl N a l R1 H1 ∧ R1 p = some o ∧ R p = none := by
  obtain ⟨R1, e1, w1, m⟩ := w.more e
  have := w.deal.off hp
  exact ⟨R1, e1, w1, m _ _ this.1 this.2 h, w.free hp⟩
theorem nat_of {v : V} {n : Nat} {r1 r2 : Int} (a0 : 0 ≤ r1) (a1 : r1 < (n : Int) + 1) (b0 : 0 ≤ r2) (b1 : r2 < (n : Int) + 1) {zs : List V} (hz : ∀ z ∈ zs, ∃ k : Nat, z = .int (k : Int) ∧ k ≤ n) (h : v ∈ V.int 0 :: .int (n : Int) :: .int r1 :: .int r2 :: zs) : ∃ k : Nat, v = .int (k : Int) ∧ k ≤ n := by
  rcases List.mem_cons.mp h with rfl | h
  · exact ⟨0, rfl, by omega⟩
  rcases List.mem_cons.mp h with rfl | h
  · exact ⟨n, rfl, by omega⟩
  rcases List.mem_cons.mp h with rfl | h
  · exact ⟨r1.toNat, by rw [show ((r1.toNat : Nat) : Int) = r1 by omega], by omega⟩
  rcases List.mem_cons.mp h with rfl | h
  · exact ⟨r2.toNat, by rw [show ((r2.toNat : Nat) : Int) = r2 by omega], by omega⟩
  exact hz v h
def spRowRight : Sp := fun vs H Q _ => ∃ (a l : Addr) (R : Hp) (q : Int) (n : Nat), vs = [.ref a, .int q, .int (n : Int)] ∧ Wl 2 a l R H ∧ 2 ≤ q ∧ q ≤ 3 ∧ n ≤ 24 ∧ ∀ H', Wl 2 a l R H' → Q (.bl true) H'
section
variable {P : Program} {w : World} {K : PySem.W.Frag} {mg : Str → Option Value} {base : Heap} {f : Addr} {fd : FuncData}
theorem ok__law_row_right (F : FnP K "_law_row_right" s__law_row_right f fd) (Z : Zs mg) (G__law_any : Fn P w K mg base CX0 1 "_law_any" s__law_any ["deal", "bound"] (spAny 2)) (G__law_of : Fn P w K mg base CX0 2 "_law_of" s__law_of ["deal", "some"] (spOf 2 K)) (G__law_times : Fn P w K mg base CX0 1 "_law_times" s__law_times ["one", "other"] (spTimesL K))
    (G__law_same : Fn P w K mg base CX0 4 "_law_same" s__law_same ["told", "due"] (spSame K 2)) (G_step_sum : Fn P w K mg base CX0 2 "step_sum" s_step_sum ["letters", "length", "j", "x"] spStepSum) : FnOk P w K mg base CX0 5 f fd ["deal", "letters", "length"] spRowRight := by
  refine F.ok sc__law_row_right (fun vs H Q E h => ?_) (fun cdv A outer s H vs Q E hr h => ⟨_, PSs.nox (pss_cons (ps_set (i := 3) sc__law_row_right.nd rfl (by first | exact Or.inl rfl | exact Or.inr rfl) (pe_callF G__law_of (hr.mono (by decide)) rfl pass0 (pa_cons (pv 0) (pa_cons (pe_lst (pa_cons pe_int (pa_cons (pv 2) (pa_cons (pe_callF G__law_any (hr.mono (by decide)) rfl pass0 (pa_cons (pv 0) (pa_cons (pe_op op_add (pv 2) pe_int) pa_nil))) (pa_cons (pe_callF G__law_any (hr.mono (by decide)) rfl pass0 (pa_cons (pv 0) (pa_cons (pe_op op_add (pv 2) pe_int) pa_nil))) pa_nil))))) pa_nil))))
  (pss_cons (ps_set (i := 4) sc__law_row_right.nd rfl (by first | exact Or.inl rfl | exact Or.inr rfl) (pe_lst (pa_cons pe_int pa_nil)))
  (pss_cons (ps_for PassesOwn.never rfl (pi_range1 (by rfl) Z.range (pa_cons (pv 2) pa_nil)) (pg_name (i := 5) sc__law_row_right.nd rfl (by first | exact Or.inl rfl | exact Or.inr rfl)) (pss_one (ps_set (i := 4) sc__law_row_right.nd rfl (by first | exact Or.inl rfl | exact Or.inr rfl) (pe_callF G__law_times (hr.mono (by decide)) rfl pass0 (pa_cons (pv 4) (pa_cons (pe_ifExp (pt_cmpR op_lt (pv 5) (pv 3) (nomark _)) (pe_lst (pa_cons pe_int (pa_cons (pe_un un_neg pe_int) pa_nil))) (pe_lst (pa_cons pe_int (pa_cons (pe_op op_sub (pv 1) pe_int) pa_nil)))) pa_nil))))))
  (pss_cons (ps_for PassesOwn.never rfl (pi_list (pe_lst (pa_cons pe_int (pa_cons (pv 2) (pa_cons (pe_callF G__law_any (hr.mono (by decide)) rfl pass0 (pa_cons (pv 0) (pa_cons (pe_op op_add (pv 2) pe_int) pa_nil))) (pa_cons (pe_callF G__law_any (hr.mono (by decide)) rfl pass0 (pa_cons (pv 0) (pa_cons (pe_op op_add (pv 2) pe_int) pa_nil))) (pa_cons (pv 3) pa_nil))))))) (pg_name (i := 6) sc__law_row_right.nd rfl (by first | exact Or.inl rfl | exact Or.inr rfl)) (pss_one (ps_if (pt_not (pt_val (pe_callF G__law_same (hr.mono (by decide)) rfl pass0 (pa_cons (pe_callF G_step_sum (hr.mono (by decide)) rfl pass0 (pa_cons (pv 1) (pa_cons (pv 2) (pa_cons (pv 6) (pa_cons (pv 3) pa_nil))))) (pa_cons (pe_ix (kx_list (K := K)) (pv 4) (pv 6) (fun _ _ => rfl)) pa_nil))))) (pss_one (ps_ret pe_bl)) pss_nil)))
  (pss_one (ps_ret (pe_callF G__law_same (hr.mono (by decide)) rfl pass0 (pa_cons (pe_call0KF G_step_sum (hr.mono (by decide)) kb_step_sum_x_j_length_letters pass0 (pk_cons (pv 3) (pk_cons (pe_op op_fdivW (pv 2) pe_int) (pk_cons (pv 2) (pk_cons (pv 1) pk_nil))))) (pa_cons (pe_ix (kx_list (K := K)) (pv 4) (pe_op op_fdivW (pv 2) pe_int) (fun _ _ => rfl)) pa_nil))))))))), ?_⟩)
  · obtain ⟨a, l, R, q, n, rfl, _⟩ := h
    rfl
  · obtain ⟨a, l, R, q, n, rfl, hw, q0, q1, hn, k⟩ := h
    have lg : ((n : Int) + 1).natAbs.log2 < 9000 := log_lt (by omega) (by omega)
    refine ⟨_, rfl, _, rfl, _, rfl, _, rfl, _, _, rfl, rfl, a, l, R, _, rfl, hw, by omega, lg, fun r1 H1 r10 r11 w1 => ⟨_, rfl, _, rfl, _, _, rfl, rfl, a, l, R, _, rfl, w1, by omega, lg, fun r2 H2 r20 r21 w2 => ⟨by show 4 ≤ sizeLine; decide, fun t ht => ?_⟩⟩⟩
    have w3 := w2.new (o := .lst [V.int 0, .int (n : Int), .int r1, .int r2]) ht
    refine ⟨a, l, t, _, [V.int 0, .int (n : Int), .int r1, .int r2], rfl, w3, sq_of upd_same, by simp, by show 4 ≤ 100; decide, fun v H4 hv w4' => ?_⟩
    have w4 := w4'.weak (Ex.new (w2.free ht))
    obtain ⟨x, rfl, hx⟩ := nat_of r10 r11 r20 r21 (fun z hz => by cases hz) hv
    refine ⟨by decide, fun d hd => ?_⟩
    have w5 := w4.new (o := .lst [V.int 1]) hd
    have e5 := Ex.new (o := .lst [V.int 1]) (w4.free hd)
    have d5 : upd R d (.lst [V.int 1]) d = some (.lst ((stepRow q x 0).map V.int)) := upd_same
    generalize upd R d (.lst [V.int 1]) = R5 at w5 e5 d5
    generalize upd H4 d (.lst [V.int 1]) = H5 at w5 ⊢
    refine ⟨_, rfl, (n : Int), rfl, by omega, by omega, ?_⟩
    rw [show ((n : Nat) : Int).toNat = n by omega]
    refine for_range (lo := 0) (n := n) (fun i σ H' => ∃ (v : Option V) (d : Addr) (R' : Hp), Ex R R' ∧ Wl 2 a l R' H' ∧ R' d = some (.lst ((stepRow q x i).map V.int)) ∧ σ = [some (.ref a), some (.int q), some (.int (n : Int)), some (.int (x : Int)), some (.ref d), v, none]) ⟨none, d, R5, e5, w5, d5, rfl⟩ (fun i σ H' hi y => ?_) (fun σ H' y => ?_)
    · obtain ⟨v, d, R', ex, w6, hd6, rfl⟩ := y
      have e0 : (0 : Int) + (i : Int) = (i : Int) := by omega
      show gName _ (V.int ((0 : Int) + (i : Int))) _ _ _
      rw [e0]
      have sl := step_len q x i
      have key : ∀ (t : Int) (H6 : Hp), (if i < x then (-1 : Int) else q - 1) = t → Wl 2 a l R' H6 → ∀ p H7, H6 p = none → Ex H6 H7 → H7 p = some (.lst ((mulUp (stepRow q x i) [1, t] (stepRow q x i).length).map V.int)) → ∃ R'' : Hp, Ex R R'' ∧ Wl 2 a l R'' H7 ∧ R'' p = some (.lst ((stepRow q x (i + 1)).map V.int)) := by
        intro t H6 ht w6 p H7 hp e7 h7
        rw [mulUp_longer _ _ (by omega)] at h7
        obtain ⟨R1, e1, w7, hR1, _⟩ := wl_lst w6 hp e7 h7
        refine ⟨R1, ex.trans e1, w7, ?_⟩
        rw [hR1]
        show _ = some (HO.lst ((longerL (stepRow q x i) (if i < x then -1 else q - 1)).map V.int))
        rw [ht]
      refine ⟨_, rfl, _, rfl, _, rfl, _, _, rfl, rfl, _, rfl, ?_⟩
      by_cases c : i < x
      · rw [decide_eq_true (show (i : Int) < (x : Int) by omega)]
        refine iteT ⟨1, rfl, by show 2 ≤ sizeLine; decide, fun y hy => ?_⟩
        have ey := Ex.new (o := .lst [V.int 1, .int (-1)]) hy
        refine ⟨d, y, stepRow q x i, [1, -1], rfl, ey _ _ (w6.ex _ _ hd6), upd_same, by omega, by omega, by decide, by decide, by decide, fun p H7 hp e7 h7 => ?_⟩
        obtain ⟨R'', g1, g2, g3⟩ := key (-1) _ (if_pos c) (w6.keep ey) p H7 hp e7 h7
        exact ⟨_, p, R'', g1, g2, g3, rfl⟩
      · rw [decide_eq_false (show ¬ (i : Int) < (x : Int) by omega)]
        refine iteF ⟨_, rfl, _, _, rfl, rfl, by show 2 ≤ sizeLine; decide, fun y hy => ?_⟩
        have ey := Ex.new (o := .lst [V.int 1, .int (q - 1)]) hy
        refine ⟨d, y, stepRow q x i, [1, q - 1], rfl, ey _ _ (w6.ex _ _ hd6), upd_same, by omega, by omega, by show 0 < 2; decide, by show 2 ≤ 100; decide, fun z hz => ?_, fun p H7 hp e7 h7 => ?_⟩
        · rcases List.mem_cons.mp hz with rfl | hz
          · decide
          · rw [List.mem_singleton.mp hz]
            omega
        obtain ⟨R'', g1, g2, g3⟩ := key (q - 1) _ (if_neg c) (w6.keep ey) p H7 hp e7 h7
        exact ⟨_, p, R'', g1, g2, g3, rfl⟩
    · obtain ⟨v, d, R', ex, w6, hd6, rfl⟩ := y
      have sl := step_len q x n
      refine ⟨_, rfl, _, rfl, _, rfl, _, _, rfl, rfl, a, l, R', _, rfl, w6, by omega, lg, fun s1 H7 s10 s11 w7 => ⟨_, rfl, _, rfl, _, _, rfl, rfl, a, l, R', _, rfl, w7, by omega, lg, fun s2 H8 s20 s21 w8 => ⟨_, rfl, by show 5 ≤ sizeLine; decide, fun u hu => ?_⟩⟩⟩
      have w9 := w8.new (o := .lst [V.int 0, .int (n : Int), .int s1, .int s2, .int (x : Int)]) hu
      have e9 := Ex.new (o := .lst [V.int 0, .int (n : Int), .int s1, .int s2, .int (x : Int)]) (w8.free hu)
      have hu9 : upd R' u (.lst [V.int 0, .int (n : Int), .int s1, .int s2, .int (x : Int)]) u = some (.lst [V.int 0, .int (n : Int), .int s1, .int s2, .int (x : Int)]) := upd_same
      generalize upd R' u (.lst [V.int 0, .int (n : Int), .int s1, .int s2, .int (x : Int)]) = R9 at w9 e9 hu9
      generalize upd H8 u (.lst [V.int 0, .int (n : Int), .int s1, .int s2, .int (x : Int)]) = H9 at w9 ⊢
      have hd9 := e9 _ _ hd6
      refine ⟨u, rfl, ⟨_, sq_of (w9.ex _ _ hu9)⟩, for_list (xs := [V.int 0, .int (n : Int), .int s1, .int s2, .int (x : Int)]) (fun i σ H' => Wl 2 a l R9 H' ∧ ∃ v2, σ = [some (.ref a), some (.int q), some (.int (n : Int)), some (.int (x : Int)), some (.ref d), v, v2]) ⟨w9, none, rfl⟩ (fun i σ H' _ h => sq_of (h.1.ex _ _ hu9)) (fun i z σ H' hz h => ?_) (fun σ H' h => ?_)⟩
      · obtain ⟨w10, v2, rfl⟩ := h
        obtain ⟨j, rfl, hj⟩ := nat_of s10 s11 s20 s21 (zs := [.int (x : Int)]) (fun z hz => ⟨x, List.mem_singleton.mp hz, hx⟩) (List.mem_of_getElem? hz)
        refine ⟨_, rfl, _, rfl, _, rfl, _, rfl, q, n, j, x, rfl, q0, q1, hn, hj, hx, ?_⟩
        rw [step_is hn hx]
        refine ⟨_, rfl, _, rfl, d, _, _, _, rfl, rfl, sq_of (w10.ex _ _ hd9), atI_int (by omega), ?_⟩
        exact ⟨_, _, rfl, Sm.scal rfl 2, fun H11 e11 => ⟨_, rfl, iteF ⟨w10.keep e11, _, rfl⟩⟩⟩
      · obtain ⟨w10, v2, rfl⟩ := h
        have h2 : (n : Int) / 2 = ((n / 2 : Nat) : Int) := by omega
        refine ⟨_, rfl, _, rfl, _, _, rfl, rfl, ⟨by decide, by decide⟩, _, rfl, _, rfl, ?_⟩
        refine ⟨q, n, n / 2, x, by rw [← h2]; rfl, q0, q1, hn, by omega, hx, ?_⟩
        rw [step_is hn hx]
        refine ⟨_, rfl, _, rfl, _, _, rfl, rfl, ⟨by decide, by decide⟩, d, _, _, _, rfl, rfl, sq_of (w10.ex _ _ hd9), by rw [h2]; exact atI_int (by omega), ?_⟩
        exact ⟨_, _, rfl, Sm.scal rfl 2, fun H11 e11 => k _ ((w10.weak (ex.trans e9)).keep e11)⟩
end
end K11

namespace K11
open PySem PySem.Spec PyProof.Rows L2 Evl Own
def RetLW (a l : Addr) (R : Hp) (xs : List V) (Q : VK) : Prop := ∀ p R1 H1, R p = none → Ex R R1 → Wl 2 a l R1 H1 → R1 p = some (.lst xs) → Q (.ref p) H1
def spInts : Sp := fun vs H Q _ => ∃ (a l : Addr) (R : Hp) (q : Int) (n : Nat), vs = [.ref a, .int q, .int (n : Int)] ∧ Wl 2 a l R H ∧ 2 ≤ q ∧ q ≤ 3 ∧ n ≤ 24 ∧ ∀ ns : List Int, ns.length = n + 1 → 0 < ns.sum → ns.sum < 2 ^ 1999 → RetLW a l R (ns.map V.int) Q
theorem sum_set : ∀ (xs : List Int) (i : Nat) (v : Int), i < xs.length → (xs.set i v).sum = xs.sum - xs.getD i 0 + v
  | x :: r, 0, v, _ => by
    show v + r.sum = x + r.sum - x + v
    omega
  | x :: r, i + 1, v, h => by
    show x + (r.set i v).sum = x + r.sum - r.getD i 0 + v
    rw [sum_set r i v (by simpa using h)]
    omega
theorem pow_1999 {q : Int} (q0 : 2 ≤ q) (q1 : q ≤ 3) {e : Nat} (he : e < 60) : 0 < q ^ e ∧ q ^ e < 2 ^ 1999 := by
  refine ⟨Int.pow_pos (by omega), ?_⟩
  obtain ⟨m, rfl⟩ : ∃ m : Nat, q = (m : Int) := ⟨q.toNat, by omega⟩
  have h1 : m ^ e ≤ 3 ^ e := Nat.pow_le_pow_left (by omega) _
  have h2 : 3 ^ e ≤ 3 ^ 60 := Nat.pow_le_pow_right (by decide) (by omega)
  have h3 : (3 : Nat) ^ 60 < 2 ^ 1999 := by decide +kernel
  have h4 : m ^ e < 2 ^ 1999 := by omega
  have h5 : ((m ^ e : Nat) : Int) < ((2 ^ 1999 : Nat) : Int) := Int.ofNat_lt.mpr h4
  rw [Int.natCast_pow, Int.natCast_pow] at h5
  exact h5
theorem most_lt {m : Int} (h0 : 1 ≤ m) (h1 : m ≤ 10 ^ 40) : 2 * m + 1 < 2 ^ 200 := by
  have : (2 : Int) * 10 ^ 40 + 1 < 2 ^ 200 := by decide +kernel
  omega
section
variable {P : Program} {w : World} {K : PySem.W.Frag} {mg : Str → Option Value} {base : Heap} {f : Addr} {fd : FuncData}
theorem ok__law_integers (F : FnP K "_law_integers" s__law_integers f fd) (Z : Zs mg) (G__law_any : Fn P w K mg base CX0 1 "_law_any" s__law_any ["deal", "bound"] (spAny 2)) (G__law_of : Fn P w K mg base CX0 2 "_law_of" s__law_of ["deal", "some"] (spOf 2 K)) (G__law_power : Fn P w K mg base CX0 1 "_law_power" s__law_power ["base", "times"] spPow) : FnOk P w K mg base CX0 3 f fd ["deal", "letters", "length"] spInts := by
  refine F.ok sc__law_integers (fun vs H Q E h => ?_) (fun cdv A outer s H vs Q E hr h => ⟨_, PSs.nox (pss_cons (ps_set (i := 3) sc__law_integers.nd rfl (by first | exact Or.inl rfl | exact Or.inr rfl) (pe_callF G__law_of (hr.mono (by decide)) rfl pass0 (pa_cons (pv 0) (pa_cons (pe_lst (pa_cons pe_int (pa_cons pe_int (pa_cons pe_int (pa_cons (pe_op op_pow pe_int pe_int) (pa_cons (pe_op op_pow pe_int pe_int) pa_nil)))))) pa_nil))))
  (pss_cons (ps_set (i := 4) sc__law_integers.nd rfl (by first | exact Or.inl rfl | exact Or.inr rfl) (pe_op op_rep (pe_lst (pa_cons pe_int pa_nil)) (pe_op op_add (pv 2) pe_int)))
  (pss_cons (ps_for PassesOwn.never rfl (pi_range1 (by rfl) Z.range (pa_cons (pe_op op_add (pv 2) pe_int) pa_nil)) (pg_name (i := 5) sc__law_integers.nd rfl (by first | exact Or.inl rfl | exact Or.inr rfl)) (pss_one (ps_if (pt_cmpR op_gt (pe_callF G__law_any (hr.mono (by decide)) rfl pass0 (pa_cons (pv 0) (pa_cons pe_int pa_nil))) pe_int (nomark _)) (pss_one (ps_asg (pe_op op_sub (pe_callF G__law_any (hr.mono (by decide)) rfl pass0 (pa_cons (pv 0) (pa_cons (pe_op op_add (pe_op op_mul pe_int (pv 3)) pe_int) pa_nil))) (pv 3)) (pg_sub (pv 4) (pv 5) set_list))) pss_nil)))
  (pss_cons (ps_set (i := 5) sc__law_integers.nd rfl (by first | exact Or.inl rfl | exact Or.inr rfl) (pe_callF G__law_any (hr.mono (by decide)) rfl pass0 (pa_cons (pv 0) (pa_cons (pe_op op_add (pv 2) pe_int) pa_nil))))
  (pss_cons (ps_asg pe_int (pg_sub (pv 4) (pv 5) set_list))
  (pss_cons (ps_asg (pe_op op_sub (pe_callF G__law_power (hr.mono (by decide)) rfl pass0 (pa_cons (pv 1) (pa_cons (pe_callF G__law_any (hr.mono (by decide)) rfl pass0 (pa_cons (pv 0) (pa_cons pe_int pa_nil))) pa_nil))) (pe_callB (kc_sum (K := K) rfl) (by rfl) Z.sum (by decide +kernel) (pa_cons (pv 4) pa_nil))) (pg_sub (pv 4) (pv 5) set_list))
  (pss_one (ps_ret (pv 4))))))))), ?_⟩)
  · obtain ⟨a, l, R, q, n, rfl, _⟩ := h
    rfl
  · obtain ⟨a, l, R, q, n, rfl, hw, q0, q1, hn, k⟩ := h
    have lg : ((n : Int) + 1).natAbs.log2 < 9000 := log_lt (by omega) (by omega)
    refine ⟨_, rfl, _, _, rfl, rfl, ⟨by decide, by decide, by decide⟩, _, _, rfl, rfl, ⟨by decide, by decide, by decide⟩, by show 5 ≤ sizeLine; decide, fun t ht => ?_⟩
    have w1 := hw.new (o := .lst [V.int 1, .int 3, .int 1000, .int (10 ^ (12 : Int).toNat), .int (10 ^ (40 : Int).toNat)]) ht
    refine ⟨a, l, t, _, [V.int 1, .int 3, .int 1000, .int (10 ^ (12 : Int).toNat), .int (10 ^ (40 : Int).toNat)], rfl, w1, sq_of upd_same, by simp, by show 5 ≤ 100; decide, fun v H2 hv w2' => ?_⟩
    have w2 := w2'.weak (Ex.new (hw.free ht))
    have hm : ∃ m : Int, v = .int m ∧ 1 ≤ m ∧ m ≤ 10 ^ 40 := by
      rcases List.mem_cons.mp hv with rfl | hv
      · exact ⟨1, rfl, by decide, by decide +kernel⟩
      rcases List.mem_cons.mp hv with rfl | hv
      · exact ⟨3, rfl, by decide, by decide +kernel⟩
      rcases List.mem_cons.mp hv with rfl | hv
      · exact ⟨1000, rfl, by decide, by decide +kernel⟩
      rcases List.mem_cons.mp hv with rfl | hv
      · exact ⟨_, rfl, by decide +kernel, by decide +kernel⟩
      rcases List.mem_cons.mp hv with rfl | hv
      · exact ⟨_, rfl, by decide +kernel, by decide +kernel⟩
      cases hv
    obtain ⟨m, rfl, m0, m1⟩ := hm
    have mb := most_lt m0 m1
    clear hv m1 w1 w2'
    refine ⟨by decide, fun z hz => ⟨_, rfl, _, _, rfl, rfl, ?_⟩⟩
    have w3 := w2.new (o := .lst [V.int 0]) hz
    have e3 := Ex.new (o := .lst [V.int 0]) (w2.free hz)
    show rRep (.ref z) (.int (((n + 1 : Nat)) : Int)) _ _
    refine rep_lst upd_same (by omega) fun L hL => ?_
    have w4 := w3.new (o := .lst (List.replicate (n + 1) (V.int 0))) hL
    have RL : R L = none := fresh_back e3 (w3.free hL)
    have e4 := e3.trans (Ex.new (o := .lst (List.replicate (n + 1) (V.int 0))) (w3.free hL))
    have h4 : upd (upd R z (.lst [V.int 0])) L (.lst (List.replicate (n + 1) (V.int 0))) L = some (.lst ((List.replicate (n + 1) (0 : Int)).map V.int)) := by
      rw [upd_same, List.map_replicate]
    generalize upd (upd R z (.lst [V.int 0])) L (.lst (List.replicate (n + 1) (V.int 0))) = R4 at w4 e4 h4
    generalize upd (upd H2 z (.lst [V.int 0])) L (.lst (List.replicate (n + 1) (V.int 0))) = H4 at w4 ⊢
    refine ⟨_, rfl, _, _, rfl, rfl, ((n : Int) + 1), rfl, by omega, by omega, ?_⟩
    rw [show ((n : Int) + 1).toNat = n + 1 by omega]
    refine for_range (lo := 0) (n := n + 1) (fun i σ H' => ∃ (v : Option V) (fs : List Int) (R' : Hp), fs.length = n + 1 ∧ Ex R R' ∧ Wl 2 a l R' H' ∧ R' L = some (.lst (fs.map V.int)) ∧ σ = [some (.ref a), some (.int q), some (.int (n : Int)), some (.int m), some (.ref L), v]) ⟨none, _, R4, List.length_replicate .., e4, w4, h4, rfl⟩ (fun i σ H' hi y => ?_) (fun σ H' y => ?_)
    · obtain ⟨v, fs, R', fl, ex, w5, h5, rfl⟩ := y
      have e0 : (0 : Int) + (i : Int) = (i : Int) := by omega
      show gName _ (V.int ((0 : Int) + (i : Int))) _ _ _
      rw [e0]
      refine ⟨_, rfl, a, l, R', 3, rfl, w5, by decide, log_lt (by decide) (by decide), fun r1 H6 r10 r11 w6 => ⟨_, _, rfl, rfl, _, rfl, ?_⟩⟩
      by_cases c : (0 : Int) < r1
      · rw [decide_eq_true c]
        refine iteT ⟨_, rfl, _, rfl, _, _, rfl, rfl, .inl ⟨by decide, by decide⟩, _, _, rfl, rfl, a, l, R', _, rfl, w6, by omega, log_lt (by omega) mb, fun r2 H7 r20 r21 w7 => ⟨_, rfl, _, _, rfl, rfl, _, rfl, _, rfl, L, _, _, i, rfl, rfl, w7.ex _ _ h5, ixN_nat (by rw [List.length_map]; omega), ?_⟩⟩
        rw [int_set]
        exact ⟨_, fs.set i (r2 - m), _, by rw [List.length_set]; exact fl, ex_side ex RL, w7.mut h5, upd_same, rfl⟩
      · rw [decide_eq_false c]
        exact iteF ⟨_, fs, R', fl, ex, w6, h5, rfl⟩
    · obtain ⟨v, fs, R', fl, ex, w5, h5, rfl⟩ := y
      refine ⟨_, rfl, _, rfl, _, _, rfl, rfl, a, l, R', _, rfl, w5, by omega, lg, fun r1 H6 r10 r11 w6 => ?_⟩
      obtain ⟨j, rfl⟩ : ∃ j : Nat, r1 = (j : Int) := ⟨r1.toNat, by omega⟩
      have hj : j < fs.length := by omega
      refine ⟨_, rfl, _, rfl, L, _, _, j, rfl, rfl, w6.ex _ _ h5, ixN_nat (by rw [List.length_map]; exact hj), ?_⟩
      rw [int_set]
      have w7 := w6.mut (o' := .lst ((fs.set j 0).map V.int)) h5
      have ex7 := ex_side (o := .lst ((fs.set j 0).map V.int)) ex RL
      have h7 : upd R' L (.lst ((fs.set j 0).map V.int)) L = some (.lst ((fs.set j 0).map V.int)) := upd_same
      generalize upd R' L (.lst ((fs.set j 0).map V.int)) = R7 at w7 ex7 h7
      generalize upd H6 L (.lst ((fs.set j 0).map V.int)) = H7 at w7 ⊢
      have gl : (fs.set j 0).length = n + 1 := by rw [List.length_set]; exact fl
      have gj : (fs.set j 0).getD j 0 = 0 := by
        rw [List.getD_eq_getElem?_getD, List.getElem?_set_self hj]
        rfl
      generalize fs.set j 0 = gs at h7 gl gj
      refine ⟨_, rfl, _, rfl, a, l, R7, 60, rfl, w7, by decide, log_lt (by decide) (by decide), fun r2 H8 r20 r21 w8 => ?_⟩
      have pw := pow_1999 q0 q1 (e := r2.toNat) (by omega)
      refine ⟨q, r2.toNat, by rw [show ((r2.toNat : Nat) : Int) = r2 by omega]; rfl, by omega, by omega, by omega, ?_⟩
      refine ⟨_, rfl, L, gs, rfl, sq_of (w8.ex _ _ h7), _, _, rfl, rfl, _, rfl, _, rfl, L, _, _, j, rfl, rfl, w8.ex _ _ h7, ixN_nat (by rw [List.length_map]; omega), ?_⟩
      rw [int_set]
      have sm : (gs.set j (q ^ r2.toNat - gs.sum)).sum = q ^ r2.toNat := by
        rw [sum_set gs j _ (by omega), gj]
        omega
      exact ⟨_, rfl, k (gs.set j (q ^ r2.toNat - gs.sum)) (by rw [List.length_set]; exact gl) (by rw [sm]; exact pw.1) (by rw [sm]; exact pw.2) L _ _ RL (ex_side ex7 RL) (w8.mut h7) upd_same⟩
theorem row_sumL (q : Int) (m : Nat) : (stepRow q 0 m).sum = q ^ m := by
  rw [sum_F, step_len]
  have e : sumF (fun i => (stepRow q 0 m).getD i 0) (m + 1) = sumF (rowF q 0 m) (m + 1) := sumF_congr _ fun i _ => row_at q 0 m i
  rw [e, row_sum, if_pos (.inl rfl)]
theorem sum_rep0 : ∀ n : Nat, (List.replicate n (0 : Int)).sum = 0
  | 0 => rfl
  | n + 1 => by
    rw [List.replicate_succ, List.sum_cons, sum_rep0 n]
    rfl
theorem ok__law_lone (F : FnP K "_law_lone" s__law_lone f fd) (Z : Zs mg) (G__law_any : Fn P w K mg base CX0 1 "_law_any" s__law_any ["deal", "bound"] (spAny 2)) (G__law_times : Fn P w K mg base CX0 1 "_law_times" s__law_times ["one", "other"] (spTimesL K)) : FnOk P w K mg base CX0 2 f fd ["deal", "letters", "length"] spInts := by
  refine F.ok sc__law_lone (fun vs H Q E h => ?_) (fun cdv A outer s H vs Q E hr h => ⟨_, PSs.nox (pss_cons (ps_set (i := 3) sc__law_lone.nd rfl (by first | exact Or.inl rfl | exact Or.inr rfl) (pe_callF G__law_any (hr.mono (by decide)) rfl pass0 (pa_cons (pv 0) (pa_cons (pe_op op_add (pv 2) pe_int) pa_nil))))
  (pss_cons (ps_if (pt_cmpR op_eq (pe_callF G__law_any (hr.mono (by decide)) rfl pass0 (pa_cons (pv 0) (pa_cons pe_int pa_nil))) pe_int (nomark _)) (pss_cons (ps_set (i := 4) sc__law_lone.nd rfl (by first | exact Or.inl rfl | exact Or.inr rfl) (pe_op op_cat (pe_lst (pa_cons pe_int pa_nil)) (pe_op op_rep (pe_lst (pa_cons pe_int pa_nil)) (pv 2))))
  (pss_cons (ps_augS (pv 4) (pv 3) (kget_list (K := K)) (pe_op op_sub (pv 1) pe_int) ip_add set_list)
  (pss_one (ps_ret (pv 4))))) pss_nil)
  (pss_cons (ps_set (i := 4) sc__law_lone.nd rfl (by first | exact Or.inl rfl | exact Or.inr rfl) (pe_lst (pa_cons pe_int pa_nil)))
  (pss_cons (ps_for PassesOwn.never rfl (pi_range1 (by rfl) Z.range (pa_cons (pv 3) pa_nil)) (pg_name (i := 5) sc__law_lone.nd rfl (by first | exact Or.inl rfl | exact Or.inr rfl)) (pss_one (ps_set (i := 4) sc__law_lone.nd rfl (by first | exact Or.inl rfl | exact Or.inr rfl) (pe_callF G__law_times (hr.mono (by decide)) rfl pass0 (pa_cons (pv 4) (pa_cons (pe_lst (pa_cons pe_int (pa_cons (pe_op op_sub (pv 1) pe_int) pa_nil))) pa_nil))))))
  (pss_one (ps_ret (pe_op op_cat (pv 4) (pe_op op_rep (pe_lst (pa_cons pe_int pa_nil)) (pe_op op_sub (pv 2) (pv 3)))))))))), ?_⟩)
  · obtain ⟨a, l, R, q, n, rfl, _⟩ := h
    rfl
  · obtain ⟨a, l, R, q, n, rfl, hw, q0, q1, hn, k⟩ := h
    have lg : ((n : Int) + 1).natAbs.log2 < 9000 := log_lt (by omega) (by omega)
    have q1999 : q < 2 ^ 1999 := by
      have : (3 : Int) < 2 ^ 1999 := by decide +kernel
      omega
    refine ⟨_, rfl, _, rfl, _, _, rfl, rfl, a, l, R, _, rfl, hw, by omega, lg, fun r1 H1 r10 r11 w1 => ?_⟩
    obtain ⟨m, rfl⟩ : ∃ m : Nat, r1 = (m : Int) := ⟨r1.toNat, by omega⟩
    have hm : m ≤ n := by omega
    refine ⟨_, rfl, a, l, R, 2, rfl, w1, by decide, log_lt (by decide) (by decide), fun r2 H2 r20 r21 w2 => ⟨rfl, _, rfl, ?_⟩⟩
    rw [dec_int]
    by_cases c : r2 = 0
    · rw [c]
      refine iteT ⟨by decide, fun x hx => ⟨by decide, fun y hy => ⟨_, rfl, ?_⟩⟩⟩
      have w3 := w2.new (o := .lst [V.int 1]) hx
      have e3 := Ex.new (o := .lst [V.int 1]) (w2.free hx)
      have w4 := w3.new (o := .lst [V.int 0]) hy
      have e4 := e3.trans (Ex.new (o := .lst [V.int 0]) (w3.free hy))
      have hx4 := (Ex.new (o := .lst [V.int 0]) hy) _ _ (upd_same (H := H2) (a := x) (o := .lst [V.int 1]))
      refine rep_lst upd_same (by omega) fun z hz => ?_
      have w5 := w4.new (o := .lst (List.replicate n (V.int 0))) hz
      have e5 := e4.trans (Ex.new (o := .lst (List.replicate n (V.int 0))) (w4.free hz))
      have hx5 := (Ex.new (o := .lst (List.replicate n (V.int 0))) hz) _ _ hx4
      refine ⟨x, z, [V.int 1], List.replicate n (V.int 0), rfl, rfl, hx5, upd_same, Nat.le_of_lt (sz_lt (by simp only [List.length_replicate, List.length_singleton]; omega)), fun L hL => ?_⟩
      have w6 := w5.new (o := .lst ([V.int 1] ++ List.replicate n (V.int 0))) hL
      have RL := fresh_back e5 (w5.free hL)
      have e6 := ex_side (o := .lst ([V.int 1] ++ List.replicate n (V.int 0))) e5 RL
      generalize upd (upd (upd R x (.lst [V.int 1])) y (.lst [V.int 0])) z (.lst (List.replicate n (V.int 0))) = R5 at w6 e6
      generalize upd (upd (upd H2 x (.lst [V.int 1])) y (.lst [V.int 0])) z (.lst (List.replicate n (V.int 0))) = H5 at w6 ⊢
      have el : ([V.int 1] ++ List.replicate n (V.int 0)) = (1 :: List.replicate n (0 : Int)).map V.int := by
        rw [List.map_cons, List.map_replicate]
        rfl
      rw [el] at w6 e6 ⊢
      have h6 : upd R5 L (.lst ((1 :: List.replicate n (0 : Int)).map V.int)) L = some (.lst ((1 :: List.replicate n (0 : Int)).map V.int)) := upd_same
      generalize upd R5 L (.lst ((1 :: List.replicate n (0 : Int)).map V.int)) = R6 at w6 e6 h6
      generalize upd H5 L (.lst ((1 :: List.replicate n (0 : Int)).map V.int)) = H6 at w6 ⊢
      have gl : (1 :: List.replicate n (0 : Int)).length = n + 1 := by rw [List.length_cons, List.length_replicate]
      have gsum : (1 :: List.replicate n (0 : Int)).sum = 1 := by rw [List.sum_cons, sum_rep0]; rfl
      generalize (1 :: List.replicate n (0 : Int)) = gs at h6 gl gsum
      refine ⟨_, rfl, _, rfl, L, _, _, _, rfl, rfl, sq_of (w6.ex _ _ h6), atI_int (by omega), _, rfl, _, _, rfl, rfl, _, _, rfl, rfl, L, _, _, m, rfl, rfl, w6.ex _ _ h6, ixN_nat (by rw [List.length_map]; omega), ?_⟩
      rw [int_set]
      have sm : (gs.set m (gs.getD m 0 + (q - 1))).sum = q := by
        rw [sum_set gs m _ (by omega)]
        omega
      exact ⟨_, rfl, k (gs.set m (gs.getD m 0 + (q - 1))) (by rw [List.length_set]; exact gl) (by omega) (by rw [sm]; exact q1999) L _ _ RL (ex_side e6 RL) (w6.mut h6) upd_same⟩
    · rw [beq_eq_false_iff_ne.mpr c]
      refine iteF ⟨by decide, fun x hx => ⟨_, rfl, (m : Int), rfl, by omega, by omega, ?_⟩⟩
      rw [show ((m : Nat) : Int).toNat = m by omega]
      have w3 := w2.new (o := .lst [V.int 1]) hx
      have e3 := Ex.new (o := .lst [V.int 1]) (w2.free hx)
      have h3 : upd R x (.lst [V.int 1]) x = some (.lst ((stepRow q 0 0).map V.int)) := upd_same
      generalize upd R x (.lst [V.int 1]) = R3 at w3 e3 h3
      generalize upd H2 x (.lst [V.int 1]) = H3 at w3 ⊢
      refine for_range (lo := 0) (n := m) (fun i σ H' => ∃ (v : Option V) (d : Addr) (R' : Hp), Ex R R' ∧ Wl 2 a l R' H' ∧ R' d = some (.lst ((stepRow q 0 i).map V.int)) ∧ σ = [some (.ref a), some (.int q), some (.int (n : Int)), some (.int (m : Int)), some (.ref d), v]) ⟨none, x, R3, e3, w3, h3, rfl⟩ (fun i σ H' hi y => ?_) (fun σ H' y => ?_)
      · obtain ⟨v, d, R', ex, w6, hd6, rfl⟩ := y
        have sl := step_len q 0 i
        refine ⟨_, rfl, _, rfl, _, _, rfl, rfl, by show 2 ≤ sizeLine; decide, fun y hy => ?_⟩
        have ey := Ex.new (o := .lst [V.int 1, .int (q - 1)]) hy
        refine ⟨d, y, stepRow q 0 i, [1, q - 1], rfl, ey _ _ (w6.ex _ _ hd6), upd_same, by omega, by omega, by show 0 < 2; decide, by show 2 ≤ 100; decide, fun z hz => ?_, fun p H7 hp e7 h7 => ?_⟩
        · rcases List.mem_cons.mp hz with rfl | hz
          · decide
          · rw [List.mem_singleton.mp hz]
            omega
        rw [mulUp_longer _ _ (by omega)] at h7
        obtain ⟨R1, e1, w7, hR1, _⟩ := wl_lst (w6.keep ey) hp e7 h7
        refine ⟨_, p, R1, ex.trans e1, w7, ?_, rfl⟩
        rw [hR1]
        show _ = some (HO.lst ((longerL (stepRow q 0 i) (if i < 0 then -1 else q - 1)).map V.int))
        rw [if_neg (by omega)]
      · obtain ⟨v, d, R', ex, w6, hd6, rfl⟩ := y
        refine ⟨_, rfl, by decide, fun z hz => ⟨_, rfl, _, rfl, _, _, rfl, rfl, ?_⟩⟩
        show rRep (.ref z) (.int ((n : Int) - (m : Int))) _ _
        rw [show (n : Int) - (m : Int) = ((n - m : Nat) : Int) by omega]
        have w7 := w6.new (o := .lst [V.int 0]) hz
        have e7 := ex.trans (Ex.new (o := .lst [V.int 0]) (w6.free hz))
        have hd7 := (Ex.new (o := .lst [V.int 0]) hz) _ _ (w6.ex _ _ hd6)
        refine rep_lst upd_same (by omega) fun y hy => ?_
        have w8 := w7.new (o := .lst (List.replicate (n - m) (V.int 0))) hy
        have e8 := e7.trans (Ex.new (o := .lst (List.replicate (n - m) (V.int 0))) (w7.free hy))
        have hd8 := (Ex.new (o := .lst (List.replicate (n - m) (V.int 0))) hy) _ _ hd7
        have sl := step_len q 0 m
        refine ⟨d, y, _, _, rfl, rfl, hd8, upd_same, Nat.le_of_lt (sz_lt (by simp only [List.length_replicate, List.length_map]; omega)), fun L hL => ?_⟩
        have el : (stepRow q 0 m).map V.int ++ List.replicate (n - m) (V.int 0) = (stepRow q 0 m ++ List.replicate (n - m) (0 : Int)).map V.int := by
          rw [List.map_append, List.map_replicate]
        rw [el]
        have RL := fresh_back e8 (w8.free hL)
        have sm : (stepRow q 0 m ++ List.replicate (n - m) (0 : Int)).sum = q ^ m := by
          rw [List.sum_append, row_sumL, sum_rep0]
          omega
        have pw := pow_1999 q0 q1 (e := m) (by omega)
        exact k (stepRow q 0 m ++ List.replicate (n - m) (0 : Int)) (by rw [List.length_append, List.length_replicate]; omega) (by rw [sm]; exact pw.1) (by rw [sm]; exact pw.2) L _ _ RL (ex_side e8 RL) (w8.new hL) upd_same
end
end K11

namespace K11
open PySem PySem.Spec PyProof.Rows L2 Evl Own
open PySem.W (mcComb)
def spTold : Sp := fun vs H Q _ => ∃ (q : Int) (n : Nat) (p : Addr) (ns : List Int), vs = [.int q, .int (n : Int), .ref p] ∧ 2 ≤ q ∧ q ≤ 3 ∧ n ≤ 24 ∧ H p = some (.lst (ns.map V.int)) ∧ ns.length = n + 1 ∧ 0 < ns.sum ∧ ns.sum < 2 ^ 1999 ∧ ∀ H', Ex H H' → Q (.bl true) H'
section
variable {P : Program} {w : World} {K : PySem.W.Frag} {mg : Str → Option Value} {base : Heap} {f : Addr} {fd : FuncData}
theorem ok__law_told_right (F : FnP K "_law_told_right" s__law_told_right f fd) (Z : Zs mg) (G__law_tops : Fn P w K mg base CX0 2 "_law_tops" s__law_tops ["letters", "numbers"] (spLTops K)) (G__law_fraction : Fn P w K mg base CX0 2 "_law_fraction" s__law_fraction ["top", "bottom"] (spLFrac K))
    (G__law_same : Fn P w K mg base CX0 4 "_law_same" s__law_same ["told", "due"] (spSame K 2)) (G_told_counts : Fn P w K mg base CX0 4 "told_counts" s_told_counts ["letters", "length", "counts"] (spCounts K)) : FnOk P w K mg base CX0 5 f fd ["letters", "length", "found"] spTold := by
  refine F.ok sc__law_told_right (fun vs H Q E h => ?_) (fun cdv A outer s H vs Q E hr h => ⟨_, PSs.nox (pss_cons (ps_set (i := 3) sc__law_told_right.nd rfl (by first | exact Or.inl rfl | exact Or.inr rfl) (pe_callB (kc_sum (K := K) rfl) (by rfl) Z.sum (by decide +kernel) (pa_cons (pv 2) pa_nil)))
  (pss_cons (ps_set (i := 4) sc__law_told_right.nd rfl (by first | exact Or.inl rfl | exact Or.inr rfl) (pe_callF G__law_tops (hr.mono (by decide)) rfl pass0 (pa_cons (pv 0) (pa_cons (pv 2) pa_nil))))
  (pss_cons (ps_set (i := 5) sc__law_told_right.nd rfl (by first | exact Or.inl rfl | exact Or.inr rfl) (pe_callTy (kc_tuple (K := K)) (by rfl) Z.tuple (by decide +kernel) (pa_cons (pe_lc (own := [("top", 6)]) (g := (gName 6)) rfl sc__law_told_right.nd (pi_list (pv 4)) (blkOk_by (own := [("top", 6)]) (N := ["letters", "length", "found", "size", "tops", "due", "top", "one", "back", "number", "bottom"]) (sc := defScope s__law_told_right) (by decide +kernel)) (fun _ _ _ _ _ => (pg_name (i := 6) sc__law_told_right.nd rfl (Or.inl rfl))) (fun _ _ _ _ _ => pts_nil) (fun _ _ _ _ _ => (pe_callF G__law_fraction (hr.mono (by decide)) rfl pass0 (pa_cons (pv 6) (pa_cons (pv 3) pa_nil))))) pa_nil)))
  (pss_cons (ps_if (pt_not (pt_val (pe_callF G__law_same (hr.mono (by decide)) rfl pass0 (pa_cons (pe_callF G_told_counts (hr.mono (by decide)) rfl pass0 (pa_cons (pv 0) (pa_cons (pv 1) (pa_cons (pe_callTy (kc_tuple (K := K)) (by rfl) Z.tuple (by decide +kernel) (pa_cons (pv 2) pa_nil)) pa_nil)))) (pa_cons (pv 5) pa_nil))))) (pss_one (ps_ret pe_bl)) pss_nil)
  (pss_cons (ps_if (PW.pt (pw_or (pt_cmpR op_ne (pe_ix (kx_list (K := K)) (pv 2) pe_int (fun _ _ => rfl)) pe_int (nomark _)) (pw_or1 (pt_cmpR op_gt (pe_callB (kc_len (K := K)) (by rfl) Z.len PySem.boot_len (pa_cons (pe_lc (own := [("one", 7)]) (g := (gName 7)) rfl sc__law_told_right.nd (pi_tup (pv 5)) (blkOk_by (own := [("one", 7)]) (N := ["letters", "length", "found", "size", "tops", "due", "top", "one", "back", "number", "bottom"]) (sc := defScope s__law_told_right) (by decide +kernel)) (fun _ _ _ _ _ => (pg_name (i := 7) sc__law_told_right.nd rfl (Or.inl rfl))) (fun _ _ _ _ _ => (pts_one (pt_cmpR op_ne (pe_ix (kx_tup (K := K)) (pv 7) pe_int (fun _ _ => rfl)) pe_int (nomark _)))) (fun _ _ _ _ _ => (pv 7))) pa_nil)) pe_int (nomark _))))) (pss_one (ps_ret pe_bl)) pss_nil)
  (pss_cons (ps_set (i := 8) sc__law_told_right.nd rfl (by first | exact Or.inl rfl | exact Or.inr rfl) (pe_callTy (kc_tuple (K := K)) (by rfl) Z.tuple (by decide +kernel) (pa_cons (pe_lc (own := [("number", 9)]) (g := (gName 9)) rfl sc__law_told_right.nd (pi_list (pv 2)) (blkOk_by (own := [("number", 9)]) (N := ["letters", "length", "found", "size", "tops", "due", "top", "one", "back", "number", "bottom"]) (sc := defScope s__law_told_right) (by decide +kernel)) (fun _ _ _ _ _ => (pg_name (i := 9) sc__law_told_right.nd rfl (Or.inl rfl))) (fun _ _ _ _ _ => pts_nil) (fun _ _ _ _ _ => (pe_tupF (pa_cons (pv 9) (pa_cons pe_int pa_nil))))) pa_nil)))
  (pss_one (ps_ret (pe_callF G__law_same (hr.mono (by decide)) rfl pass0 (pa_cons (pe_callF G_told_counts (hr.mono (by decide)) rfl pass0 (pa_cons (pv 0) (pa_cons (pv 1) (pa_cons (pe_callTy (kc_tuple (K := K)) (by rfl) Z.tuple (by decide +kernel) (pa_cons (pe_lc (own := [("top", 6), ("bottom", 10)]) (g := (gTup K 2 (gCons (gName 6) (gCons (gName 10) gNil)))) rfl sc__law_told_right.nd (pi_tup (pv 5)) (blkOk_by (own := [("top", 6), ("bottom", 10)]) (N := ["letters", "length", "found", "size", "tops", "due", "top", "one", "back", "number", "bottom"]) (sc := defScope s__law_told_right) (by decide +kernel)) (fun _ _ _ _ _ => (pg_tup rfl (pgs_cons (pg_name (i := 6) sc__law_told_right.nd rfl (Or.inl rfl)) (pgs_cons (pg_name (i := 10) sc__law_told_right.nd rfl (Or.inl rfl)) pgs_nil)))) (fun _ _ _ _ _ => pts_nil) (fun _ _ _ _ _ => (pv 6))) pa_nil)) pa_nil)))) (pa_cons (pv 8) pa_nil))))))))))), ?_⟩)
  · obtain ⟨q, n, p, ns, rfl, _⟩ := h
    rfl
  · obtain ⟨q, n, p, ns, rfl, q0, q1, hn, hp, hl, s0, s1, k⟩ := h
    refine ⟨_, rfl, p, ns, rfl, sq_of hp, ?_⟩
    refine ⟨_, rfl, _, rfl, q, p, ns, rfl, q0, q1, hp, by omega, by omega, fun t H1 ht e1 h1 => ?_⟩
    rw [← tops_horn q n ns hl] at h1
    have tl := tops_len q n ns (n + 1)
    have tw := told_twice (q := q) (n := n) (ns := ns) (by omega) hl
    have lg := log_1999 s0 s1
    refine ⟨_, rfl, t, rfl, ⟨_, sq_of h1⟩, lcX (fun i acc H' => ∃ es, acc = es.map V.ref ∧ LstP K H' es (((topsR q n ns (n + 1)).take i).map (frac ns.sum)) ∧ i ≤ n + 1) (walk_list (xs := (topsR q n ns (n + 1)).map V.int)) (fun D _ => ⟨[], rfl, ⟨rfl, fun i e f h => by cases h⟩, by omega⟩) (fun H' e => sq_of (e _ _ h1)) (fun i acc H' s => ?_)
      (fun i D acc H2 x H3 hi ex hD hacc s y K1 K0 k1 k0 => ?_) (fun D acc H2 hD ex hacc s => ?_)⟩
    · obtain ⟨es, rfl, l, hi⟩ := s
      rw [List.length_map, l.len, List.length_map, List.length_take]
      omega
    · obtain ⟨rfl, g⟩ := y
      obtain ⟨rfl, hi'⟩ := int_at g
      obtain ⟨es, rfl, l, _⟩ := s
      refine ⟨rfl, yes_go ⟨_, rfl, _, rfl, (topsR q n ns (n + 1)).getD i 0, ns.sum, rfl, s0, s1, fun e H5 e5 he => ?_⟩⟩
      refine k1 _ H5 e5 ⟨es ++ [e], by rw [List.map_append]; rfl, ?_, by omega⟩
      have tk : ((topsR q n ns (n + 1)).take (i + 1)).map (frac ns.sum) = ((topsR q n ns (n + 1)).take i).map (frac ns.sum) ++ [frac ns.sum ((topsR q n ns (n + 1)).getD i 0)] := by
        rw [List.take_succ, List.getElem?_eq_getElem hi', List.map_append, List.getD_eq_getElem?_getD, List.getElem?_eq_getElem hi']
        rfl
      rw [tk]
      exact ((l.ex e5).push he).mut (e5 _ _ hacc)
    · obtain ⟨es, rfl, l, _⟩ := s
      rw [List.length_map, tl, List.take_of_length_le (by omega)] at l
      refine ⟨D, _, rfl, .inl ⟨sq_of hacc, RetU.new (K := K) (H := H2) (fun due H5 e5 hdue => ?_) (Ex.refl _)⟩⟩
      have l5 := l.ex e5
      have td : TpP K H5 due ((topsR q n ns (n + 1)).map (frac ns.sum)) := ⟨es, hdue, l5⟩
      have hp5 := e5 _ _ (ex _ _ (e1 _ _ hp))
      have e05 := e1.trans (ex.trans e5)
      refine ⟨_, rfl, _, rfl, _, rfl, p, _, rfl, .inl ⟨sq_of hp5, RetU.new (K := K) (H := H5) (fun tf H6 e6 htf => ?_) (Ex.refl _)⟩⟩
      refine ⟨q, n, tf, ns, rfl, q0, q1, hn, htf, hl, s0, lg, fun c H7 e7 hc => ?_⟩
      have e57 := e6.trans e7
      refine ⟨_, rfl, _, _, rfl, Sm.pairs hc (td.ex e57) (by rw [List.length_map]; omega) 0, fun H8 e8 => ⟨_, rfl, iteF ?_⟩⟩
      have e58 := e57.trans e8
      refine ⟨_, rfl, p, _, _, _, rfl, rfl, sq_of (e58 _ _ hp5), atI_int (i := 0) (by omega), rfl, _, rfl, ?_⟩
      rw [dec_int]
      by_cases c0 : ns.getD 0 0 = 1
      rotate_left
      · rw [beq_eq_false_iff_ne.mpr c0]
        exact iteT (iteT (k _ (e05.trans e58)))
      rw [c0]
      refine iteF ?_
      have td8 := td.ex e58
      obtain ⟨es8, hdue8, l8⟩ := td8
      have fl : ((topsR q n ns (n + 1)).map (frac ns.sum)).length = n + 1 := by rw [List.length_map, tl]
      have el : es8.length = n + 1 := by rw [l8.len, fl]
      have fat : ∀ i e, es8[i]? = some e → Tp K H8 e (pairL (((topsR q n ns (n + 1)).map (frac ns.sum)).getD i (0, 1))) := fun i e he => by
        have hi := (List.getElem?_eq_some_iff.mp he).1
        refine l8.at_ i e _ he ?_
        rw [List.getD_eq_getElem?_getD, List.getElem?_eq_getElem (show i < ((topsR q n ns (n + 1)).map (frac ns.sum)).length by omega)]
        rfl
      refine ⟨_, rfl, due, rfl, ⟨_, hdue8.sq⟩, lcP (walk_tup (xs := es8.map V.ref)) (fun H' e => (hdue8.ex e).sq) (by rw [List.length_map]; omega) (fun i => decide ((((topsR q n ns (n + 1)).map (frac ns.sum)).getD i (0, 1)).2 ≠ 1)) (fun i => (es8.map V.ref).getD i .non) (fun i H9 x H10 hi e y K1 K0 k1 k0 => ?_) (fun D2 H9 hD2 e9 h9 => ?_)⟩
      · obtain ⟨rfl, g⟩ := y
        have gx : x = (es8.map V.ref).getD i .non := by
          rw [List.getD_eq_getElem?_getD, g]
          rfl
        rw [List.getElem?_map] at g
        cases he : es8[i]? with
        | none =>
          rw [he] at g
          cases g
        | some e1 =>
          rw [he] at g
          cases g
          have tp := (fat i e1 he).ex e
          generalize ((topsR q n ns (n + 1)).map (frac ns.sum)).getD i (0, 1) = fr at tp k1 k0
          refine ⟨rfl, _, rfl, e1, pairL fr, _, .int fr.2, rfl, rfl, tp.sq, atI_nat (j := 1) rfl, rfl, _, rfl, ?_⟩
          rw [dec_int]
          by_cases c : fr.2 = 1
          · rw [c]
            exact iteF (k0 (by rw [c]; rfl) _ (Ex.refl _))
          · rw [beq_eq_false_iff_ne.mpr c]
            have := k1 (decide_eq_true c) _ (Ex.refl _)
            rw [← gx] at this
            exact iteT ⟨_, rfl, this⟩
      refine ⟨D2, _, rfl, .inl (sq_of h9), _, _, rfl, rfl, _, rfl, ?_⟩
      have e08 := e05.trans (e58.trans e9)
      by_cases c1 : (0 : Int) < ((given (es8.map V.ref).length (fun i => decide ((((topsR q n ns (n + 1)).map (frac ns.sum)).getD i (0, 1)).2 ≠ 1)) (fun i => (es8.map V.ref).getD i .non)).length : Nat)
      · rw [decide_eq_true c1]
        exact iteT (k _ e08)
      rw [decide_eq_false c1]
      have all1 : ∀ t ∈ topsR q n ns (n + 1), (frac ns.sum t).2 = 1 := by
        intro t ht
        obtain ⟨i, hi, rfl⟩ := List.getElem_of_mem ht
        by_cases c : (frac ns.sum (topsR q n ns (n + 1))[i]).2 = 1
        · exact c
        · exfalso
          apply c1
          unfold given
          rw [List.length_map]
          have : i ∈ (List.range (es8.map V.ref).length).filter (fun i => decide ((((topsR q n ns (n + 1)).map (frac ns.sum)).getD i (0, 1)).2 ≠ 1)) := by
            refine List.mem_filter.mpr ⟨List.mem_range.mpr (by rw [List.length_map]; omega), ?_⟩
            rw [List.getD_eq_getElem?_getD, List.getElem?_map, List.getElem?_eq_getElem hi]
            exact decide_eq_true c
          have := List.length_pos_of_mem this
          omega
      obtain ⟨D0, D1, tw3⟩ := tw c0 s0 all1
      refine iteF ?_
      have hp9 := e9 _ _ (e58 _ _ hp5)
      have td9 := td.ex (e58.trans e9)
      refine ⟨_, rfl, p, rfl, ⟨_, sq_of hp9⟩, lcX (fun i acc H' => ∃ es, acc = es.map V.ref ∧ LstP K H' es ((ns.take i).map fun v => (v, 1)) ∧ i ≤ n + 1) (walk_list (xs := ns.map V.int)) (fun D _ => ⟨[], rfl, ⟨rfl, fun i e f h => by cases h⟩, by omega⟩) (fun H' e => sq_of (e _ _ hp9)) (fun i acc H' s => ?_)
        (fun i D acc H2 x H3 hi ex hD hacc s y K1 K0 k1 k0 => ?_) (fun D acc H10 hD ex hacc s => ?_)⟩
      · obtain ⟨es, rfl, l, hi⟩ := s
        rw [List.length_map, l.len, List.length_map, List.length_take]
        omega
      · obtain ⟨rfl, g⟩ := y
        obtain ⟨rfl, hi'⟩ := int_at g
        obtain ⟨es, rfl, l, _⟩ := s
        refine ⟨rfl, yes_go ⟨_, rfl, by show 2 ≤ sizeLine; decide, fun T o hT ho => ?_⟩⟩
        have eT := Ex.new (o := .frz o (.tup [.int (ns.getD i 0), .int 1])) hT
        refine k1 _ _ eT ⟨es ++ [T], by rw [List.map_append]; rfl, ?_, by omega⟩
        have tk : (ns.take (i + 1)).map (fun v => (v, (1 : Int))) = (ns.take i).map (fun v => (v, 1)) ++ [(ns.getD i 0, 1)] := by
          rw [List.take_succ, List.getElem?_eq_getElem hi', List.map_append, List.getD_eq_getElem?_getD, List.getElem?_eq_getElem hi']
          rfl
        rw [tk]
        exact ((l.ex eT).push (Tp.of ho upd_same)).mut (eT _ _ hacc)
      · obtain ⟨es, rfl, l, _⟩ := s
        rw [List.length_map, hl, List.take_of_length_le (by omega)] at l
        refine ⟨D, _, rfl, .inl ⟨sq_of hacc, RetU.new (K := K) (H := H10) (fun back H11 e11 hback => ?_) (Ex.refl _)⟩⟩
        have tb : TpP K H11 back (ns.map fun v => (v, 1)) := ⟨es, hback, l.ex e11⟩
        have e911 := ex.trans e11
        have td11 := td9.ex e911
        obtain ⟨es1, hdue1, l1⟩ := td11
        have el1 : es1.length = n + 1 := by rw [l1.len, fl]
        refine ⟨_, rfl, _, rfl, _, rfl, due, rfl, ⟨_, hdue1.sq⟩, lcP (walk_tup (xs := es1.map V.ref)) (fun H' e => (hdue1.ex e).sq) (by rw [List.length_map]; omega) (fun _ => true) (fun i => .int (((topsR q n ns (n + 1)).map fun t => (frac ns.sum t).1).getD i 0)) (fun i H12 x H13 hi e y K1 K0 k1 k0 => ?_) (fun D3 H12 hD3 e12 h12 => ?_)⟩
        · obtain ⟨rfl, g⟩ := y
          rw [List.getElem?_map] at g
          cases he : es1[i]? with
          | none =>
            rw [he] at g
            cases g
          | some e1 =>
            rw [he] at g
            cases g
            have hi1 := (List.getElem?_eq_some_iff.mp he).1
            have ft : ((topsR q n ns (n + 1)).map (frac ns.sum))[i]? = some (frac ns.sum ((topsR q n ns (n + 1))[i]'(by omega))) := by
              rw [List.getElem?_map, List.getElem?_eq_getElem (by omega)]
              rfl
            have tp := (l1.at_ i e1 _ he ft).ex e
            have ev : ((topsR q n ns (n + 1)).map fun t => (frac ns.sum t).1).getD i 0 = (frac ns.sum ((topsR q n ns (n + 1))[i]'(by omega))).1 := by
              rw [List.getD_eq_getElem?_getD, List.getElem?_map, List.getElem?_eq_getElem (by omega)]
              rfl
            rw [ev] at k1
            refine ⟨e1, _, rfl, tp.sq, rfl, _, _, rfl, _, _, rfl, rfl, rfl, yes_go ⟨_, rfl, k1 rfl _ (Ex.refl _)⟩⟩
        · rw [given_all, List.length_map, el1] at h12
          have dl : ((topsR q n ns (n + 1)).map fun t => (frac ns.sum t).1).length = n + 1 := by rw [List.length_map, tl]
          generalize ((topsR q n ns (n + 1)).map fun t => (frac ns.sum t).1) = dd at h12 dl D0 D1 tw3
          rw [← dl, range_map 0 V.int dd] at h12
          have lg2 : dd.sum.natAbs.log2 < 9000 := by
            have := pow_1999 q0 q1 (e := n) (by omega)
            exact log_1999 D0 (by omega)
          refine ⟨D3, _, rfl, .inl ⟨sq_of h12, RetU.new (K := K) (H := H12) (fun td' H13 e13 htd => ?_) (Ex.refl _)⟩⟩
          refine ⟨q, n, td', dd, rfl, q0, q1, hn, htd, dl, D0, lg2, fun c H14 e14 hc => ?_⟩
          rw [tw3] at hc
          have e1214 := e12.trans (e13.trans e14)
          refine ⟨_, rfl, _, _, rfl, Sm.pairs hc (tb.ex e1214) (by rw [List.length_map]; omega) 0, fun H15 e15 => ?_⟩
          exact k _ (e08.trans (e911.trans (e1214.trans e15)))
end
end K11

namespace K11
open PySem PySem.Spec PyProof.Rows L2 Evl Own
open PySem.W (mcComb)
theorem Tab.known {top n N : Nat} {L a l : Addr} {H0 H R1 : Hp} (t : Tab top n L H0 H) (hL : H0 L = none) (w : Deal N H0 a l) (m : ∀ b o, b ≠ a → b ≠ l → H b = some o → R1 b = some o) : Tab top n L H0 R1 := by
  obtain ⟨es, h1, h2, h3⟩ := t
  have o := w.off hL
  refine ⟨es, m _ _ o.1 o.2 h1, h2, fun i e h => ?_⟩
  obtain ⟨h4, h5⟩ := h3 i e h
  have o' := w.off h4.2
  exact ⟨h4, m _ _ o'.1 o'.2 h5⟩
def spMomR : Sp := fun vs H Q _ => ∃ (a l : Addr) (R : Hp) (q : Int) (n : Nat) (p : Addr) (ns : List Int), vs = [.ref a, .int q, .int (n : Int), .ref p] ∧ Wl 2 a l R H ∧ n ≤ 24 ∧ R p = some (.lst (ns.map V.int)) ∧ ns.length = n + 1 ∧ ∀ H', Wl 2 a l R H' → Q (.bl true) H'
theorem pasc_small {n i p : Nat} (hn : n ≤ 24) (hi : i ≤ 24) (hp : p ≤ n) : ((pasc n i).getD p 0).natAbs < 2 ^ 64 := by
  rw [pasc_at n i p hp, ← comb_is hi]
  exact comb_small i hi p (by omega)
section
variable {P : Program} {w : World} {K : PySem.W.Frag} {mg : Str → Option Value} {base : Heap} {f : Addr} {fd : FuncData}
theorem ok__law_moment_right (F : FnP K "_law_moment_right" s__law_moment_right f fd) (Z : Zs mg) (G__law_any : Fn P w K mg base CX0 1 "_law_any" s__law_any ["deal", "bound"] (spAny 2)) (G__law_pascal : Fn P w K mg base CX0 1 "_law_pascal" s__law_pascal ["top"] spPascal)
    (G__law_same : Fn P w K mg base CX0 4 "_law_same" s__law_same ["told", "due"] (spSame K 2)) (G_moment : Fn P w K mg base CX0 1 "moment" s_moment ["letters", "counts", "r"] (spMoment K)) : FnOk P w K mg base CX0 5 f fd ["deal", "letters", "length", "found"] spMomR := by
  refine F.ok sc__law_moment_right (fun vs H Q E h => ?_) (fun cdv A outer s H vs Q E hr h => ⟨_, PSs.nox (pss_cons (ps_set (i := 4) sc__law_moment_right.nd rfl (by first | exact Or.inl rfl | exact Or.inr rfl) (pe_callF G__law_pascal (hr.mono (by decide)) rfl pass0 (pa_cons (pv 2) pa_nil)))
  (pss_cons (ps_for PassesOwn.never rfl (pi_list (pe_lst (pa_cons pe_int (pa_cons pe_int (pa_cons (pv 2) (pa_cons (pe_callF G__law_any (hr.mono (by decide)) rfl pass0 (pa_cons (pv 0) (pa_cons (pe_op op_add (pv 2) pe_int) pa_nil))) (pa_cons (pe_op op_add (pe_op op_add (pv 2) pe_int) (pe_callF G__law_any (hr.mono (by decide)) rfl pass0 (pa_cons (pv 0) (pa_cons pe_int pa_nil)))) pa_nil))))))) (pg_name (i := 5) sc__law_moment_right.nd rfl (by first | exact Or.inl rfl | exact Or.inr rfl)) (pss_cons (ps_set (i := 6) sc__law_moment_right.nd rfl (by first | exact Or.inl rfl | exact Or.inr rfl) (pe_ifExp (pt_cmpR op_le (pv 5) (pv 2) (nomark _)) (pe_callB (kc_sum (K := K) rfl) (by rfl) Z.sum (by decide +kernel) (pa_cons (pe_lc (own := [("at", 7)]) (g := (gName 7)) rfl sc__law_moment_right.nd (pi_range1 (by rfl) Z.range (pa_cons (pe_op op_add (pv 2) pe_int) pa_nil)) (blkOk_by (own := [("at", 7)]) (N := ["deal", "letters", "length", "found", "table", "r", "due", "at"]) (sc := defScope s__law_moment_right) (by decide +kernel)) (fun _ _ _ _ _ => (pg_name (i := 7) sc__law_moment_right.nd rfl (Or.inl rfl))) (fun _ _ _ _ _ => pts_nil) (fun _ _ _ _ _ => (pe_op op_mul (pe_ix (kx_list (K := K)) (pv 3) (pv 7) (fun _ _ => rfl)) (pe_ix (kx_list (K := K)) (pe_ix (kx_list (K := K)) (pv 4) (pe_op op_sub (pv 2) (pv 7)) (fun _ _ => rfl)) (pv 5) (fun _ _ => rfl))))) pa_nil)) pe_int))
  (pss_one (ps_if (pt_not (pt_val (pe_callF G__law_same (hr.mono (by decide)) rfl pass0 (pa_cons (pe_callF G_moment (hr.mono (by decide)) rfl pass0 (pa_cons (pv 1) (pa_cons (pe_callTy (kc_tuple (K := K)) (by rfl) Z.tuple (by decide +kernel) (pa_cons (pv 3) pa_nil)) (pa_cons (pv 5) pa_nil)))) (pa_cons (pv 6) pa_nil))))) (pss_one (ps_ret pe_bl)) pss_nil))))
  (pss_one (ps_ret pe_bl)))), ?_⟩)
  · obtain ⟨a, l, R, q, n, p, ns, rfl, _⟩ := h
    rfl
  · obtain ⟨a, l, R, q, n, p, ns, rfl, hw, hn, hp, hl, k⟩ := h
    have lg : ((n : Int) + 1).natAbs.log2 < 9000 := log_lt (by omega) (by omega)
    refine ⟨_, rfl, n, rfl, by omega, fun L H1 hL e1 tb => ?_⟩
    obtain ⟨R1, er1, w1, m1⟩ := hw.more e1
    have tb1 : Tab n (n + 1) L H R1 := tb.known hL hw.deal m1
    clear m1 tb
    refine ⟨_, rfl, _, rfl, _, rfl, _, _, rfl, rfl, a, l, R1, _, rfl, w1, by omega, lg, fun r1 H2 r10 r11 w2 => ⟨_, rfl, _, _, rfl, rfl, _, rfl, a, l, R1, 100, rfl, w2, by decide, log_lt (by decide) (by decide), fun r2 H3 r20 r21 w3 => ⟨_, _, rfl, rfl, by show 5 ≤ sizeLine; decide, fun u hu => ?_⟩⟩⟩
    have w4 := w3.new (o := .lst [V.int 0, .int 1, .int (n : Int), .int r1, .int ((n : Int) + 1 + r2)]) hu
    have e4 := Ex.new (o := .lst [V.int 0, .int 1, .int (n : Int), .int r1, .int ((n : Int) + 1 + r2)]) (w3.free hu)
    have hu4 : upd R1 u (.lst [V.int 0, .int 1, .int (n : Int), .int r1, .int ((n : Int) + 1 + r2)]) u = some (.lst [V.int 0, .int 1, .int (n : Int), .int r1, .int ((n : Int) + 1 + r2)]) := upd_same
    generalize upd R1 u (.lst [V.int 0, .int 1, .int (n : Int), .int r1, .int ((n : Int) + 1 + r2)]) = R4 at w4 e4 hu4
    have tb4 := tb1.ex e4
    have hp4 := e4 _ _ (er1 _ _ hp)
    refine ⟨u, rfl, ⟨_, sq_of (w4.ex _ _ hu4)⟩, for_list (xs := [V.int 0, .int 1, .int (n : Int), .int r1, .int ((n : Int) + 1 + r2)]) (fun i σ H' => Wl 2 a l R4 H' ∧ ∃ v1 v2, σ = [some (.ref a), some (.int q), some (.int (n : Int)), some (.ref p), some (.ref L), v1, v2, none]) ⟨w4, none, none, rfl⟩ (fun i σ H' _ h => sq_of (h.1.ex _ _ hu4)) (fun i z σ H' hz h => ?_) (fun σ H' h => ?_)⟩
    · obtain ⟨w5, v1, v2, rfl⟩ := h
      have hr' : ∃ r : Nat, z = .int (r : Int) ∧ r ≤ 1000 := by
        have h := List.mem_of_getElem? hz
        rcases List.mem_cons.mp h with rfl | h
        · exact ⟨0, rfl, by omega⟩
        rcases List.mem_cons.mp h with rfl | h
        · exact ⟨1, rfl, by omega⟩
        rcases List.mem_cons.mp h with rfl | h
        · exact ⟨n, rfl, by omega⟩
        rcases List.mem_cons.mp h with rfl | h
        · exact ⟨r1.toNat, by rw [show ((r1.toNat : Nat) : Int) = r1 by omega], by omega⟩
        rcases List.mem_cons.mp h with rfl | h
        · exact ⟨((n : Int) + 1 + r2).toNat, by rw [show ((((n : Int) + 1 + r2).toNat : Nat) : Int) = (n : Int) + 1 + r2 by omega], by omega⟩
        cases h
      obtain ⟨r, rfl, hr1⟩ := hr'
      have mi := mom_is (r := r) hn hl
      dsimp only [gName]
      refine asg_join (fun v H' => v = .int (momL n r ns) ∧ Wl 2 a l R4 H') ?_ (fun Qk hk => ?_)
      · rintro v H5 ⟨rfl, w6⟩
        refine ⟨_, rfl, _, rfl, p, _, rfl, .inl ⟨sq_of (w6.ex _ _ hp4), RetU.new (K := K) (H := H5) (fun tf H6 e6 htf => ?_) (Ex.refl _)⟩⟩
        refine ⟨_, rfl, q, n, r, tf, ns, rfl, hn, htf, hl, hr1, fun H7 e7 => ?_⟩
        exact ⟨_, rfl, _, _, rfl, Sm.scal rfl 2, fun H8 e8 => ⟨_, rfl, iteF ⟨w6.keep (e6.trans (e7.trans e8)), _, _, rfl⟩⟩⟩
      · refine ⟨_, rfl, _, rfl, _, _, rfl, rfl, _, rfl, ?_⟩
        by_cases c : r ≤ n
        · rw [decide_eq_true (show (r : Int) ≤ (n : Int) by omega)]
          rw [if_pos c] at mi
          refine iteT ⟨_, rfl, _, _, rfl, rfl, (n : Int) + 1, rfl, by omega, by omega, ?_⟩
          rw [show ((n : Int) + 1).toNat = n + 1 by omega]
          refine lcP (walk_range (lo := 0)) (fun _ _ => trivial) (by omega) (fun _ => true) (fun i => V.int (ns.getD i 0 * (pasc n (n - i)).getD r 0)) (fun i H5 x H6 hi e y K1 K0 k1 k0 => ?_) (fun D H6 hD e6 h6 => ?_)
          · obtain ⟨rfl, rfl⟩ := y
            have e0 : (0 : Int) + (i : Int) = (i : Int) := by omega
            show gName _ (V.int ((0 : Int) + (i : Int))) _ _ _
            rw [e0]
            obtain ⟨es, e2, h1, h2, h3⟩ := (tb4.ex (w5.ex.trans e)).at (i := n - i) (by omega)
            have sm := pasc_small hn (show n - i ≤ 24 by omega) c
            have pl := pasc_len n (n - i)
            have h2' : atI (es.map V.ref) ((n : Int) - (i : Int)) = some (.ref e2) := by
              rw [show (n : Int) - (i : Int) = ((n - i : Nat) : Int) by omega]
              exact h2
            exact ⟨rfl, yes_go ⟨_, rfl, _, rfl, p, _, _, _, rfl, rfl, sq_of (e _ _ (w5.ex _ _ hp4)), atI_int (by omega), _, rfl, _, rfl, _, rfl, _, _, rfl, rfl, L, _, _, _, rfl, rfl, sq_of h1, h2', _, rfl, _, _, _, _, rfl, rfl, sq_of h3, atI_int (by omega), _, _, rfl, rfl, .inr ⟨by omega, by omega⟩, k1 rfl _ (Ex.refl _)⟩⟩
          · rw [given_all] at h6
            have : (List.range (n + 1)).map (fun i => V.int (ns.getD i 0 * (pasc n (n - i)).getD r 0)) = ((List.range (n + 1)).map fun i => ns.getD i 0 * (pasc n (n - i)).getD r 0).map V.int := by
              rw [List.map_map]
              rfl
            rw [this] at h6
            refine ⟨D, _, rfl, sq_of h6, hk _ _ ⟨?_, w5.keep e6⟩⟩
            rw [mi]
        · rw [decide_eq_false (show ¬ (r : Int) ≤ (n : Int) by omega)]
          rw [if_neg c] at mi
          refine iteF (hk _ _ ⟨?_, w5⟩)
          rw [mi]
    · obtain ⟨w5, v1, v2, rfl⟩ := h
      exact k _ (w5.weak (er1.trans e4))
def spLaw (K : PySem.W.Frag) : Sp := fun vs H Q _ => ∃ (a : Addr) (ns : List Int), vs = [.ref a] ∧ SqL K H a (ns.map V.int) ∧ ∀ H', Q (.bl true) H'
theorem ok_law (F : FnP K "law" s_law f fd) (Z : Zs mg) (G__law_deal : Fn P w K mg base CX0 1 "_law_deal" s__law_deal ["script", "salt"] (spDeal 2 K)) (G__law_any : Fn P w K mg base CX0 1 "_law_any" s__law_any ["deal", "bound"] (spAny 2)) (G__law_of : Fn P w K mg base CX0 2 "_law_of" s__law_of ["deal", "some"] (spOf 2 K))
    (G__law_integers : Fn P w K mg base CX0 3 "_law_integers" s__law_integers ["deal", "letters", "length"] spInts) (G__law_row_right : Fn P w K mg base CX0 5 "_law_row_right" s__law_row_right ["deal", "letters", "length"] spRowRight) (G__law_moment_right : Fn P w K mg base CX0 5 "_law_moment_right" s__law_moment_right ["deal", "letters", "length", "found"] spMomR)
    (G__law_told_right : Fn P w K mg base CX0 5 "_law_told_right" s__law_told_right ["letters", "length", "found"] spTold) (G__law_lone : Fn P w K mg base CX0 2 "_law_lone" s__law_lone ["deal", "letters", "length"] spInts) : FnOk P w K mg base CX0 6 f fd ["script"] (spLaw K) := by
  refine F.ok sc_law (fun vs H Q E h => ?_) (fun cdv A outer s H vs Q E hr h => ⟨_, PSs.nox (pss_cons (ps_set (i := 1) sc_law.nd rfl (by first | exact Or.inl rfl | exact Or.inr rfl) (pe_callF G__law_deal (hr.mono (by decide)) rfl pass0 (pa_cons (pv 0) (pa_cons pe_int pa_nil))))
  (pss_cons (ps_set (i := 2) sc_law.nd rfl (by first | exact Or.inl rfl | exact Or.inr rfl) (pe_callF G__law_of (hr.mono (by decide)) rfl pass0 (pa_cons (pv 1) (pa_cons (pe_lst (pa_cons pe_int (pa_cons pe_int pa_nil))) pa_nil))))
  (pss_cons (ps_set (i := 3) sc_law.nd rfl (by first | exact Or.inl rfl | exact Or.inr rfl) (pe_ifExp (pt_cmpR op_eq (pv 2) pe_int (nomark _)) pe_int pe_int))
  (pss_cons (ps_set (i := 4) sc_law.nd rfl (by first | exact Or.inl rfl | exact Or.inr rfl) (pe_callF G__law_of (hr.mono (by decide)) rfl pass0 (pa_cons (pv 1) (pa_cons (pe_lst (pa_cons (pv 3) (pa_cons (pe_callF G__law_any (hr.mono (by decide)) rfl pass0 (pa_cons (pv 1) (pa_cons (pe_op op_add (pv 3) pe_int) pa_nil))) (pa_cons (pe_callF G__law_any (hr.mono (by decide)) rfl pass0 (pa_cons (pv 1) (pa_cons pe_int pa_nil))) pa_nil)))) pa_nil))))
  (pss_cons (ps_set (i := 5) sc_law.nd rfl (by first | exact Or.inl rfl | exact Or.inr rfl) (pe_callF G__law_integers (hr.mono (by decide)) rfl pass0 (pa_cons (pv 1) (pa_cons (pv 2) (pa_cons (pv 4) pa_nil)))))
  (pss_cons (ps_if (PW.pt (pw_or (pt_not (pt_val (pe_callF G__law_row_right (hr.mono (by decide)) rfl pass0 (pa_cons (pv 1) (pa_cons (pv 2) (pa_cons (pv 4) pa_nil)))))) (pw_or1 (pt_not (pt_val (pe_callF G__law_moment_right (hr.mono (by decide)) rfl pass0 (pa_cons (pv 1) (pa_cons (pv 2) (pa_cons (pv 4) (pa_cons (pv 5) pa_nil)))))))))) (pss_one (ps_ret pe_bl)) pss_nil)
  (pss_cons (ps_if (pt_not (pt_val (pe_callF G__law_told_right (hr.mono (by decide)) rfl pass0 (pa_cons (pv 2) (pa_cons (pv 4) (pa_cons (pv 5) pa_nil)))))) (pss_one (ps_ret pe_bl)) pss_nil)
  (pss_one (ps_ret (pe_callF G__law_told_right (hr.mono (by decide)) rfl pass0 (pa_cons (pv 2) (pa_cons (pv 4) (pa_cons (pe_callF G__law_lone (hr.mono (by decide)) rfl pass0 (pa_cons (pv 1) (pa_cons (pv 2) (pa_cons (pv 4) pa_nil)))) pa_nil))))))))))))), ?_⟩)
  · obtain ⟨a, ns, rfl, _⟩ := h
    rfl
  · obtain ⟨a, ns, rfl, ha, k⟩ := h
    refine ⟨_, rfl, a, ns, 11, rfl, ha, by decide, by decide, fun d l H1 w1 => ?_⟩
    refine ⟨_, rfl, by show 2 ≤ sizeLine; decide, fun t ht => ?_⟩
    have w2 := w1.new (o := .lst [V.int 2, .int 3]) ht
    refine ⟨d, l, t, _, [V.int 2, .int 3], rfl, w2, sq_of upd_same, by simp, by show 2 ≤ 100; decide, fun v H3 hv w3' => ?_⟩
    have w3 := w3'.weak (Ex.new (w1.free ht))
    have hq : ∃ q : Int, v = .int q ∧ 2 ≤ q ∧ q ≤ 3 := by
      rcases List.mem_cons.mp hv with rfl | hv
      · exact ⟨2, rfl, by decide, by decide⟩
      · rw [List.mem_singleton.mp hv]
        exact ⟨3, rfl, by decide, by decide⟩
    obtain ⟨q, rfl, q0, q1⟩ := hq
    dsimp only
    refine asg_join (fun v H' => (∃ top : Nat, v = .int (top : Int) ∧ top ≤ 24 ∧ 16 ≤ top) ∧ Wl 2 d l H H') ?_ (fun Qk hk => ?_)
    rotate_left
    · refine ⟨_, rfl, rfl, _, rfl, ?_⟩
      rw [dec_int]
      by_cases c : q = 2
      · rw [c]
        exact iteT (hk _ _ ⟨⟨24, rfl, by decide, by decide⟩, w3⟩)
      · rw [beq_eq_false_iff_ne.mpr c]
        exact iteF (hk _ _ ⟨⟨16, rfl, by decide, by decide⟩, w3⟩)
    rintro v H4 ⟨⟨top, rfl, t24, t16⟩, w4⟩
    refine ⟨_, rfl, _, rfl, _, rfl, _, rfl, _, _, rfl, rfl, d, l, H, _, rfl, w4, by omega, log_lt (by omega) (by omega), fun r1 H5 r10 r11 w5 => ⟨_, rfl, d, l, H, 4, rfl, w5, by decide, log_lt (by decide) (by decide), fun r2 H6 r20 r21 w6 => ⟨by show 3 ≤ sizeLine; decide, fun u hu => ?_⟩⟩⟩
    have w7 := w6.new (o := .lst [V.int (top : Int), .int r1, .int r2]) hu
    refine ⟨d, l, u, _, [V.int (top : Int), .int r1, .int r2], rfl, w7, sq_of upd_same, by simp, by show 3 ≤ 100; decide, fun v H7 hv w8' => ?_⟩
    have w8 := w8'.weak (Ex.new (w6.free hu))
    have hn : ∃ n : Nat, v = .int (n : Int) ∧ n ≤ 24 := by
      rcases List.mem_cons.mp hv with rfl | hv
      · exact ⟨top, rfl, t24⟩
      rcases List.mem_cons.mp hv with rfl | hv
      · exact ⟨r1.toNat, by rw [show ((r1.toNat : Nat) : Int) = r1 by omega], by omega⟩
      · rw [List.mem_singleton.mp hv]
        exact ⟨r2.toNat, by rw [show ((r2.toNat : Nat) : Int) = r2 by omega], by omega⟩
    obtain ⟨n, rfl, n24⟩ := hn
    refine ⟨_, rfl, _, rfl, _, rfl, d, l, H, q, n, rfl, w8, q0, q1, n24, fun zs zl z0 z1 p R1 H8 Hp e8 w9 hp => ?_⟩
    refine ⟨_, rfl, _, rfl, _, rfl, d, l, R1, q, n, rfl, w9, q0, q1, n24, fun H9 w10 => ⟨_, rfl, iteF ?_⟩⟩
    refine ⟨_, rfl, _, rfl, _, rfl, _, rfl, d, l, R1, q, n, p, zs, rfl, w10, n24, hp, zl, fun H10 w11 => ⟨_, rfl, iteF ?_⟩⟩
    refine ⟨_, rfl, _, rfl, _, rfl, q, n, p, zs, rfl, q0, q1, n24, w11.ex _ _ hp, zl, z0, z1, fun H11 e11 => ⟨_, rfl, iteF ?_⟩⟩
    have w12 := w11.keep e11
    refine ⟨_, rfl, _, rfl, _, rfl, _, rfl, _, rfl, d, l, R1, q, n, rfl, w12, q0, q1, n24, fun ys yl y0 y1 p2 R2 H12 Hp2 e12 w13 hp2 => ?_⟩
    exact ⟨q, n, p2, ys, rfl, q0, q1, n24, w13.ex _ _ hp2, yl, y0, y1, fun H13 e13 => k _⟩
end
end K11

set_option maxHeartbeats 0
namespace K11
open PySem PySem.Spec PyProof.Rows L2 Own
/-! ### the head: facts by names, the run -/
def d_fraction_of : He.DefD := ⟨("fraction_of", none), "fraction_of", "fraction_of", defArgs s_fraction_of, defBody s_fraction_of, defScope s_fraction_of, [], []⟩
def d_power_of : He.DefD := ⟨("power_of", none), "power_of", "power_of", defArgs s_power_of, defBody s_power_of, defScope s_power_of, [], []⟩
def d_step_sum : He.DefD := ⟨("step_sum", none), "step_sum", "step_sum", defArgs s_step_sum, defBody s_step_sum, defScope s_step_sum, [], []⟩
def d_longer : He.DefD := ⟨("longer", none), "longer", "longer", defArgs s_longer, defBody s_longer, defScope s_longer, [], []⟩
def d_step_row : He.DefD := ⟨("step_row", none), "step_row", "step_row", defArgs s_step_row, defBody s_step_row, defScope s_step_row, [], []⟩
def d_told_tops : He.DefD := ⟨("told_tops", none), "told_tops", "told_tops", defArgs s_told_tops, defBody s_told_tops, defScope s_told_tops, [], []⟩
def d_told_counts : He.DefD := ⟨("told_counts", none), "told_counts", "told_counts", defArgs s_told_counts, defBody s_told_counts, defScope s_told_counts, [], []⟩
def d_moment : He.DefD := ⟨("moment", none), "moment", "moment", defArgs s_moment, defBody s_moment, defScope s_moment, [], []⟩
def d__law_deal : He.DefD := ⟨("_law_deal", none), "_law_deal", "_law_deal", defArgs s__law_deal, defBody s__law_deal, defScope s__law_deal, [], []⟩
def d__law_any : He.DefD := ⟨("_law_any", none), "_law_any", "_law_any", defArgs s__law_any, defBody s__law_any, defScope s__law_any, [], []⟩
def d__law_of : He.DefD := ⟨("_law_of", none), "_law_of", "_law_of", defArgs s__law_of, defBody s__law_of, defScope s__law_of, [], []⟩
def d__law_same : He.DefD := ⟨("_law_same", none), "_law_same", "_law_same", defArgs s__law_same, defBody s__law_same, defScope s__law_same, [], []⟩
def d__law_power : He.DefD := ⟨("_law_power", none), "_law_power", "_law_power", defArgs s__law_power, defBody s__law_power, defScope s__law_power, [], []⟩
def d__law_gcd : He.DefD := ⟨("_law_gcd", none), "_law_gcd", "_law_gcd", defArgs s__law_gcd, defBody s__law_gcd, defScope s__law_gcd, [], []⟩
def d__law_fraction : He.DefD := ⟨("_law_fraction", none), "_law_fraction", "_law_fraction", defArgs s__law_fraction, defBody s__law_fraction, defScope s__law_fraction, [], []⟩
def d__law_times : He.DefD := ⟨("_law_times", none), "_law_times", "_law_times", defArgs s__law_times, defBody s__law_times, defScope s__law_times, [], []⟩
def d__law_longer : He.DefD := ⟨("_law_longer", none), "_law_longer", "_law_longer", defArgs s__law_longer, defBody s__law_longer, defScope s__law_longer, [], []⟩
def d__law_tops : He.DefD := ⟨("_law_tops", none), "_law_tops", "_law_tops", defArgs s__law_tops, defBody s__law_tops, defScope s__law_tops, [], []⟩
def d__law_pascal : He.DefD := ⟨("_law_pascal", none), "_law_pascal", "_law_pascal", defArgs s__law_pascal, defBody s__law_pascal, defScope s__law_pascal, [], []⟩
def d__law_row_right : He.DefD := ⟨("_law_row_right", none), "_law_row_right", "_law_row_right", defArgs s__law_row_right, defBody s__law_row_right, defScope s__law_row_right, [], []⟩
def d__law_integers : He.DefD := ⟨("_law_integers", none), "_law_integers", "_law_integers", defArgs s__law_integers, defBody s__law_integers, defScope s__law_integers, [], []⟩
def d__law_lone : He.DefD := ⟨("_law_lone", none), "_law_lone", "_law_lone", defArgs s__law_lone, defBody s__law_lone, defScope s__law_lone, [], []⟩
def d__law_told_right : He.DefD := ⟨("_law_told_right", none), "_law_told_right", "_law_told_right", defArgs s__law_told_right, defBody s__law_told_right, defScope s__law_told_right, [], []⟩
def d__law_moment_right : He.DefD := ⟨("_law_moment_right", none), "_law_moment_right", "_law_moment_right", defArgs s__law_moment_right, defBody s__law_moment_right, defScope s__law_moment_right, [], []⟩
def d_law : He.DefD := ⟨("law", none), "law", "law", defArgs s_law, defBody s_law, defScope s_law, [], []⟩
def fnL : List He.DefD := [d_fraction_of, d_power_of, d_step_sum, d_longer, d_step_row, d_told_tops, d_told_counts, d_moment, d__law_deal, d__law_any, d__law_of, d__law_same, d__law_power, d__law_gcd, d__law_fraction, d__law_times, d__law_longer, d__law_tops, d__law_pascal, d__law_row_right, d__law_integers, d__law_lone, d__law_told_right, d__law_moment_right, d_law]
def faL : List He.Fa := [.glo "fraction_of", .glo "power_of", .glo "step_sum", .glo "longer", .glo "step_row", .glo "told_tops", .glo "told_counts", .glo "moment", .glo "_law_deal", .glo "_law_any", .glo "_law_of", .glo "_law_same", .glo "_law_power", .glo "_law_gcd", .glo "_law_fraction", .glo "_law_times", .glo "_law_longer", .glo "_law_tops", .glo "_law_pascal", .glo "_law_row_right", .glo "_law_integers", .glo "_law_lone", .glo "_law_told_right", .glo "_law_moment_right", .glo "law", .free "abs", .free "bool", .free "enumerate", .free "int", .free "isinstance", .free "len", .free "list", .free "min", .free "range", .free "str", .free "sum", .free "tuple"]
def exL : List ExD := []
def biL : BiL := [("comb", "math.comb"), ("gcd", "math.gcd")]
abbrev RR : PySem.W.OpenRow := PySem.W.OpenLaw.row PySem.Challenge.rw_ownmirrors_k11_whole_steps_and_what_is_t
abbrev PR : Program := PySem.Challenge.pw_ownmirrors_k11_whole_steps_and_what_is_t
abbrev fileS : Str := PR.main.file
abbrev hk : PySem.W.Hook := hookW fileS 5 biL faL fnL exL
def ob (s : PySem.W.SharedT) : AlW := obsWG fileS 5 biL faL fnL exL (HandSHeadRun.getT s)
theorem ob_eq (s : PySem.W.SharedT) : ob s = hk.obs s.abs := obsWG_eq (HandSHeadRun.getT_eq s)
def looseL : List Str := ["comb", "gcd", "fraction_of", "power_of", "step_sum", "longer", "step_row", "told_tops", "told_counts", "moment", "_law_deal", "_law_any", "_law_of", "_law_same", "_law_power", "_law_gcd", "_law_fraction", "_law_times", "_law_longer", "_law_tops", "_law_pascal", "_law_row_right", "_law_integers", "_law_lone", "_law_told_right", "_law_moment_right"]
theorem run (w : World) : HandSHeadRun.RunEqI RR (PySem.W.view RR.prog [0, 28]) hk ob 4000 looseL w := by
  unfold HandSHeadRun.RunEqI
  kernel_rfl
theorem facts {w : World} {K : PySem.W.Frag} {h : Heap} {mg : Str → Option Value} {f : Addr} (X : K.In h) (G : h.Ns mainGlobals mg) (hfa : mg ("law" : Str) = some (.ref f)) (c : SaysW fileS biL faL fnL exL K) :
    ∃ fd : FuncData, (∀ (s : Shared) (v : Value), BindsTo s fd ⟨[v], []⟩ [("script", v)]) ∧ ∀ base : Heap, K.In base → base.Ns mainGlobals mg → FnOk PR w K mg base CX0 6 f fd ["script"] (spLaw K) := by
  obtain ⟨fd_fraction_of, F_fraction_of⟩ := c.saysD.def_ 0 (d := d_fraction_of) rfl
  have m_fraction_of : mg "fraction_of" = some (.ref (He.ga K "fraction_of")) := He.glo_ok X G (c.saysD.fact 0 (f := .glo "fraction_of") rfl)
  have b_fraction_of : Binds K fd_fraction_of ["top", "bottom"] [] := FunD.bindsN F_fraction_of fun _ _ _ _ _ _ us hl => match us, hl with | [_, _], _ => rfl
  obtain ⟨fd_power_of, F_power_of⟩ := c.saysD.def_ 1 (d := d_power_of) rfl
  have m_power_of : mg "power_of" = some (.ref (He.ga K "power_of")) := He.glo_ok X G (c.saysD.fact 1 (f := .glo "power_of") rfl)
  have b_power_of : Binds K fd_power_of ["base", "times"] [] := FunD.bindsN F_power_of fun _ _ _ _ _ _ us hl => match us, hl with | [_, _], _ => rfl
  obtain ⟨fd_step_sum, F_step_sum⟩ := c.saysD.def_ 2 (d := d_step_sum) rfl
  have m_step_sum : mg "step_sum" = some (.ref (He.ga K "step_sum")) := He.glo_ok X G (c.saysD.fact 2 (f := .glo "step_sum") rfl)
  have b_step_sum : Binds K fd_step_sum ["letters", "length", "j", "x"] [] := FunD.bindsN F_step_sum fun _ _ _ _ _ _ us hl => match us, hl with | [_, _, _, _], _ => rfl
  obtain ⟨fd_longer, F_longer⟩ := c.saysD.def_ 3 (d := d_longer) rfl
  have m_longer : mg "longer" = some (.ref (He.ga K "longer")) := He.glo_ok X G (c.saysD.fact 3 (f := .glo "longer") rfl)
  have b_longer : Binds K fd_longer ["found", "times"] [] := FunD.bindsN F_longer fun _ _ _ _ _ _ us hl => match us, hl with | [_, _], _ => rfl
  obtain ⟨fd_step_row, F_step_row⟩ := c.saysD.def_ 4 (d := d_step_row) rfl
  have m_step_row : mg "step_row" = some (.ref (He.ga K "step_row")) := He.glo_ok X G (c.saysD.fact 4 (f := .glo "step_row") rfl)
  have b_step_row : Binds K fd_step_row ["letters", "length", "x"] [] := FunD.bindsN F_step_row fun _ _ _ _ _ _ us hl => match us, hl with | [_, _, _], _ => rfl
  obtain ⟨fd_told_tops, F_told_tops⟩ := c.saysD.def_ 5 (d := d_told_tops) rfl
  have m_told_tops : mg "told_tops" = some (.ref (He.ga K "told_tops")) := He.glo_ok X G (c.saysD.fact 5 (f := .glo "told_tops") rfl)
  have b_told_tops : Binds K fd_told_tops ["letters", "length", "numbers"] [] := FunD.bindsN F_told_tops fun _ _ _ _ _ _ us hl => match us, hl with | [_, _, _], _ => rfl
  obtain ⟨fd_told_counts, F_told_counts⟩ := c.saysD.def_ 6 (d := d_told_counts) rfl
  have m_told_counts : mg "told_counts" = some (.ref (He.ga K "told_counts")) := He.glo_ok X G (c.saysD.fact 6 (f := .glo "told_counts") rfl)
  have b_told_counts : Binds K fd_told_counts ["letters", "length", "counts"] [] := FunD.bindsN F_told_counts fun _ _ _ _ _ _ us hl => match us, hl with | [_, _, _], _ => rfl
  obtain ⟨fd_moment, F_moment⟩ := c.saysD.def_ 7 (d := d_moment) rfl
  have m_moment : mg "moment" = some (.ref (He.ga K "moment")) := He.glo_ok X G (c.saysD.fact 7 (f := .glo "moment") rfl)
  have b_moment : Binds K fd_moment ["letters", "counts", "r"] [] := FunD.bindsN F_moment fun _ _ _ _ _ _ us hl => match us, hl with | [_, _, _], _ => rfl
  obtain ⟨fd__law_deal, F__law_deal⟩ := c.saysD.def_ 8 (d := d__law_deal) rfl
  have m__law_deal : mg "_law_deal" = some (.ref (He.ga K "_law_deal")) := He.glo_ok X G (c.saysD.fact 8 (f := .glo "_law_deal") rfl)
  have b__law_deal : Binds K fd__law_deal ["script", "salt"] [] := FunD.bindsN F__law_deal fun _ _ _ _ _ _ us hl => match us, hl with | [_, _], _ => rfl
  obtain ⟨fd__law_any, F__law_any⟩ := c.saysD.def_ 9 (d := d__law_any) rfl
  have m__law_any : mg "_law_any" = some (.ref (He.ga K "_law_any")) := He.glo_ok X G (c.saysD.fact 9 (f := .glo "_law_any") rfl)
  have b__law_any : Binds K fd__law_any ["deal", "bound"] [] := FunD.bindsN F__law_any fun _ _ _ _ _ _ us hl => match us, hl with | [_, _], _ => rfl
  obtain ⟨fd__law_of, F__law_of⟩ := c.saysD.def_ 10 (d := d__law_of) rfl
  have m__law_of : mg "_law_of" = some (.ref (He.ga K "_law_of")) := He.glo_ok X G (c.saysD.fact 10 (f := .glo "_law_of") rfl)
  have b__law_of : Binds K fd__law_of ["deal", "some"] [] := FunD.bindsN F__law_of fun _ _ _ _ _ _ us hl => match us, hl with | [_, _], _ => rfl
  obtain ⟨fd__law_same, F__law_same⟩ := c.saysD.def_ 11 (d := d__law_same) rfl
  have m__law_same : mg "_law_same" = some (.ref (He.ga K "_law_same")) := He.glo_ok X G (c.saysD.fact 11 (f := .glo "_law_same") rfl)
  have b__law_same : Binds K fd__law_same ["told", "due"] [] := FunD.bindsN F__law_same fun _ _ _ _ _ _ us hl => match us, hl with | [_, _], _ => rfl
  obtain ⟨fd__law_power, F__law_power⟩ := c.saysD.def_ 12 (d := d__law_power) rfl
  have m__law_power : mg "_law_power" = some (.ref (He.ga K "_law_power")) := He.glo_ok X G (c.saysD.fact 12 (f := .glo "_law_power") rfl)
  have b__law_power : Binds K fd__law_power ["base", "times"] [] := FunD.bindsN F__law_power fun _ _ _ _ _ _ us hl => match us, hl with | [_, _], _ => rfl
  obtain ⟨fd__law_gcd, F__law_gcd⟩ := c.saysD.def_ 13 (d := d__law_gcd) rfl
  have m__law_gcd : mg "_law_gcd" = some (.ref (He.ga K "_law_gcd")) := He.glo_ok X G (c.saysD.fact 13 (f := .glo "_law_gcd") rfl)
  have b__law_gcd : Binds K fd__law_gcd ["one", "other"] [] := FunD.bindsN F__law_gcd fun _ _ _ _ _ _ us hl => match us, hl with | [_, _], _ => rfl
  obtain ⟨fd__law_fraction, F__law_fraction⟩ := c.saysD.def_ 14 (d := d__law_fraction) rfl
  have m__law_fraction : mg "_law_fraction" = some (.ref (He.ga K "_law_fraction")) := He.glo_ok X G (c.saysD.fact 14 (f := .glo "_law_fraction") rfl)
  have b__law_fraction : Binds K fd__law_fraction ["top", "bottom"] [] := FunD.bindsN F__law_fraction fun _ _ _ _ _ _ us hl => match us, hl with | [_, _], _ => rfl
  obtain ⟨fd__law_times, F__law_times⟩ := c.saysD.def_ 15 (d := d__law_times) rfl
  have m__law_times : mg "_law_times" = some (.ref (He.ga K "_law_times")) := He.glo_ok X G (c.saysD.fact 15 (f := .glo "_law_times") rfl)
  have b__law_times : Binds K fd__law_times ["one", "other"] [] := FunD.bindsN F__law_times fun _ _ _ _ _ _ us hl => match us, hl with | [_, _], _ => rfl
  obtain ⟨fd__law_longer, F__law_longer⟩ := c.saysD.def_ 16 (d := d__law_longer) rfl
  have m__law_longer : mg "_law_longer" = some (.ref (He.ga K "_law_longer")) := He.glo_ok X G (c.saysD.fact 16 (f := .glo "_law_longer") rfl)
  have b__law_longer : Binds K fd__law_longer ["found", "times"] [] := FunD.bindsN F__law_longer fun _ _ _ _ _ _ us hl => match us, hl with | [_, _], _ => rfl
  obtain ⟨fd__law_tops, F__law_tops⟩ := c.saysD.def_ 17 (d := d__law_tops) rfl
  have m__law_tops : mg "_law_tops" = some (.ref (He.ga K "_law_tops")) := He.glo_ok X G (c.saysD.fact 17 (f := .glo "_law_tops") rfl)
  have b__law_tops : Binds K fd__law_tops ["letters", "numbers"] [] := FunD.bindsN F__law_tops fun _ _ _ _ _ _ us hl => match us, hl with | [_, _], _ => rfl
  obtain ⟨fd__law_pascal, F__law_pascal⟩ := c.saysD.def_ 18 (d := d__law_pascal) rfl
  have m__law_pascal : mg "_law_pascal" = some (.ref (He.ga K "_law_pascal")) := He.glo_ok X G (c.saysD.fact 18 (f := .glo "_law_pascal") rfl)
  have b__law_pascal : Binds K fd__law_pascal ["top"] [] := FunD.bindsN F__law_pascal fun _ _ _ _ _ _ us hl => match us, hl with | [_], _ => rfl
  obtain ⟨fd__law_row_right, F__law_row_right⟩ := c.saysD.def_ 19 (d := d__law_row_right) rfl
  have m__law_row_right : mg "_law_row_right" = some (.ref (He.ga K "_law_row_right")) := He.glo_ok X G (c.saysD.fact 19 (f := .glo "_law_row_right") rfl)
  have b__law_row_right : Binds K fd__law_row_right ["deal", "letters", "length"] [] := FunD.bindsN F__law_row_right fun _ _ _ _ _ _ us hl => match us, hl with | [_, _, _], _ => rfl
  obtain ⟨fd__law_integers, F__law_integers⟩ := c.saysD.def_ 20 (d := d__law_integers) rfl
  have m__law_integers : mg "_law_integers" = some (.ref (He.ga K "_law_integers")) := He.glo_ok X G (c.saysD.fact 20 (f := .glo "_law_integers") rfl)
  have b__law_integers : Binds K fd__law_integers ["deal", "letters", "length"] [] := FunD.bindsN F__law_integers fun _ _ _ _ _ _ us hl => match us, hl with | [_, _, _], _ => rfl
  obtain ⟨fd__law_lone, F__law_lone⟩ := c.saysD.def_ 21 (d := d__law_lone) rfl
  have m__law_lone : mg "_law_lone" = some (.ref (He.ga K "_law_lone")) := He.glo_ok X G (c.saysD.fact 21 (f := .glo "_law_lone") rfl)
  have b__law_lone : Binds K fd__law_lone ["deal", "letters", "length"] [] := FunD.bindsN F__law_lone fun _ _ _ _ _ _ us hl => match us, hl with | [_, _, _], _ => rfl
  obtain ⟨fd__law_told_right, F__law_told_right⟩ := c.saysD.def_ 22 (d := d__law_told_right) rfl
  have m__law_told_right : mg "_law_told_right" = some (.ref (He.ga K "_law_told_right")) := He.glo_ok X G (c.saysD.fact 22 (f := .glo "_law_told_right") rfl)
  have b__law_told_right : Binds K fd__law_told_right ["letters", "length", "found"] [] := FunD.bindsN F__law_told_right fun _ _ _ _ _ _ us hl => match us, hl with | [_, _, _], _ => rfl
  obtain ⟨fd__law_moment_right, F__law_moment_right⟩ := c.saysD.def_ 23 (d := d__law_moment_right) rfl
  have m__law_moment_right : mg "_law_moment_right" = some (.ref (He.ga K "_law_moment_right")) := He.glo_ok X G (c.saysD.fact 23 (f := .glo "_law_moment_right") rfl)
  have b__law_moment_right : Binds K fd__law_moment_right ["deal", "letters", "length", "found"] [] := FunD.bindsN F__law_moment_right fun _ _ _ _ _ _ us hl => match us, hl with | [_, _, _, _], _ => rfl
  obtain ⟨fd_law, F_law⟩ := c.saysD.def_ 24 (d := d_law) rfl
  have m_law : mg "law" = some (.ref (He.ga K "law")) := He.glo_ok X G (c.saysD.fact 24 (f := .glo "law") rfl)
  have b_law : Binds K fd_law ["script"] [] := FunD.bindsN F_law fun _ _ _ _ _ _ us hl => match us, hl with | [_], _ => rfl
  have Z : Zs mg := ⟨He.free_ok X G (c.saysD.fact 25 (f := .free "abs") rfl), He.free_ok X G (c.saysD.fact 26 (f := .free "bool") rfl), He.free_ok X G (c.saysD.fact 27 (f := .free "enumerate") rfl), He.free_ok X G (c.saysD.fact 28 (f := .free "int") rfl), He.free_ok X G (c.saysD.fact 29 (f := .free "isinstance") rfl), He.free_ok X G (c.saysD.fact 30 (f := .free "len") rfl), He.free_ok X G (c.saysD.fact 31 (f := .free "list") rfl), He.free_ok X G (c.saysD.fact 32 (f := .free "min") rfl), He.free_ok X G (c.saysD.fact 33 (f := .free "range") rfl), He.free_ok X G (c.saysD.fact 34 (f := .free "str") rfl), He.free_ok X G (c.saysD.fact 35 (f := .free "sum") rfl), He.free_ok X G (c.saysD.fact 36 (f := .free "tuple") rfl)⟩
  have M : Ms mg := ⟨c.bi X G 0, c.bi X G 1⟩
  have e := hfa.symm.trans m_law
  cases e
  have b := FunD.bindsA (ps := ["script"]) F_law fun _ _ _ _ _ _ us hl => match us, hl with | [_], _ => rfl
  refine ⟨fd_law, fun s v => b s [v] rfl, fun base _ _ => ?_⟩
  have G__law_deal : Fn PR w K mg base CX0 1 "_law_deal" s__law_deal ["script", "salt"] (spDeal 2 K) := ⟨_, _, m__law_deal, F__law_deal, b__law_deal, ok__law_deal F__law_deal Z⟩
  have G__law_any : Fn PR w K mg base CX0 1 "_law_any" s__law_any ["deal", "bound"] (spAny 2) := ⟨_, _, m__law_any, F__law_any, b__law_any, ok__law_any F__law_any Z⟩
  have G__law_of : Fn PR w K mg base CX0 2 "_law_of" s__law_of ["deal", "some"] (spOf 2 K) := ⟨_, _, m__law_of, F__law_of, b__law_of, ok__law_of F__law_of Z G__law_any⟩
  have G__law_power : Fn PR w K mg base CX0 1 "_law_power" s__law_power ["base", "times"] spPow := ⟨_, _, m__law_power, F__law_power, b__law_power, ok__law_power F__law_power Z⟩
  have G__law_integers : Fn PR w K mg base CX0 3 "_law_integers" s__law_integers ["deal", "letters", "length"] spInts := ⟨_, _, m__law_integers, F__law_integers, b__law_integers, ok__law_integers F__law_integers Z G__law_any G__law_of G__law_power⟩
  have G__law_times : Fn PR w K mg base CX0 1 "_law_times" s__law_times ["one", "other"] (spTimesL K) := ⟨_, _, m__law_times, F__law_times, b__law_times, ok__law_times F__law_times Z⟩
  have G__law_same : Fn PR w K mg base CX0 4 "_law_same" s__law_same ["told", "due"] (spSame K 2) := ⟨_, _, m__law_same, F__law_same, b__law_same, ok__law_same F__law_same b__law_same m__law_same Z 2⟩
  have G_power_of : Fn PR w K mg base CX0 1 "power_of" s_power_of ["base", "times"] spPower := ⟨_, _, m_power_of, F_power_of, b_power_of, ok_power_of F_power_of Z⟩
  have G_step_sum : Fn PR w K mg base CX0 2 "step_sum" s_step_sum ["letters", "length", "j", "x"] spStepSum := ⟨_, _, m_step_sum, F_step_sum, b_step_sum, ok_step_sum F_step_sum Z M G_power_of⟩
  have G__law_row_right : Fn PR w K mg base CX0 5 "_law_row_right" s__law_row_right ["deal", "letters", "length"] spRowRight := ⟨_, _, m__law_row_right, F__law_row_right, b__law_row_right, ok__law_row_right F__law_row_right Z G__law_any G__law_of G__law_times G__law_same G_step_sum⟩
  have G__law_pascal : Fn PR w K mg base CX0 1 "_law_pascal" s__law_pascal ["top"] spPascal := ⟨_, _, m__law_pascal, F__law_pascal, b__law_pascal, ok__law_pascal F__law_pascal Z⟩
  have G_moment : Fn PR w K mg base CX0 1 "moment" s_moment ["letters", "counts", "r"] (spMoment K) := ⟨_, _, m_moment, F_moment, b_moment, ok_moment F_moment Z M⟩
  have G__law_moment_right : Fn PR w K mg base CX0 5 "_law_moment_right" s__law_moment_right ["deal", "letters", "length", "found"] spMomR := ⟨_, _, m__law_moment_right, F__law_moment_right, b__law_moment_right, ok__law_moment_right F__law_moment_right Z G__law_any G__law_pascal G__law_same G_moment⟩
  have G__law_longer : Fn PR w K mg base CX0 1 "_law_longer" s__law_longer ["found", "times"] (spLLonger K) := ⟨_, _, m__law_longer, F__law_longer, b__law_longer, ok__law_longer F__law_longer Z⟩
  have G__law_tops : Fn PR w K mg base CX0 2 "_law_tops" s__law_tops ["letters", "numbers"] (spLTops K) := ⟨_, _, m__law_tops, F__law_tops, b__law_tops, ok__law_tops F__law_tops Z G__law_longer⟩
  have G__law_gcd : Fn PR w K mg base CX0 1 "_law_gcd" s__law_gcd ["one", "other"] spGcd := ⟨_, _, m__law_gcd, F__law_gcd, b__law_gcd, ok__law_gcd F__law_gcd Z⟩
  have G__law_fraction : Fn PR w K mg base CX0 2 "_law_fraction" s__law_fraction ["top", "bottom"] (spLFrac K) := ⟨_, _, m__law_fraction, F__law_fraction, b__law_fraction, ok__law_fraction F__law_fraction Z G__law_gcd⟩
  have G_fraction_of : Fn PR w K mg base CX0 1 "fraction_of" s_fraction_of ["top", "bottom"] (spFrac K) := ⟨_, _, m_fraction_of, F_fraction_of, b_fraction_of, ok_fraction_of F_fraction_of Z M⟩
  have G_longer : Fn PR w K mg base CX0 1 "longer" s_longer ["found", "times"] (spLonger K) := ⟨_, _, m_longer, F_longer, b_longer, ok_longer F_longer Z⟩
  have G_step_row : Fn PR w K mg base CX0 2 "step_row" s_step_row ["letters", "length", "x"] (spStepRow K) := ⟨_, _, m_step_row, F_step_row, b_step_row, ok_step_row F_step_row Z G_longer⟩
  have G_told_tops : Fn PR w K mg base CX0 3 "told_tops" s_told_tops ["letters", "length", "numbers"] (spTops K) := ⟨_, _, m_told_tops, F_told_tops, b_told_tops, ok_told_tops F_told_tops Z G_step_row⟩
  have G_told_counts : Fn PR w K mg base CX0 4 "told_counts" s_told_counts ["letters", "length", "counts"] (spCounts K) := ⟨_, _, m_told_counts, F_told_counts, b_told_counts, ok_told_counts F_told_counts Z G_fraction_of G_told_tops⟩
  have G__law_told_right : Fn PR w K mg base CX0 5 "_law_told_right" s__law_told_right ["letters", "length", "found"] spTold := ⟨_, _, m__law_told_right, F__law_told_right, b__law_told_right, ok__law_told_right F__law_told_right Z G__law_tops G__law_fraction G__law_same G_told_counts⟩
  have G__law_lone : Fn PR w K mg base CX0 2 "_law_lone" s__law_lone ["deal", "letters", "length"] spInts := ⟨_, _, m__law_lone, F__law_lone, b__law_lone, ok__law_lone F__law_lone Z G__law_any G__law_times⟩
  exact ok_law F_law Z G__law_deal G__law_any G__law_of G__law_integers G__law_row_right G__law_moment_right G__law_told_right G__law_lone
end K11
open PySem PySem.W PySem.Calls PyProof.Rows
theorem PySem.Challenge.cw_ownmirrors_k11_whole_steps_and_what_is_t_holds : PySem.Challenge.rw_ownmirrors_k11_whole_steps_and_what_is_t.Holds := by
  w_on; o_law
  refine HandSHeadRun.head_imp (r := OpenLaw.row PySem.Challenge.rw_ownmirrors_k11_whole_steps_and_what_is_t) (q := view (OpenLaw.row PySem.Challenge.rw_ownmirrors_k11_whole_steps_and_what_is_t).prog [0, 28]) (H := K11.hk) (ob := K11.ob) (M := 4000) (loose := K11.looseL) (d := HandSHeadRun.topDef (OpenLaw.row PySem.Challenge.rw_ownmirrors_k11_whole_steps_and_what_is_t).prog 28) (kwd := []) K11.ob_eq
    K11.run (by kernel_rfl) (by kernel_rfl) (by kernel_rfl) (by rfl) (by first | assumption | decide +kernel) (by decide +kernel) ⟨rfl, rfl, rfl, rfl, rfl, by decide +kernel⟩ ?hw ?hc
  case hw => w_witness2
  case hc =>
    refine L2.walk_ofE (l := PySem.Challenge.rw_ownmirrors_k11_whole_steps_and_what_is_t) (n := 63) (k := 6) (x := "script") (CX := L2.CX0) rfl (by decide) (by kernel_rfl) ⟨rfl, by decide, by decide⟩ ?F (fun _ _ _ _ z => z)
    intro w mg fa h Y G hmg0
    obtain ⟨K, KX, c⟩ := Y
    have hmg : mg ("law" : PySem.Str) = some (.ref fa) := by
      have e : (HandSHeadRun.topDef (OpenLaw.row PySem.Challenge.rw_ownmirrors_k11_whole_steps_and_what_is_t).prog 28).name = ("law" : PySem.Str) := by kernel_rfl
      rw [← e]
      exact hmg0
    obtain ⟨fd, hb, hF⟩ := K11.facts (w := w) KX G hmg c
    exact ⟨K, fd, K11.spLaw K, KX, hb, fun H a ns hl _ hS => ⟨a, ns, rfl, hS, fun _ => rfl⟩, hF⟩
