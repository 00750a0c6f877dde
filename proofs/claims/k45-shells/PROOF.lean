import PyProof.Rows.All
import Wide.All
import OpenK.AllK
import Wide.FinOn
import HandS.Base
import HandS.Call
import HandS.List
import HandS.Comp
import HandS.Words
import HandS.TupMul
import HandS.TupAny
import PyProof.ListMulRoad
import PyProof.FactsAll.tuple_2
import HandS.SetFor
import HandS.More
import PyProof.EqAt
import OpenK.KMore
import HandS.ExcSuper
import HandS.Exc
import KE.KSuper
import KE.KExcSuper
import HandS.Defaults
import HandS.Walk
import HandS.Evl
import HandS.Zip
import HandS.Style
import HandS.IsInst
import HandS.Text
import HandS.TupLe
import HandS.TryOnly
import HandS.Conv
import HandS.RevTup
import HandS.HeadHook2
import HandS.HeadEnd
import HandS.Head0
import HandS.Head1
import HandS.Head2
import KE.KIntText
import KE.IntTextLaws
import PyProof.Conv_int
import PyProof.StrOps2
import HandS.Wide
import KE.KEqSeq
import HandS.ExcOwn
import HandS.WordsExc
import HandS.HeadHook1
import HandS.Gcd
import HandS.Iter
import KE.KMathGC
import KE.GoesEnum
import KE.GoesMore
import KE.KTupSum
import KE.GoesZip
import HandS.HeadHook3
import HandS.Dict
import HandS.ReplaceLit
import HandS.SortInts
import HandS.Codes
import PySem.Challenge.RW_ownmirrors_k45_whole_how_many_are_the_sh
set_option Elab.async false
set_option linter.all false
set_option maxRecDepth 100000
set_option maxHeartbeats 2000000
/-! Tuples tracked together with their very object, so that their methods can be called. -/
namespace Own
open PySem PySem.Spec PyProof.Rows L2

def Tp (K : PySem.W.Frag) (H : Hp) (p : Addr) (xs : List V) : Prop :=
  (∃ o : Obj, o.dict = none ∧ H p = some (.frz o (.tup xs))) ∨
    ∃ (o : Obj) (its : Array Value) (n : Nat), K.lookup p = some o ∧ o.cls = .type "tuple" ∧ o.dict = none ∧ o.data = .seq its n ∧ its.size ≤ sizeLine ∧ Vals xs its.toList
theorem Tp.sq {K : PySem.W.Frag} {H : Hp} {p : Addr} {xs : List V} (h : Tp K H p xs) : SqT K H p xs := by
  rcases h with ⟨o, _, h⟩ | ⟨o, its, n, h1, h2, _, h4, h5, h6⟩
  · exact .inl (.inr ⟨o, h⟩)
  · exact .inr ⟨o, its, n, h1, h2, h4, h5, h6⟩
theorem Tp.of {K : PySem.W.Frag} {H : Hp} {p : Addr} {o : Obj} {xs : List V} (hd : o.dict = none) (h : H p = some (.frz o (.tup xs))) : Tp K H p xs := .inl ⟨o, hd, h⟩
/-- a new tuple: what is wanted of it -/
def NewT (xs : List V) (H : Hp) (Q : VK) : Prop := ∀ (p : Addr) (o : Obj), H p = none → o.dict = none → Q (.ref p) (upd H p (.frz o (.tup xs)))
section
variable {X : Cx} {pins : List (Addr × Obj)} {σ : L2.St} {H : Hp} {s : Shared} {Q : VK}
theorem newT_end {xs : List V} {its : List Value} {tk : Nat} (I : Inv X pins σ H s) (r : Vals xs its) (z : xs.length ≤ sizeLine) (q : NewT xs H Q) :
    EP X pins σ Q (.ref s.heap.objs.size) { s with heap := s.heap.push { cls := .type "tuple", data := .seq its.toArray }, toks := tk } := by
  have hf : H s.heap.objs.size = none := I.hok.fresh (Nat.le_refl _)
  refine ⟨.ref s.heap.objs.size, _, I.laid (t' := tk) (o := .frz { cls := .type "tuple", data := .seq its.toArray } (.tup xs)) (fun b u e => Heap.get?_push_of_some _ e) (Nat.le_refl _) ⟨Heap.get?_push_size _ rfl, z, its, r, IsTup.new _ _⟩, rfl, q _ _ hf rfl⟩
end
def tTupF (t : TA) : TE := fun σ H Q => t σ H fun xs H1 => xs.length ≤ sizeLine ∧ NewT xs H1 Q
section
variable {X : Cx} {es : List Expr} {t : TA} {pos : Pos}
/-- (a, b, ..) -/
theorem pe_tupF {x1} (h : PA X es t) : PE X (.Tuple es x1 pos) (tTupF t) := by
  refine ⟨fun pins s σ H Q I hq => ?_⟩
  refine wpAny_Tuple_spliced (thn (h.run pos pins s σ H _ I hq) fun us s1 ⟨xs, H1, I1, r, z, q⟩ => ⟨by rw [← r.length]; exact z, ?_⟩)
  exact newT_end I1 r z q
/-- tuple(list), tuple(tuple) -/
def rTupF (K : PySem.W.Frag) : List V → Hp → VK → Prop := fun xs H Q => ∃ p ys, xs = [.ref p] ∧ ((SqL K H p ys ∧ NewT ys H Q) ∨ (SqT K H p ys ∧ Q (.ref p) H))
theorem call_tupF : CallR X (.type "tuple") (rTupF X.K) := by
  intro pins s σ H xs us Q I r h
  obtain ⟨p, ys, rfl, h⟩ := h
  obtain ⟨u, rfl, rx⟩ := vals1 r
  cases rx
  rcases h with ⟨hq, q⟩ | ⟨hq, q⟩
  · obtain ⟨its, r', pl, hz⟩ := I.list hq
    have hlen := r'.length
    refine call_tuple_list pl.isList (fun h' kp => ?_) (by simp only [List.size_toArray] <;> omega)
    have I1 : Inv X pins σ H { s with heap := h' } := I.kept (t' := s.toks) kp
    exact newT_end (tk := s.toks) I1 r' hz q
  · obtain ⟨its, r', pl, hz⟩ := I.tuple hq
    exact call_tuple_same pl ⟨.ref p, H, I, rfl, q⟩
/-- t + u -/
def rCatF (K : PySem.W.Frag) : R2 := fun x y H Q => ∃ a b xs ys, x = .ref a ∧ y = .ref b ∧ SqT K H a xs ∧ SqT K H b ys ∧ xs.length + ys.length ≤ sizeLine ∧
  (xs = [] → Q (.ref b) H) ∧ (xs ≠ [] → ys = [] → Q (.ref a) H) ∧ (xs ≠ [] → ys ≠ [] → NewT (xs ++ ys) H Q)
theorem op_catF : OpR X (binaryOp .Add) (rCatF X.K) := by
  intro pins s σ H x y v u Q I rx ry h
  obtain ⟨a, b, xs, ys, rfl, rfl, ha, hb, hz, q0, q1, q2⟩ := h
  cases rx
  cases ry
  obtain ⟨its, r1, p1, _⟩ := I.tuple ha
  obtain ⟨its2, r2, p2, _⟩ := I.tuple hb
  by_cases hx : xs = []
  · subst hx
    cases r1
    exact L2.cat_tup0 p1 p2 ⟨.ref b, H, I, rfl, q0 rfl⟩
  · refine HT.cat_tup p1 p2 (fun z => hx (r1.nil_iff.mp z)) (fun z => ⟨.ref a, H, I, rfl, q1 hx (r2.nil_iff.mp z)⟩) (fun z => ?_) (by rw [← r1.length, ← r2.length]; exact hz)
    exact newT_end (tk := s.toks) I (r1.append r2) (by rw [List.length_append]; exact hz) (q2 hx fun w => z (r2.nil_iff.mpr w))
/-- t[lo:hi] -/
def rSlF (K : PySem.W.Frag) : V → Option Int → Option Int → Hp → VK → Prop := fun x lo hi H Q => ∃ a xs, x = .ref a ∧ SqT K H a xs ∧
  (HT.sIx xs.length 0 lo = 0 ∧ HT.sIx xs.length xs.length hi = xs.length → Q (.ref a) H) ∧ (¬ (HT.sIx xs.length 0 lo = 0 ∧ HT.sIx xs.length xs.length hi = xs.length) → NewT (cutV xs lo hi) H Q)
theorem sl_tupF : SlR X (rSlF X.K) := by
  intro pins s σ H x v vl vu lo hi sl Q I rx hs pl pu h
  obtain ⟨a, xs, rfl, hx, q1, q2⟩ := h
  cases rx
  obtain ⟨its, r, ht, hz⟩ := I.tuple hx
  have hlen : its.toArray.size = xs.length := by rw [List.size_toArray]; exact r.length.symm
  refine ⟨"tuple", _, PyProof.Rows.slot_tuple_getitem.lookup, ht.typeIs, ?_⟩
  by_cases hw : HT.sIx xs.length 0 lo = 0 ∧ HT.sIx xs.length xs.length hi = xs.length
  · exact L2.getItem_tuple_whole ht hs pl pu (by rw [hlen]; exact hw) ⟨.ref a, H, I, rfl, q1 hw⟩
  · refine HT.getItem_tuple_cut ht hs pl pu (by rw [hlen]; exact hw) ?_ (by rw [hlen]; exact hz)
    rw [hlen]
    exact newT_end (tk := s.toks) I ((r.drop (HT.sIx xs.length 0 lo)).take (HT.sIx xs.length xs.length hi - HT.sIx xs.length 0 lo)) (Nat.le_trans (cutV_length xs lo hi) hz) (q2 hw)
end
end Own

namespace Own
open PySem PySem.Spec PyProof.Rows L2
/-- t * 1 (or an empty t): t itself; t * 0 .. : a new empty one -/
theorem tuple_mul_same (l : Addr) (items : Array Value) (n : Nat) (dd : Option Addr) (sl : Array (Option Value)) (x : Int) (u : Tok) (c0 : (decide (x < -(2 ^ 63)) || decide (x ≥ 2 ^ 63)) = false) (c1 : (items.isEmpty || x == 1) = true) :
    Meets (Builtin.«tuple.__mul__» ⟨[.ref l, .int x u], []⟩) (fun _ R s => s.heap.get? l = some { cls := .type "tuple", dict := dd, data := .seq items n, slots := sl } ∧ R (.ok (.ret (Value.ref l))) s) :=
  .of_wp fun prog w A R s h => by
    obtain ⟨hp, g, d, tk, os⟩ := s
    obtain ⟨hl, h⟩ := h
    have f1 := AutoSeq1.idx_int
    wp_walk using wpAny_loadPart' hl
    refine wpAny_ite_false (decide_eq_false (by rw [c0]; exact Bool.false_ne_true)) ?_
    wp_walk using wpAny_loadPart' hl
    exact ⟨_, rfl, h⟩
theorem tuple_mul_none (l : Addr) (items : Array Value) (n : Nat) (dd : Option Addr) (sl : Array (Option Value)) (x : Int) (u : Tok) (c0 : (decide (x < -(2 ^ 63)) || decide (x ≥ 2 ^ 63)) = false) (c1 : (items.isEmpty || x == 1) = false) (c2 : (decide (x ≤ 0) || items.isEmpty) = true) :
    Meets (Builtin.«tuple.__mul__» ⟨[.ref l, .int x u], []⟩) (fun _ R s => s.heap.get? l = some { cls := .type "tuple", dict := dd, data := .seq items n, slots := sl } ∧ R (.ok (.ret (Value.ref s.heap.objs.size))) { s with heap := s.heap.push { cls := .type "tuple", data := .seq #[] } }) :=
  .of_wp fun prog w A R s h => by
    obtain ⟨hp, g, d, tk, os⟩ := s
    obtain ⟨hl, h⟩ := h
    have f1 := AutoSeq1.idx_int
    wp_walk using wpAny_loadPart' hl
    refine wpAny_ite_false (decide_eq_false (by rw [c0]; exact Bool.false_ne_true)) ?_
    wp_walk using wpAny_loadPart' hl
    exact ⟨_, rfl, h⟩
/-- t * k, k from below 0 to 1000 -/
def rRepF (K : PySem.W.Frag) : R2 := fun x y H Q => ∃ l k xs, x = .ref l ∧ y = .int k ∧ SqT K H l xs ∧ -1000 ≤ k ∧ k ≤ 1000 ∧ xs.length ≤ 1000 ∧
  ((xs = [] ∨ k = 1) → Q (.ref l) H) ∧ (xs ≠ [] → k ≠ 1 → NewT (List.replicate k.toNat xs).flatten H Q)
section
variable {X : Cx}
theorem op_repF : OpR X (binaryOp .Mult) (rRepF X.K) := by
  intro pins s σ H x y v u Q I rx ry h
  obtain ⟨l, k, xs, rfl, rfl, hT, h1, h2, hz, q0, q1⟩ := h
  cases rx
  obtain ⟨t, rfl⟩ := ry
  obtain ⟨its, r, ⟨⟨cls, dd, data, sl⟩, ho, hc, n, hd⟩, hs⟩ := I.tuple hT
  simp only at hc hd
  subst hc hd
  have hle : its.length = xs.length := r.length.symm
  have hsz0 : its.toArray.size = xs.length := by rw [List.size_toArray, hle]
  have c0 : (decide (k < -(2 ^ 63)) || decide (k ≥ 2 ^ 63)) = false := by
    rw [decide_eq_false (by omega), decide_eq_false (by omega)] <;> rfl
  have mul : ∀ Q' : Value → Shared → Prop, wpAny (model X.prog X.w) X.A (call (.builtin "tuple.__mul__") [.ref l, .int k t]) Q' X.xe s → wpAny (model X.prog X.w) X.A (binaryOp .Mult (.ref l) (.int k t)) Q' X.xe s := fun Q' hc =>
    wpAny_binaryOp_repeat_ref (T := "tuple") (U := "int") (by decide) ⟨_, ho, rfl⟩ (fun s' => typeIs_int s' k t) noFill_tuple_mul F.fills_int_mul F.slot_int_rmul repeat_tuple F.slot_int_index.lookup
      (call_meets F.slot_int_rmul (typeIs_int s k t) F.entry_int_rmul (F.args_int_rmul_2 _ _) (int_rmul_tuple k t l its.toArray n dd sl) ⟨ho, rfl, ⟨_, ho, rfl⟩, hc⟩)
  refine mul _ ?_
  by_cases hs1 : xs = [] ∨ k = 1
  · have c1 : (its.toArray.isEmpty || k == 1) = true := by
      rcases hs1 with e | e
      · rw [show its = [] from List.eq_nil_of_length_eq_zero (by rw [hle, e] <;> rfl)]
        rfl
      · rw [e, beq_self_eq_true, Bool.or_true]
    exact call_meets F.slot_tuple_mul ⟨_, ho, rfl⟩ F.entry_tuple_mul (F.args_tuple_mul_2 _ _) (tuple_mul_same l its.toArray n dd sl k t c0 c1) ⟨ho, .ref l, H, I, rfl, q0 hs1⟩
  · have hne : xs ≠ [] := fun e => hs1 (.inl e)
    have hk1 : k ≠ 1 := fun e => hs1 (.inr e)
    have hn : its ≠ [] := fun e => hne (List.eq_nil_of_length_eq_zero (by rw [← hle, e] <;> rfl))
    have hi : its.toArray.isEmpty = false := by
      cases its with
      | nil => exact absurd rfl hn
      | cons a b => rfl
    have c1 : (its.toArray.isEmpty || k == 1) = false := by
      rw [hi, Bool.false_or]
      exact beq_eq_false_iff_ne.mpr hk1
    by_cases hk0 : k ≤ 0
    · have c2 : (decide (k ≤ 0) || its.toArray.isEmpty) = true := by rw [decide_eq_true hk0, Bool.true_or]
      refine call_meets F.slot_tuple_mul ⟨_, ho, rfl⟩ F.entry_tuple_mul (F.args_tuple_mul_2 _ _) (tuple_mul_none l its.toArray n dd sl k t c0 c1 c2) ⟨ho, ?_⟩
      have z : k.toNat = 0 := by omega
      have q := q1 hne hk1
      rw [z] at q
      exact newT_end (tk := s.toks) (xs := []) (its := []) I .nil (Nat.zero_le _) q
    · have hm : ((its.toArray.size : Nat) : Int) * k ≤ 1000000 := by
        rw [hsz0]
        have a1 : ((xs.length : Nat) : Int) * k ≤ 1000 * k := Int.mul_le_mul_of_nonneg_right (by omega) (by omega)
        omega
      have flen : k.toNat * xs.length ≤ sizeLine := by
        rw [sizeLine_eq]
        have a1 : k.toNat * xs.length ≤ 1000 * 1000 := Nat.mul_le_mul (by omega) hz
        omega
      have c2 : (decide (k ≤ 0) || its.toArray.isEmpty) = false := by
        rw [hi, Bool.or_false]
        exact decide_eq_false hk0
      have c4 : Builtin.Tuple.tupleTooMany (((its.toArray.size : Nat) : Int) * k) = false := by
        unfold Builtin.Tuple.tupleTooMany
        rw [sizeLine_eq]
        exact decide_eq_false (by omega)
      refine call_meets F.slot_tuple_mul ⟨_, ho, rfl⟩ F.entry_tuple_mul (F.args_tuple_mul_2 _ _) (tuple_mulW l its.toArray n dd sl k t c0 c1 c2 (by omega) c4 (by rw [size_rep, List.size_toArray, PyProof.Rows.lm_len_rep_flat, hle]; exact flen)) ⟨ho, ?_⟩
      rw [size_rep]
      exact newT_end (tk := s.toks) I (r.rep k.toNat) (by rw [PyProof.Rows.lm_len_rep_flat]; exact flen) (q1 hne hk1)
end
end Own

namespace Own
open PySem PySem.Spec PyProof.Rows L2
/-! ### t.count(k) -/
theorem Tp.at {K : PySem.W.Frag} {X : Cx} {pins : List (Addr × Obj)} {σ : L2.St} {H : Hp} {s : Shared} {p : Addr} {xs : List V} (I : Inv X pins σ H s) (h : Tp X.K H p xs) :
    ∃ (its : List Value) (o : Obj) (n : Nat), Vals xs its ∧ s.heap.get? p = some o ∧ o.cls = .type "tuple" ∧ o.dict = none ∧ o.data = .seq its.toArray n := by
  rcases h with ⟨o, hd, h⟩ | ⟨o, its, n, h1, h2, h3, h4, h5, h6⟩
  · obtain ⟨e, _, its, r, ob, e2, c, n, d⟩ := I.hok p _ h
    rw [e] at e2
    cases e2
    exact ⟨its, o, n, r, e, c, hd, d⟩
  · exact ⟨its.toList, o, n, h6, I.kIn p o h1, h2, h3, h4⟩
def rTCnt (K : PySem.W.Frag) : V → List V → Hp → VK → Prop := fun x xs H Q => ∃ (p : Addr) (ns : List Int) (k : Int), x = .ref p ∧ xs = [.int k] ∧ Tp K H p (ns.map V.int) ∧ Q (.int (ns.count k : Nat)) H
/-- t.m(e, ..) of a tuple that is tracked with its object -/
def tTM (K : PySem.W.Frag) (r : V → List V → Hp → VK → Prop) (to : TE) (t : TA) : TE := fun σ H Q => to σ H fun x H1 => (∃ p xs, x = .ref p ∧ Tp K H1 p xs) ∧ t σ H1 fun xs H2 => r x xs H2 Q
section
variable {X : Cx} {o e : Expr} {es : List Expr} {to : TE} {t : TA} {name : Str} {apos cpos : Pos} {id : String} {r : V → List V → Hp → VK → Prop}
theorem mt_tcount : MtR X "tuple.count" (rTCnt X.K) := by
  intro pins s σ H x xs v us Q I rx rxs h
  obtain ⟨p, ns, k, rfl, rfl, hs, q⟩ := h
  cases rx
  obtain ⟨u, rfl, ru⟩ := rxs.one
  obtain ⟨t, rfl⟩ := ru
  obtain ⟨its, ⟨cls, dd, data, sl⟩, n, rv, ho, hc, hdn, hd⟩ := Tp.at (K := X.K) I hs
  simp only at hc hd
  subst hc hd
  have hi := ints_of_vals rv
  refine call_meets PySem.F.slot_tuple_count ⟨_, ho, rfl⟩ PySem.F.entry_tuple_count (PySem.F.args_tuple_count_2 _ _)
    (SeqAt.tuple_countAt p its.toArray n dd sl (.int k t) (eqk k)) ⟨ho, fun y hy => (eqk_gives hi y (by simpa using hy)).at _ _, ?_⟩
  have ec : its.toArray.toList.countP (eqk k) = ns.count k := eqk_count hi
  refine ⟨.int (ns.count k : Nat), H, I.tok _, ⟨s.toks, ?_⟩, q⟩
  show Value.int ((its.toArray.toList.countP (eqk k) : Nat) : Int) s.toks = Value.int ((ns.count k : Nat) : Int) s.toks
  rw [ec]
theorem pe_tm (pa : PlainAttrs "tuple") (slot : Slot "tuple" name id) (hty : typeOf (.builtin id) = pure (.type "method_descriptor")) (hm : MtR X id r) (ho : PE X o to) (ha : PA X (e :: es) t)
    (hbase : attributeBase o name X.env (eval o X.env) = eval o X.env := by rfl)
    (hfew : ((backTo cpos (starEach (e :: es) X.env)).all (fun x => !x.1) && (backToKw cpos (keywordEach [] X.env)).all (fun x => x.1.isSome)
      && decide ((e :: es).length + ([] : List Keyword).length + (if ([] : List Keyword).isEmpty then 0 else 1) < 30)) = true := by rfl)
    (hline : (apos.endLine == cpos.line) = true := by rfl) (hs : starEach (e :: es) X.env = (false, eval e X.env) :: starEach es X.env := by rfl) (hplain : (backTo cpos (starEach es X.env)).any (·.1) = false := by rfl) :
    PE X (.Call (.Attribute o name apos) (e :: es) [] cpos) (tTM X.K r to t) := by
  refine ⟨fun pins s σ H Q I h => ?_⟩
  refine wpAny_Call_method_late hbase hfew hline rfl (thn (ho.run pins s σ H _ I h) fun v s1 ⟨x, H1, I1, r1, ⟨p, xs, ex, ty⟩, q1⟩ => ?_)
  subst ex
  obtain rfl : v = Value.ref p := r1
  obtain ⟨its, ob, n, _, g1, g2, g3, _⟩ := Tp.at (K := X.K) I1 ty
  refine ⟨"tuple", id, pa, slot, hty, ⟨ob, g1, g2⟩, fun a ea => ?_, ?_⟩
  · cases ea
    exact ⟨ob, g1, g3⟩
  have hA := ha.run cpos pins s1 σ H1 _ I1 q1
  rw [hs] at hA ⊢
  refine Calls.callWith_builtin (by show (false || (backTo cpos (starEach es X.env)).any (·.1)) = false; rw [hplain] <;> rfl) (Calls.evalArgs_plain ?_)
  exact thn hA fun us s2 ⟨vs, H2, I2, r2, q2⟩ => hm pins s2 σ H2 (.ref p) vs _ us Q I2 (show RelV (V.ref p) (Value.ref p) from rfl) r2 q2
/-- f(k = v, ..): every argument by its name -/
def tCall0K (sp : Sp) (gV : List V → List V → List V) (E : XK) (tk : TA) : TE := fun σ H Q => tk σ H fun zs H2 => sp (gV [] zs) H2 Q E
theorem pe_call0K {CX : CXT} {k : Nat} {f : Addr} {fd : FuncData} {ps ks : List Str} {sp : Sp} {E : XK} {x : Str} {p pos : Pos} {kws : List Keyword} {tk : TA} {g : List Value → List Value → List Value} {gV : List V → List V → List V}
    (F : FnOk X.prog X.w X.K X.mg X.base CX k f fd ps sp) (hr : Room k X.A) (hg : Gl X x) (hm : X.mg x = some (.ref f)) (hk : PySem.W.keepIn X.K (.ref f) = true) (hb : KBinds X.K fd ps ks g gV) (hx : Passes CX X E)
    (hkw : PK X kws tk) (hall : (backToKw pos (keywordEach kws X.env)).all (·.1.isSome) = true := by rfl) (hks : (backToKw pos (keywordEach kws X.env)).filterMap (·.1) = ks := by rfl)
    (hdb : (x == ("__debug__" : Str)) = false := by decide) (hpl : ((backTo pos (starEach [] X.env)).any (·.1) || (backToKw pos (keywordEach kws X.env)).any (·.1.isNone)) = false := by rfl) : PE X (.Call (.Name x p) [] kws pos) (tCall0K sp gV E tk) := by
  refine ⟨fun pins s σ H Q I h => ?_⟩
  refine wpAny_Call_Name_kw (ld_glob I hg hm ?_ hdb)
  refine PySem.W.callWith_KW0 (h₀ := X.base) I.ok.mod.kin hk hall (thn (hkw.run pos pins s σ H _ I h) fun ws s2 ⟨zs, H2, I2, rz, q2⟩ => ⟨I2.kIn, ?_⟩) hpl
  rw [hks]
  exact run_fnk (us := []) F hr hb hx I2 .nil rz q2
end
end Own

set_option maxHeartbeats 4000000
/-! Own errors two classes below Exception, whose __init__ says super().__init__(text) and then stores its arguments. -/
namespace PySem
namespace OwX
open PySem.W PySem.Calls PyProof.Rows PySem.HandSPX
abbrev exT : List Value := [.type "Exception", .type "BaseException", .type "object"]
section
open Builtin Builtin.ObjectAttr
variable {prog : Program} {w : World} {A : Around} {E : Value → Shared → Prop} {R : Result → Shared → Prop} {hp : Heap} {g : Array GenState} {d : Drawn} {t : Nat} {os : OsState}
theorem tail2_has {C M : Addr} (X : String) (hX : exT.contains (.type X) = true) : (Value.ref C :: .ref M :: exT).contains (.type X) = true := by
  rw [List.contains_cons, List.contains_cons, hX, Bool.or_true, Bool.or_true]
theorem mro2_has {K : W.Frag} {C M : Addr} {cd : ClassData} (hcd : W.clsIn K C = some cd) (hm : cd.mro = .ref C :: .ref M :: exT) {b : Value} (hb : (Value.ref C :: .ref M :: exT).contains b = true) : W.mroIn K C b = some true := by
  unfold W.mroIn
  rw [hcd, Option.bind_some, hm, if_neg (show ¬ (List.isEmpty (Value.ref C :: .ref M :: exT) = true) from Bool.false_ne_true), hb]
/-- up to the object's own dict -/
theorem osa_two {K : W.Frag} {name : Str} {tk : Tok} {v : Value} {x C M : Addr} {ox : Obj} {od : Option Obj} {cd : ClassData}
    (X : K.In hp) (I : W.InstAt hp x ox C od) (hcd : W.clsIn K C = some cd) (hm : cd.mro = .ref C :: .ref M :: exT) (ha : W.findIn K (.ref C) name = some none)
    (hq : wpAny (model prog w) A.in1 (storeInOwnDict (.ref x) (.ref C) (.str name tk) name v false)
      (fun fin s' => match fin with | .done f => R (.ok f) s' | .again c' => c'.quiet = true ∧ codeAny (model prog w) A c' R s') (fun e s' => R (.error e) s') ⟨hp, g, d, t, os⟩) :
    codeAny (model prog w) A (.call (.builtin "object.__setattr__") ⟨[.ref x, .str name tk, v], []⟩) R ⟨hp, g, d, t, os⟩ := by
  have SF := F.store_object
  have sub : W.Looks (model prog w) hp (isInstance (.ref x) (.type "object")) true := I.type.andThen (W.looks_mroIn X (mro2_has hcd hm (tail2_has "object" (by decide +kernel))))
  refine codeAny_call_builtin SF.slot.plain SF.entry (@W.check_slot (model prog w) _ _ ⟨hp, g, d, t, os⟩ "object.__setattr__" "object" "__setattr__" (.ref x) [.str name tk, v] [] _ SF.kind SF.split sub (SF.args (.ref x) (.str name tk) v) ?_)
  have hmr : W.Looks (model prog w) hp (mroOf (.ref C)) cd.mro := (W.looks_clsIn X hcd).andThen .now
  have L3 : W.Looks (model prog w) hp (storeTaker? none) none := .now
  have hpass : refuseLoop (.ref x) "__setattr__" cd.mro = pure () := by
    rw [hm, refuseLoop_ref, refuseLoop_ref]
    exact F.store_Exception.passes _
  rw [W.osa_eq, refuse_eq]
  refine wpAny_bind (wpAny_bind (I.type.at (wpAny_bind (hmr.at ?_))))
  rw [hpass]
  refine wpAny_pure (wpAny_bind (I.type.at (wpAny_bind ((W.looks_findIn X ha).at (wpAny_bind (L3.at ?_))))))
  exact hq
theorem osa_two_new {K : W.Frag} {name : Str} {tk : Tok} {v : Value} {x C M : Addr} {fv : Array Value} {cd : ClassData}
    (X : K.In hp) (hx : hp.get? x = some { cls := .ref C, data := .fields fv }) (hcd : W.clsIn K C = some cd) (hm : cd.mro = .ref C :: .ref M :: exT) (hh : cd.hasDict = true) (ha : W.findIn K (.ref C) name = some none)
    (hq : ∀ h' tk' dx, (∀ b o, b ≠ x → hp.get? b = some o → h'.get? b = some o) → hp.objs.size ≤ dx → dx ≠ x → h'.get? x = some { cls := .ref C, dict := some dx, data := .fields fv } →
      h'.Ns1 dx (fun y => if y = name then some v else none) → R (.ok (.ret .none)) ⟨h', g, d, tk', os⟩) :
    codeAny (model prog w) A (.call (.builtin "object.__setattr__") ⟨[.ref x, .str name tk, v], []⟩) R ⟨hp, g, d, t, os⟩ := by
  have I : W.InstAt hp x { cls := .ref C, data := .fields fv } C none := ⟨hx, rfl, rfl, trivial⟩
  have hxs : x ≠ hp.objs.size := Nat.ne_of_lt (Heap.lt_size hx)
  refine osa_two X I hcd hm ha ?_
  have hcls : W.Looks (model prog w) hp (classData C) cd := W.looks_clsIn X hcd
  obtain ⟨nm, bs, mro, ns, qn, hd, sn, sb, ab, col, del⟩ := cd
  dsimp only at hh
  subst hh
  unfold storeInOwnDict ownDictForStores
  repeat (first | with_reducible refine HandSPX.store_in_new ?_ ?_ | with_reducible refine wpAny_loadPart_at hx ?_ | with_reducible refine hcls.at ?_ | wp_step)
  · exact ⟨_, #[], _, (Heap.get?_update_ne _ _ _ _ hxs.symm).trans (Heap.get?_push_at rfl rfl), rfl, fun e he => absurd he (by simp), fun _ => rfl⟩
  · intro h' tk' hn' hs
    have hx1 : (hp.push { cls := .type "dict", data := .dict #[] }).get? x = some { cls := .ref C, data := .fields fv } := Heap.get?_push_of_some _ hx
    refine hq h' tk' hp.objs.size (fun b o hb ho => ?_) (Nat.le_refl _) hxs.symm ?_ hn'
    · exact (hs.2 b (Nat.ne_of_lt (Heap.lt_size ho))).trans ((Heap.get?_update_ne _ _ _ _ hb).trans (Heap.get?_push_of_some _ ho))
    · exact (hs.2 x hxs).trans (Heap.get?_update_self _ hx1 rfl)
end
end OwX
end PySem

namespace PySem
namespace OwXat
open PySem.W PySem.Calls PyProof.Rows PySem.HandSPX PySem.OwX
/-! ### the text of __init__, for one field -/
def iA (p1 p2 : Pos) : Arguments := { posonlyargs := [], args := [{ arg := "self", annotation := none, pos := p1 }, { arg := "at", annotation := none, pos := p2 }], vararg := none, kwonlyargs := [], kw_defaults := [], kwarg := none, defaults := [] }
def iS : Scope := { kind := .function, names := [(PySem.Str.ofString "self", .local), (PySem.Str.ofString "at", .local), (PySem.Str.ofString "__class__", .free), (PySem.Str.ofString "super", .globalImplicit)], isGenerator := false, isCoroutine := false, more := [] }
def sSup (msg : Str) (p0 p1 p2 p3 p4 p5 : Pos) : Stmt := .Expr (.Call (.Attribute (.Call (.Name "super" p0) [] [] p1) "__init__" p2) [.Constant (.str msg) 0 p3] [] p4) p5
def sStore (q1 q2 q3 q4 : Pos) : Stmt := .Assign [.Attribute (.Name "self" q1) "at" q2] (.Name "at" q3) q4
/-- what the written part says of such a class at C, over the one at M, and of its __init__ at fI -/
structure OexT (P : Program) (K : Frag) (C M fI : Addr) : Prop where
  cls : ∃ nm q N bs sn sub ab col dd k0 k1 k2 k3 k5, K.lookup C = some (excClassObj nm q C N bs (.ref M :: exT) true sn sub ab col dd k0 k1 k2 k3 k5 "Exception.__new__")
  sa : findIn K (.ref C) "__setattr__" = some (some (.builtin "object.__setattr__"))
  ga : findIn K (.ref C) "__getattribute__" = some (some (.builtin "BaseException.__getattribute__"))
  gg : findIn K (.ref C) "__getattr__" = some none
  noN : findIn K (.ref C) "at" = some none
  iC : findIn K (.ref C) "__init__" = some (some (.ref fI))
  tC : typeIn K (.ref fI) = some (.type "function")
  kC : keepIn K (.ref C) = true
  exC : subIn K (.ref C) (.type "BaseException") = some true
  exE : subIn K (.ref C) (.type "Exception") = some true
  tyC : typeIn K (.ref C) = some (.type "type")
  hdC : hasDictIn K C = true
  te : exmOne K (.ref C) (.ref C) = some true
  sI : alongIn K "__init__" (.ref M :: exT) = some (some (.builtin "Exception.__init__"))
  op : nsIn K cStatics "thirdparty.any" = some none
  sup : nsIn K mainGlobals "super" = some none
  top : (P.main.scope.names.lookup ("super" : Str)).isSome = false
  fn : ∃ (qual : Str) (oc : Value) (od : Option Addr) (doc pm : Value) (an : Option Addr) (cda cc : Addr) (ct : Value) (osl : Array (Option Value)) (msg : Str) (p1 p2 r0 r1 r2 r3 r4 r5 q1 q2 q3 q4 : Pos) (ccl cl : Value) (cdd cld : Option Addr) (ccs csl : Array (Option Value)) (vs : Array Value) (tf : Tok),
    K.lookup fI = some ⟨oc, od, .func (ksFn "__init__" qual (iA p1 p2) [sSup msg r0 r1 r2 r3 r4 r5, sStore q1 q2 q3 q4] iS .none .none doc pm an (.ref cda) ct cc), osl⟩ ∧ codeIn K (.ref cda) qual = true ∧
      K.lookup cda = some ⟨ccl, cdd, .fields vs, ccs⟩ ∧ vs[2]? = some (.str P.main.file tf) ∧ K.lookup cc = some ⟨cl, cld, .cell (some (.ref C)), csl⟩ ∧
      (∀ env : Env, ∃ pl : Sem Bool, eval (.Call (.Attribute (.Call (.Name "super" r0) [] [] r1) "__init__" r2) [.Constant (.str msg) 0 r3] [] r4) env = (do
        let ov ← attributeBase (.Call (.Name "super" r0) [] [] r1) "__init__" env (eval (.Call (.Name "super" r0) [] [] r1) env)
        standAt r2.atName
        let (f, first) ← holding [ov] (getMethod ov "__init__" pl)
        callWith r4 f first (backTo r4 (starEach [.Constant (.str msg) 0 r3] env)) [])) ∧
      (∀ env : Env, swapsWith (.Call (.Attribute (.Call (.Name "super" r0) [] [] r1) "__init__" r2) [.Constant (.str msg) 0 r3] [] r4) none r5.line env = pure false) ∧
      (∀ env : Env, swapsWith (.Name "at" q3) (some (.Attribute (.Name "self" q1) "at" q2)) q4.line env = pure false)
/-- what __init__ leaves of a fresh exception at x -/
structure InitEnd (h h' : Heap) (x C dx t1 : Addr) (v : Value) : Prop where
  keep : ∀ b o, b ≠ x → h.get? b = some o → h'.get? b = some o
  obj : h'.get? x = some { cls := .ref C, dict := some dx, data := .fields #[.ref t1, .none, .none, .none, .bool false, .none] }
  dbig : h.objs.size ≤ dx
  dne : dx ≠ x
  ns : h'.Ns1 dx (fun y => if y = "at" then some v else none)
section
variable {prog : Program} {w : World} {A : Around} {E : Value → Shared → Prop} {R : Result → Shared → Prop} {s : Shared} {K : Frag} {mg mb : Str → Option Value} {C M fI : Addr}
theorem inv_init (T : OexT prog K C M fI) {x t0 : Addr} {v : Value} (X : K.In s.heap) (hlim : s.heap.NoLimit) (hg : s.heap.Ns mainGlobals mg) (hb : s.heap.Ns builtinsNs mb) (hbb : ∀ y : Str, y ≠ "__name__" → mb y = bootBuiltins y)
    (hx : s.heap.get? x = some (excO C t0)) (hnx : K.lookup x = none) (hroom : A.depth < recursionLimit)
    (hq : ∀ h' tk dx t1, InitEnd s.heap h' x C dx t1 v → R (.ok (.ret .none)) { s with heap := h', toks := tk }) :
    codeAny (model prog w) A (.call (.ref fI) ⟨[.ref x, v], []⟩) R s := by
  obtain ⟨qual, oc, od, doc, pm, an, cda, cc, ct, osl, msg, p1, p2, r0, r1, r2, r3, r4, r5, q1, q2, q3, q4, ccl, cl, cdd, cld, ccs, csl, vs, tf, ho, hcd, hcda, hvs, hcc, hev, hsw, hsw2⟩ := T.fn
  obtain ⟨nm, q, N, bs, sn, sub, ab, col, dd, k0, k1, k2, k3, k5, hC⟩ := T.cls
  have hcl : clsIn K C = some { name := nm, bases := bs, mro := .ref C :: .ref M :: exT, ns := N, qualname := q, hasDict := true, slotNames := sn, subclasses := sub, abstract := ab, collection := col, hasDel := false } := by unfold clsIn; rw [hC] <;> rfl
  refine ks_codeAny_call_defAt (fd := ksFn "__init__" qual (iA p1 p2) [sSup msg r0 r1 r2 r3 r4 r5, sStore q1 q2 q3 q4] iS .none .none doc pm an (.ref cda) ct cc) (body := [sSup msg r0 r1 r2 r3 r4 r5, sStore q1 q2 q3 q4]) (binds := [("self", .ref x), ("at", v)])
    hroom (X _ _ ho) rfl hlim (codeRec_of X hcd) rfl (BindsTo.of_eq (by first | rfl | with_unfolding_all rfl)) (show ∀ y ∈ iS.names, y.2 ≠ .cell by decide +kernel) (by simp only [List.mem_cons, List.not_mem_nil, or_false]; rintro y (rfl | rfl) <;> rfl) (fun h1 hns hk => ?_) rfl rfl rfl
  have X1 : K.In h1 := X.keeps hk
  have hx1 := hk _ _ hx
  have hD1 : h1.get? C = some (excClassObj nm q C N bs (.ref M :: exT) true sn sub ab col dd k0 k1 k2 k3 k5 "Exception.__new__") := X1 _ _ hC
  have hxC : x ≠ C := fun e => by
    rw [e, hD1] at hx1
    cases hx1
  have hmC : Looks (model prog w) h1 (isSubtype (.ref C) (.ref C)) true := looks_mroIn X1 (OwX.mro2_has hcl rfl (by simp))
  have hmg : mg "super" = none := mg_none_of X hg T.sup
  generalize hen : callEnv (ksFn "__init__" qual (iA p1 p2) [sSup msg r0 r1 r2 r3 r4 r5, sStore q1 q2 q3 q4] iS .none .none doc pm an (.ref cda) ct cc) s.heap.objs.size fI = en
  have en1 : en.scope = iS := by rw [← hen] <;> rfl
  have en2 : en.func = some fI := by rw [← hen] <;> rfl
  have en3 : en.code = .ref cda := by rw [← hen] <;> rfl
  have en4 : en.globals = mainGlobals := by rw [← hen] <;> rfl
  have en5 : en.builtins = builtinsNs := by rw [← hen] <;> rfl
  have en6 : en.cells = [(PySem.Str.ofString "__class__", cc)] := by rw [← hen] <;> rfl
  have en7 : en.locals = s.heap.objs.size := by rw [← hen] <;> rfl
  have kd : ∀ y : Str, en.kindOf y = iS.names.lookup y := fun y => by
    show en.scope.names.lookup y = _
    rw [en1]
  obtain ⟨pl, hev1⟩ := hev en
  -- super()
  refine ks_wpAt_execs_cons (ks_wpAt_Expr_any (ks_wpAt_MethodCall (pl := pl) (ks_wpAt_super_base (hks := by rw [kd]; decide +kernel) (hkc := by rw [kd]; decide +kernel) (hat := by decide) (hfu := en2) (hf := X1 _ _ ho) (hfd := rfl) (hp := rfl) (hco := en3) (hcc := X1 _ _ hcda) (hoc := rfl) (hvs := hvs) (hfile := by simp) (htop := T.top) ?_) hev1) (by unfold interactive; rw [en1]; rfl) (hsw en))
  have kf : en.scope.kind = .function := by rw [en1] <;> rfl
  refine ks_loadName_global kf (by rw [kd]; decide +kernel) (loadGlobal_builtin (by rw [en4]; exact hg.keeps hk) hmg (by rw [en5]; exact hb.keeps hk) ((hbb _ (by decide +kernel)).trans (by decide +kernel)) ⟨rfl, ?_⟩)
  refine wpAny_loadName_free kf (by rw [kd]; decide +kernel) (by rw [en6]; rfl) ⟨_, X1 _ _ hcc, rfl⟩ ?_
  refine wpAny_loadName_local (v := .ref x) kf (show en.kindOf "self" = some .local by rw [kd]; decide +kernel) (by rw [en7]; exact hns) (by rfl) ?_
  refine ks_wpAny_isType_cls hD1 rfl ⟨rfl, ?_⟩
  refine ks_wpAny_call_super hD1 rfl hx1 rfl (fun c e => by cases e) hmC (fun h2 hso k2 => ?_)
  have X2 : K.In h2 := X1.keeps k2
  have hx2 := k2 _ _ hx1
  have I2 : InstAt h2 x (excO C t0) C none := ⟨hx2, rfl, rfl, trivial⟩
  refine ESX.getMethod_super hso (looks_opaque X2 T.op) (l₀ := .ref C :: .ref M :: exT) (l := .ref M :: exT) ?_ (by simp [List.dropWhile_cons]) X2 T.sI hxC (by decide) (I2.type.andThen (looks_subIn X2 T.exE)) ?_
  · exact (looks_clsIn X2 hcl).andThen .now
  refine ESX.callWith_bound (x := x) (first := []) ?_
  refine Calls.spliced_cons (Calls.Constant_str (pos := r3) (k := 0) (Calls.spliced_nil ?_))
  have k3 : ∀ b o, h2.get? b = some o → (h2.push (ESX.bw x)).get? b = some o := fun b o e => Heap.get?_push_of_some _ e
  refine ⟨Heap.get?_push_size _ rfl, ?_⟩
  refine ESX.call_bw (C := C) (e := x) (t0 := t0) (k3 _ _ (k2 _ _ hD1)) (k3 _ _ hx2) (Heap.get?_push_size _ rfl) (by rw [sizeLine_eq]; show (1 : Nat) ≤ 16777216; decide) (fun h4 t1 k4 hx4 => ?_)
  have kk : ∀ b o, b ≠ x → s.heap.get? b = some o → h4.get? b = some o := fun b o hb e => k4 b o hb (k3 b o (k2 b o (hk b o e)))
  have X4 : K.In h4 := fun a o e => kk a o (fun z => by
    rw [z, hnx] at e
    cases e) (X a o e)
  have hns4 : h4.Ns en.locals (fun y => [(PySem.Str.ofString "self", Value.ref x), (PySem.Str.ofString "at", v)].reverse.lookup y) := by
    rw [en7]
    obtain ⟨o, es, ep, e1, e2⟩ := id hns
    exact ⟨o, es, ep, k4 _ _ (fun z => absurd (Heap.lt_size hx) (by rw [← z]; exact Nat.lt_irrefl _)) (k3 _ _ (k2 _ _ e1)), e2⟩
  show wpAt _ _ _ _ _ _ _
  refine wpAt_of_wpAny ?_
  -- self."at" = "at"
  show wpAny _ _ (execs _ _) _ _ _
  refine wpAny_execs_cons (plainObj_wpAny_Assign_Attribute ?_ (hsw2 en))
  refine wpAny_Name (wpAny_loadName_local (v := v) kf (by rw [kd]; decide +kernel) hns4 (by rfl) ?_) (by decide)
  refine wpAny_Name (wpAny_loadName_local (v := .ref x) kf (by rw [kd]; decide +kernel) hns4 (by rfl) ?_) (by decide)
  refine set_plain X4 (ox := excO C t1) (od := none) ⟨hx4, rfl, rfl, trivial⟩ T.sa ?_
  refine OwX.osa_two_new X4 hx4 hcl rfl rfl T.noN (fun h5 tk5 dx k5 dn dne hx5 hn5 => ?_)
  show wpAny _ _ (execs _ _) _ _ _
  refine wpAny_execs_nil (hq h5 tk5 dx t1 ⟨fun b o hb e => k5 b o hb (kk b o hb e), hx5, ?_, dne, hn5⟩)
  obtain ⟨o, es, ep, e1, e2⟩ := hns4
  rw [en7] at e1
  exact Nat.le_trans (Nat.le_of_lt (Heap.lt_size e1)) dn
/-- a made error: what stands at e (its dict at d) -/
structure Made (h h' : Heap) (e C d : Addr) (v : Value) : Prop where
  keep : ∀ b o, h.get? b = some o → h'.get? b = some o
  new : h.objs.size ≤ e
  obj : ∃ oe vs, h'.get? e = some oe ∧ oe.cls = .ref C ∧ oe.dict = some d ∧ oe.data = .fields vs ∧ vs[1]? = some .none
  dbig : h.objs.size ≤ d
  dne : d ≠ e
  ns : h'.Ns1 d (fun y => if y = "at" then some v else none)
theorem inv_made (T : OexT prog K C M fI) {v : Value} (X : K.In s.heap) (hlim : s.heap.NoLimit) (hg : s.heap.Ns mainGlobals mg) (hb : s.heap.Ns builtinsNs mb) (hbb : ∀ y : Str, y ≠ "__name__" → mb y = bootBuiltins y) (hroom : A.depth + 1 < recursionLimit)
    (hq : ∀ h' tk e d, Made s.heap h' e C d v → R (.ok (.ret (.ref e))) { s with heap := h', toks := tk }) :
    codeAny (model prog w) A (.call (.ref C) ⟨[v], []⟩) R s := by
  obtain ⟨nm, q, N, bs, sn, sub, ab, col, dd, k0, k1, k2, k3, k5, hC⟩ := T.cls
  obtain ⟨hp, g, dr, tk, os⟩ := s
  have k : ∀ b o, hp.get? b = some o → ((hp.push (kdv_tup [v])).push (excO C hp.objs.size)).get? b = some o := fun b o e => Heap.get?_push_of_some _ (Heap.get?_push_of_some _ e)
  have hget : ((hp.push (kdv_tup [v])).push (excO C hp.objs.size)).get? (hp.objs.size + 1) = some (excO C hp.objs.size) := by heap_get
  have hnx : K.lookup (hp.objs.size + 1) = none := by
    cases e : K.lookup (hp.objs.size + 1) with
    | none => rfl
    | some o =>
      have z : hp.get? (hp.objs.size + 1) = some o := X _ _ e
      exact absurd (Nat.lt_of_succ_lt (Heap.lt_size z)) (Nat.lt_irrefl _)
  refine call_own F.excBase_Exception (bm := .ref M :: exT) (fun Y => by rw [List.contains_cons]; rfl) (X _ _ hC) (looks_findIn X T.iC) (fun self => bind_fn X self T.tC) (by rw [sizeLine_eq]; show (1 : Nat) ≤ 16777216; decide) ?_
  refine inv_init (s := ⟨(hp.push (kdv_tup [v])).push (excO C hp.objs.size), g, dr, tk, os⟩) T (X.keeps k) (hlim.keeps k) (hg.keeps k) (hb.keeps k) hbb hget hnx ?_ fun h' tk' dx t1 ⟨k', hx, dn, dne, hns⟩ => ?_
  · show A.depth + 1 < recursionLimit
    exact hroom
  · have old : ∀ b o, hp.get? b = some o → h'.get? b = some o := fun b o e => k' b o (Nat.ne_of_lt (Nat.lt_succ_of_lt (Heap.lt_size e))) (k b o e)
    have z : hp.objs.size + 1 + 1 ≤ dx := by
      have q := dn
      rw [Heap.size_push, Heap.size_push] at q
      exact q
    exact ⟨rfl, hq h' tk' (hp.objs.size + 1) dx ⟨old, Nat.le_succ _, ⟨_, _, hx, rfl, rfl, rfl, rfl⟩, Nat.le_trans (Nat.le_trans (Nat.le_succ _) (Nat.le_succ _)) z, dne, hns⟩⟩
end
end OwXat
end PySem

namespace Own
open PySem PySem.Spec PyProof.Rows L2
theorem relO_at {v : V} {v' : Value} (r : RelV v v') (f : Str) : RelO (List.lookup f [(("at" : Str), v)]) (if f = "at" then some v' else none) := by
  by_cases hw : f = "at"
  · subst hw
    rw [if_pos rfl]
    have q : List.lookup ("at" : Str) [(("at" : Str), v)] = some v := by simp [List.lookup]
    rw [q]
    exact r
  · rw [if_neg hw]
    have qw : (f == ("at" : Str)) = false := by simpa using hw
    have q2 : List.lookup f [(("at" : Str), v)] = none := by simp [List.lookup, qw]
    rw [q2]
    trivial
/-- C(e) -/
def tMk_at (C : Addr) (ta : TA) : L2.St → Hp → XK → Prop := fun σ H Q => ta σ H fun vs H1 => ∃ v, vs = [v] ∧ ∀ d, H1 d = none → Q (.ref C) (some d) (upd H1 d (.xd [(("at" : Str), v)]))
section
variable {X : Cx} {C M fI : Addr} {nm : Str}
theorem pmk_at {a : Expr} {ta : TA} {p pos : Pos} {k : Nat} (T : PySem.OwXat.OexT X.prog X.K C M fI) (gC : X.mg nm = some (.ref C)) (hr : Room k X.A) (ha : PA X [a] ta) (hg : Gl X nm) (hdb : (nm == ("__debug__" : Str)) = false := by decide)
    (he : starEach (a :: []) X.env = (false, eval a X.env) :: starEach [] X.env := by rfl) (hpl : (backTo pos (starEach [] X.env)).any (·.1) = false := by rfl) :
    PMk X (.Call (.Name nm p) [a] [] pos) (tMk_at C ta) := by
  intro pins s σ H Q I h
  refine wpAny_Call_Name_kw (ld_glob I hg gC ?_ hdb)
  refine PySem.W.callWith_K (h₀ := X.base) I.ok.mod.kin T.kC (thn (ha.run pos pins s σ H _ I h) fun us s1 hh => ?_) he hpl
  obtain ⟨vs, H1, I1, r1, v, ev, q1⟩ := hh
  subst ev
  refine ⟨I1.kIn, ?_⟩
  cases r1 with
  | cons rv rn =>
    rename_i v' us'
    cases rn
    show wpAny _ _ (call (.ref C) [v']) _ _ _
    have hlim := I1.nolimit
    obtain ⟨mb, hb, hbb⟩ := I1.ok.mod.blt
    have hg1 := I1.ok.mod.glob.keeps I1.bk
    have hb1 := hb.keeps I1.bk
    obtain ⟨hp, g, dr, tk, os⟩ := s1
    refine wpAny_call (PySem.OwXat.inv_made T I1.kIn hlim hg1 hb1 hbb (by have := hr.dp; omega) fun h' tk' e d M => ?_)
    show MkP X pins σ Q (.ref e) ⟨h', g, dr, tk', os⟩
    obtain ⟨oe, fv, hoe, hc, hd, hdat, h1⟩ := M.obj
    have hns := M.ns
    obtain ⟨G', g1, g2⟩ := restrict h' fun b => decide (b ≠ e)
    have gk : ∀ b, b ≠ e → G'.get? b = h'.get? b := fun b hb => g1 b (decide_eq_true hb)
    have ge : G'.get? e = none := g2 e (by simp)
    have old : ∀ b o, hp.get? b = some o → G'.get? b = some o := fun b o q => (gk b (Nat.ne_of_lt (Nat.lt_of_lt_of_le (Heap.lt_size q) M.new))).trans (M.keep b o q)
    have ob : ObjOk X.prog X.w (upd H1 d (.xd [(("at" : Str), v)])) G' d (.xd [(("at" : Str), v)]) :=
      ⟨_, hns.at (fun o q => (gk d M.dne).trans q), fun f => relO_at rv f⟩
    have J : Inv X pins σ (upd H1 d (.xd [(("at" : Str), v)])) ⟨G', g, dr, tk', os⟩ := I1.laid (t' := tk') old M.dbig ob
    refine ⟨e, oe, fv, ⟨G', g, dr, tk', os⟩, _, .ref C, some d, rfl, J, fun b o q => ?_, ge, hoe, ⟨hc, hd⟩, hdat, h1, ?_, rfl, I1.bare, raises_own T.exC T.tyC, q1 d (I1.hok.fresh M.dbig)⟩
    · by_cases hb : b = e
      · have q' : G'.get? b = some o := q
        rw [hb, ge] at q'
        cases q'
      · exact (gk b hb).symm.trans q
    · rw [upd_ne (Ne.symm M.dne)]
      exact I1.hok.fresh M.new
/-- e."at" of the exception that the suite holds -/
def tBy_at (C : Addr) (a : Addr) (cls : Value) (d : Option Addr) (te : TE) : TE := fun σ H Q => te σ H fun x H1 => x = .ref a ∧ cls = .ref C ∧ ∃ (dd : Addr) (v : V), d = some dd ∧ H1 dd = some (.xd [(("at" : Str), v)]) ∧ Q v H1
theorem pe_by_at {a : Addr} {oe : Obj} {cls : Value} {d : Option Addr} {pn : List (Addr × Obj)} {e : Expr} {te : TE} {pos : Pos} (T : PySem.OwXat.OexT X.prog X.K C M fI) (hz : Zc cls d oe) (hf : ∃ vs, oe.data = .fields vs) (he : PE (X.suite a ((a, oe) :: pn)) e te)
    (hb : attributeBase e "at" X.env (eval e X.env) = eval e X.env := by rfl) :
    PE (X.suite a ((a, oe) :: pn)) (.Attribute e "at" pos) (tBy_at C a cls d te) := by
  refine ⟨fun pins s σ H Q I h => ?_⟩
  refine attr_of hb (thn (he.run pins s σ H _ I h) fun u s1 hh => ?_)
  obtain ⟨x, H1, I1, rx, ex, ec, dd, v, ed, ea, q⟩ := hh
  subst ex
  obtain rfl : u = Value.ref a := rx
  subst ec
  subst ed
  obtain ⟨ha, _⟩ := I1.pin (a, oe) (List.mem_append_left _ List.mem_cons_self)
  obtain ⟨vs, hd⟩ := hf
  have hx : ObjOk X.prog X.w H1 s1.heap dd (.xd [(("at" : Str), v)]) := I1.hok dd _ ea
  obtain ⟨mA, hns, hr⟩ := hx
  obtain ⟨od, ho, hl⟩ := lookIn_ns hns
  have l : List.lookup ("at" : Str) [(("at" : Str), v)] = some v := by simp [List.lookup]
  obtain ⟨u, hu, ru⟩ := RelO.some_of (v := v) (o := mA "at") (by rw [← l]; exact hr "at")
  have J : PySem.W.InstAt s1.heap a oe C (some od) := ⟨ha, hz.1, by unfold PySem.W.notCls; rw [hd] <;> rfl, by rw [hz.2]; exact ho⟩
  exact PySem.HandSPX.exc_get I1.kIn J T.ga T.gg T.exC (PySem.W.findObj_own T.hdC T.noN rfl (by rw [hl, hu])) (handed_of ru) ⟨v, H1, I1.tok _, ru, q⟩
end
end Own

namespace Own
open PySem PySem.Spec PyProof.Rows L2 Evl
/-! ### a def of the text and its promise, by its name -/
def Fn (P : Program) (w : World) (K : PySem.W.Frag) (mg : Str → Option Value) (base : Heap) (CX : CXT) (k : Nat) (x : Str) (st : Stmt) (ps : List Str) (sp : Sp) : Prop :=
  ∃ f fd, mg x = some (.ref f) ∧ FunD K x x (defArgs st) (defBody st) (defScope st) [] [] f fd ∧ Binds K fd ps [] ∧ FnOk P w K mg base CX k f fd ps sp
section
variable {X : Cx} {CX : CXT} {k : Nat} {ps ks : List Str} {sp : Sp} {E : XK} {x : Str} {st : Stmt} {p pos : Pos} {e : Expr} {es : List Expr} {t tk : TA}
theorem Fn.imp {P : Program} {w : World} {K : PySem.W.Frag} {mg : Str → Option Value} {base : Heap} {sp' : Sp} (F : Fn P w K mg base CX k x st ps sp) (h : ∀ vs H Q E, sp' vs H Q E → sp vs H Q E) : Fn P w K mg base CX k x st ps sp' := by
  obtain ⟨f, fd, h1, h2, h3, h4⟩ := F
  exact ⟨f, fd, h1, h2, h3, h4.imp h⟩
theorem Fn.mono {P : Program} {w : World} {K : PySem.W.Frag} {mg : Str → Option Value} {base : Heap} {j : Nat} (F : Fn P w K mg base CX j x st ps sp) (h : j ≤ k) : Fn P w K mg base CX k x st ps sp := by
  obtain ⟨f, fd, h1, h2, h3, h4⟩ := F
  exact ⟨f, fd, h1, h2, h3, h4.mono h⟩
theorem pe_callF (F : Fn X.prog X.w X.K X.mg X.base CX k x st ps sp) (hr : Room k X.A) (hg : Gl X x) (hx : Passes CX X E) (ha : PA X (e :: es) t) (hdb : (x == ("__debug__" : Str)) = false := by decide)
    (he : starEach (e :: es) X.env = (false, eval e X.env) :: starEach es X.env := by rfl) (hpl : (backTo pos (starEach es X.env)).any (·.1) = false := by rfl) :
    PE X (.Call (.Name x p) (e :: es) [] pos) (tCall sp [] E t) := by
  obtain ⟨f, fd, h1, h2, h3, h4⟩ := F
  exact pe_call h4 hr hg h1 h2.kp h3 .nil hx ha hdb he hpl
theorem pe_call0F (F : Fn X.prog X.w X.K X.mg X.base CX k x st ps sp) (hr : Room k X.A) (hg : Gl X x) (hx : Passes CX X E) (hdb : (x == ("__debug__" : Str)) = false := by decide) : PE X (.Call (.Name x p) [] [] pos) (tCall sp [] E tNil) := by
  obtain ⟨f, fd, h1, h2, h3, h4⟩ := F
  exact pe_call0 h4 hr hg h1 h2.kp h3 .nil hx hdb
/-- the values in the parameters' order -/
def pick {α : Type} (n : Nat) (ix : List Nat) (us ws : List α) : List α := match us with
  | [] => if ws.length = n then ix.filterMap fun i => ws[i]? else []
  | _ :: _ => []
theorem pick_rel {n : Nat} {ix : List Nat} {vs : List V} {us : List Value} {zs : List V} {ws : List Value} (r1 : Vals vs us) (r2 : Vals zs ws) : Vals (pick n ix vs zs) (pick n ix us ws) := by
  cases r1 with
  | cons a b => exact .nil
  | nil =>
    show Vals (if zs.length = n then ix.filterMap fun i => zs[i]? else []) (if ws.length = n then ix.filterMap fun i => ws[i]? else [])
    rw [← r2.length]
    by_cases h : zs.length = n
    · rw [if_pos h, if_pos h]
      clear h
      induction ix with
      | nil => exact .nil
      | cons i r ih =>
        rw [List.filterMap_cons, List.filterMap_cons]
        cases e : zs[i]? with
        | none =>
          rw [r2.none_of e]
          exact ih
        | some v =>
          obtain ⟨u, hu, ru⟩ := r2.get e
          rw [hu]
          exact .cons ru ih
    · rw [if_neg h, if_neg h]
      exact .nil
theorem kb_of {K : PySem.W.Frag} {qual : Str} {params : Arguments} {body : List Stmt} {scope : Scope} {f : Addr} {fd : FuncData} (n : Nat) (ix : List Nat) (F : FunD K x qual params body scope [] [] f fd) (hps : ps ≠ [])
    (h : ∀ (kV doc pm : Value) (an : Option Addr) (cdv ct : Value) (ws : List Value), ws.length = n → bindArgs (PySem.W.fnOf x qual params body scope .none kV doc pm an cdv ct) ⟨[], ks.zip ws⟩ = pure (ps.zip (ix.filterMap fun i => ws[i]?))) :
    KBinds K fd ps ks (pick n ix) (pick n ix) := by
  refine ⟨fun s us ws _ hl => ?_, fun r1 r2 => pick_rel r1 r2⟩
  obtain ⟨oc, od, dV, kV, doc, pm, an, cdv, ct, osl, rfl, lk, hcd, hD, hK⟩ := F.ex
  have no : ¬ (([] : List Value).length = ps.length) := fun e => hps (List.eq_nil_of_length_eq_zero e.symm)
  rcases hD with ⟨_, rfl⟩ | ⟨e, _⟩
  · cases us with
    | cons a b => exact absurd hl no
    | nil =>
      by_cases hw : ws.length = n
      · have e : pick n ix ([] : List Value) ws = ix.filterMap fun i => ws[i]? := if_pos hw
        rw [e]
        exact .of_eq (h kV doc pm an cdv ct ws hw)
      · have e : pick n ix ([] : List Value) ws = [] := if_neg hw
        rw [e] at hl
        exact absurd hl no
  · exact absurd rfl e
theorem pe_call0KF {n : Nat} {ix : List Nat} {kws : List Keyword} (F : Fn X.prog X.w X.K X.mg X.base CX k x st ps sp) (hr : Room k X.A) (hb : ∀ {f : Addr} {fd : FuncData}, FunD X.K x x (defArgs st) (defBody st) (defScope st) [] [] f fd → KBinds X.K fd ps ks (pick n ix) (pick n ix)) (hx : Passes CX X E)
    (hkw : PK X kws tk) (hg : Gl X x := by rfl) (hall : (backToKw pos (keywordEach kws X.env)).all (·.1.isSome) = true := by rfl) (hks : (backToKw pos (keywordEach kws X.env)).filterMap (·.1) = ks := by rfl)
    (hdb : (x == ("__debug__" : Str)) = false := by decide) (hpl : ((backTo pos (starEach [] X.env)).any (·.1) || (backToKw pos (keywordEach kws X.env)).any (·.1.isNone)) = false := by rfl) : PE X (.Call (.Name x p) [] kws pos) (tCall0K sp (pick n ix) E tk) := by
  obtain ⟨f, fd, h1, h2, h3, h4⟩ := F
  exact pe_call0K h4 hr hg h1 h2.kp (hb h2) hx hkw hall hks hdb hpl
end
/-! ### promises that leave all that was known -/
/-- a new tuple -/
def RetU (K : PySem.W.Frag) (xs : List V) (H : Hp) (Q : VK) : Prop := ∀ p H2, Ex H H2 → Tp K H2 p xs → Q (.ref p) H2
theorem RetU.new {K : PySem.W.Frag} {xs : List V} {H H1 : Hp} {Q : VK} (k : RetU K xs H Q) (e : Ex H H1) : NewT xs H1 Q := fun p o hp ho => k p _ (e.trans (Ex.new hp)) (Tp.of ho upd_same)
theorem Tp.ex {K : PySem.W.Frag} {H H1 : Hp} {p : Addr} {xs : List V} (h : Tp K H p xs) (e : Ex H H1) : Tp K H1 p xs := by
  rcases h with ⟨o, h1, h2⟩ | h
  · exact .inl ⟨o, h1, e _ _ h2⟩
  · exact .inr h
theorem NewT.any {xs ys : List V} {H : Hp} {Q : VK} (h : NewT xs H Q) (e : xs = ys) : NewT ys H Q := e ▸ h
/-! ### comprehensions that change nothing that was known -/
section
variable {K : PySem.W.Frag} {J : It} {n : Nat} {G : Hp → Prop} {Y : Nat → Hp → V → Hp → Prop} {g : TG} {tt : TT} {te : TE} {vs : List Nat} {σ : L2.St} {H : Hp}
/-- what a comprehension gives, from the list it walks -/
theorem lcP {Q : Addr → Hp → Prop} (w : Walk J n G Y) (hG : ∀ H', Ex H H' → G H') (hn : n ≤ 40000) (f : Nat → Bool) (v : Nat → V)
    (turn : ∀ i H1 x H2, i < n → Ex H H1 → Y i H1 x H2 → ∀ (K1 : VK) (K0 : Hp → Prop), (f i = true → ∀ H5, Ex H1 H5 → K1 (v i) H5) → (f i = false → ∀ H5, Ex H1 H5 → K0 H5) →
      g x (wipe σ vs) H2 fun σ2 H3 => wipe σ2 vs = wipe σ vs ∧ tt σ2 H3 fun b H4 => if b = true then te σ2 H4 K1 else K0 H4)
    (q : ∀ p H2, H p = none → Ex H H2 → H2 p = some (.lst (given n f v)) → Q p H2) :
    ∀ D, H D = none → ∃ W : Nat → Nat → Hp → Prop, (∃ m, W 0 m (upd H D (.lst []))) ∧ ∀ i m H, W i m H →
      (J.stop i H ∧ Q D H) ∨ (J.go i H ∧ ∃ Nx : Hp → Prop, (∀ H', Nx H' → ∃ m', m' < m ∧ W (i + 1) m' H') ∧ ∀ x H', J.yld i H x H' → g x (wipe σ vs) H' fun σ2 H2 => wipe σ2 vs = wipe σ vs ∧ tt σ2 H2 fun b H3 =>
        if b = true then te σ2 H3 fun y H4 => ∃ acc, H4 D = some (.lst acc) ∧ acc.length < sizeLine ∧ Nx (upd H4 D (.lst (acc ++ [y]))) else Nx H3) := fun D hD =>
  lc_it w (Cw H f v D) ⟨hD, Ex.new hD, upd_same⟩ (fun i H' _ p => hG H' p.2.1) (fun i x H1 H2 hi p y => by
    obtain ⟨p1, p2, p3⟩ := p
    refine turn i H1 x H2 hi p2 y _ _ (fun hf H5 e5 => ?_) (fun hf H5 e5 => ?_)
    · refine ⟨given i f v, e5 D _ p3, sz_lt (by have := given_len i f v; omega), p1, Ex.mut (p2.trans e5) p1, ?_⟩
      rw [given_yes hf]
      exact upd_same
    · refine ⟨p1, p2.trans e5, ?_⟩
      rw [given_no hf]
      exact e5 D _ p3) (fun H' p => q D H' p.1 p.2.1 p.2.2)
end
theorem yes_go {te : TE} {σ : L2.St} {H : Hp} {K1 : VK} {K0 : Hp → Prop} (h : te σ H K1) : tYes σ H (fun b H4 => if b = true then te σ H4 K1 else K0 H4) := by
  show (if true = true then te σ H K1 else K0 H)
  rw [if_pos rfl]
  exact h
theorem given_all (n : Nat) (v : Nat → V) : given n (fun _ => true) v = (List.range n).map v := by
  unfold given
  rw [List.filter_eq_self.mpr (by simp)]
end Own

/-! More rules: int(long text), text * int, list(range(n)), tuple(reversed(list)). -/
namespace PySem
namespace OwI
open PySem PySem.W PySem.Calls PySem.NumText PyProof.Rows
theorem wp_long {M : Model} {A : Around} {E : Value → Shared → Prop} {s : Shared} {Q : Value → Shared → Prop} {v : Value} {text : List Nat} {n : Int}
    (hs : ¬ (text.takeWhile (· != 0)).length ≤ 640) (hr : (int_private% "readNumeral") 4300 10 (text.takeWhile (· != 0)) = (int_private% "Numeral.value") n)
    (ha : ((text.takeWhile (· != 0)).length == text.length) = true) (hk : Looks M s.heap (nsGet cStatics "sys.int_max_str_digits") none) (h : Q (.int n s.toks) { s with toks := s.toks + 1 }) :
    wpAny M A ((int_private% "intFromText") v text 10) Q E s := by
  have hlim : ∀ {Q' : Nat → Shared → Prop}, Q' 4300 s → wpAny M A Builtin.intMaxStrDigits Q' E s := fun {Q'} q => by
    unfold Builtin.intMaxStrDigits
    exact wpAny_bind (hk.at (wpAny_pure q))
  obtain ⟨hp, g, d, tk, os⟩ := s
  repeat (any_goals (first
    | assumption
    | (with_reducible refine wpAny_ite_false (decide_eq_false hs) ?_)
    | (with_reducible refine wpAny_ite_true (decide_eq_true ha) ?_)
    | (with_reducible refine hlim ?_)
    | wp_step))
  all_goals (try rw [hr])
  all_goals (try dsimp only)
  repeat (any_goals (first
    | assumption
    | (with_reducible refine wpAny_ite_false (decide_eq_false hs) ?_)
    | (with_reducible refine wpAny_ite_true (decide_eq_true ha) ?_)
    | wp_step))
structure Hid (p : Prop) : Prop where
  out : p
theorem meets_long {x : PySem.Str} {u : Tok} {n : Int} (hl : x.length ≤ sizeLine) (hl2 : ¬ (numSeenOf x).length ≤ 640) (hn : PySem.intText? x = some n) :
    Meets (Builtin.«int.__new__» ⟨[.type "int", .str x u], []⟩) (fun _ R s => (∀ M : Model, Looks M s.heap (nsGet cStatics "sys.int_max_str_digits") none) ∧ R (.ok (.ret (.int n s.toks))) { s with toks := s.toks + 1 }) :=
  .of_wp fun prog w A R s h => by
    obtain ⟨hk, h⟩ := h
    obtain ⟨hp, g, d, tk, os⟩ := s
    have f1 := F.conv_sub_int
    have f2 := F.madeHere_int
    have f3 := KIN.str_int
    have f4 := KIN.str_idx
    have f5 := KIN.str_trunc
    have f6 : typeOf (.str x u) = pure (.type "str") := rfl
    have hr : (int_private% "readNumeral") 4300 10 (numSeenOf x) = (int_private% "Numeral.value") n ∧ ((numSeenOf x).length == (numTextOf x).length) = true := by
      rcases read4300 x hl with ⟨m, h1, h2, h3⟩ | ⟨h1, _⟩
      · rw [hn] at h1
        injection h1 with h1
        subst h1
        exact ⟨h3, h2⟩
      · rw [hn] at h1
        cases h1
    have hd := Hid.mk (And.intro hl2 hr)
    have hk' := Hid.mk hk
    clear hr hl hl2 hn hk
    repeat (any_goals (first
      | assumption
      | ((with_reducible show wpAny _ _ ((int_private% "intFromText") _ _ _) _ _ _); refine wp_long hd.out.1 hd.out.2.1 hd.out.2.2 (hk'.out _) ?_)
      | wp_step))
    all_goals first | exact ⟨_, rfl, h⟩ | skip
end OwI
end PySem
namespace Own
open PySem PySem.Spec PyProof.Rows L2 Evl
section
variable {X : Cx}
/-- int(text), up to 4,300 figures -/
def rIntS : List V → Hp → VK → Prop := fun xs H Q => ∃ a n, xs = [.str a] ∧ PySem.intText? a = some n ∧ a.length ≤ 4300 ∧ (numSeenOf a).length = a.length ∧ Q (.int n) H
theorem call_intS (hk : PySem.W.nsIn X.K cStatics "sys.int_max_str_digits" = some none) : CallR X (.type "int") rIntS := by
  intro pins s σ H xs us Q I rs h
  obtain ⟨a, n, rfl, hn, hl, hse, h⟩ := h
  cases rs with
  | cons r1 rs =>
    cases rs
    obtain ⟨t, rfl⟩ := r1
    by_cases h6 : (numSeenOf a).length ≤ 640
    · exact PySem.W.KIN.call_text hn (by omega) ⟨.int n, H, I.tok _, ⟨_, rfl⟩, h⟩
    · exact PySem.call_int_1 (PySem.OwI.meets_long (by rw [sizeLine_eq]; omega) h6 hn) ⟨fun M => PySem.W.looks_nsIn I.kIn hk, ⟨rfl, .int n, H, I.tok _, ⟨_, rfl⟩, h⟩⟩
/-- text * k -/
def repS (a : Str) (n : Nat) : Str := ⟨(List.replicate n a.cps).foldl (· ++ ·) #[]⟩
theorem repS_len (a : Str) : ∀ (n : Nat) (acc : Array Nat), ((List.replicate n a.cps).foldl (· ++ ·) acc).size = acc.size + n * a.cps.size
  | 0, acc => by simp
  | n + 1, acc => by
    rw [List.replicate_succ, List.foldl_cons, repS_len a n, Array.size_append, Nat.succ_mul]
    omega
theorem repS_length (a : Str) (n : Nat) : (repS a n).length = n * a.length := by
  show ((List.replicate n a.cps).foldl (· ++ ·) #[]).size = n * a.cps.size
  rw [repS_len]
  simp
theorem repS_mem {a : Str} {c : Nat} : ∀ (n : Nat) (acc : Array Nat), c ∈ ((List.replicate n a.cps).foldl (· ++ ·) acc).toList → c ∈ acc.toList ∨ c ∈ a.cps.toList
  | 0, acc, h => .inl h
  | n + 1, acc, h => by
    rw [List.replicate_succ, List.foldl_cons] at h
    rcases repS_mem n _ h with h | h
    · rw [Array.toList_append, List.mem_append] at h
      exact h
    · exact .inr h
def rRepS : R2 := fun x y H Q => ∃ a k, x = .str a ∧ y = .int k ∧ 0 ≤ k ∧ k ≤ 10000 ∧ a.length ≤ 1000 ∧ Q (.str (repS a k.toNat)) H
theorem op_repS : OpR X (binaryOp .Mult) rRepS := by
  intro pins s σ H x y v u Q I rx ry h
  obtain ⟨a, k, rfl, rfl, h0, h1, hz, q⟩ := h
  obtain ⟨t, rfl⟩ := rx
  obtain ⟨t2, rfl⟩ := ry
  have hm : a.length * k.toNat ≤ 1000 * 10000 := Nat.mul_le_mul hz (by omega)
  refine PySem.P.mul_str (by rw [decide_eq_false (by omega), decide_eq_false (by omega)] <;> rfl) (fun _ _ => ?_) (fun _ _ => ?_) ?_
  · have : (a.length : Int) ≤ 1000 := by omega
    have : (1000 : Int) ≤ (2 ^ 63 - 1) / k := by
      by_cases hk : k = 0
      · omega
      · exact Int.le_ediv_of_mul_le (by omega) (by omega)
    omega
  · unfold Builtin.Str.tooLong
    first
      | exact decide_eq_false (by rw [sizeLine_eq]; omega)
      | exact decide_eq_false (by omega)
  · by_cases h1' : k < 1
    · rw [if_pos h1']
      have e0 : repS a k.toNat = Str.empty := by
        rw [show k.toNat = 0 by omega]
        rfl
      rw [e0] at q
      exact ⟨by decide, .str Str.empty, H, I.tok _, ⟨_, rfl⟩, q⟩
    · rw [if_neg h1']
      by_cases h2 : (k == 1 || a.length == 0) = true
      · rw [if_pos h2]
        have e0 : repS a k.toNat = a := by
          rcases Bool.or_eq_true_iff.mp h2 with h3 | h3
          · have : k.toNat = 1 := by
              have := eq_of_beq h3
              omega
            rw [this]
            show (⟨#[] ++ a.cps⟩ : Str) = a
            rw [Array.empty_append]
          · have h4 : a.cps = #[] := Array.eq_empty_of_size_eq_zero (eq_of_beq h3)
            show (⟨(List.replicate k.toNat a.cps).foldl (· ++ ·) #[]⟩ : Str) = a
            have h5 : (List.replicate k.toNat a.cps).foldl (· ++ ·) #[] = #[] := Array.eq_empty_of_size_eq_zero (by
              rw [repS_len, h4]
              simp)
            rw [h5]
            cases a
            simp only at h4
            rw [h4]
        rw [e0] at q
        exact ⟨.str a, H, I.tok _, ⟨_, rfl⟩, q⟩
      · rw [if_neg h2]
        exact ⟨by
          have := repS_length a k.toNat
          show (repS a k.toNat).length ≤ sizeLine
          rw [this, sizeLine_eq, Nat.mul_comm]
          omega, .str (repS a k.toNat), H, I.tok _, ⟨_, rfl⟩, q⟩
/-- list(range(n)) -/
theorem pe_list_range {e : Expr} {te : TE} {p pos p2 pos2 : Pos} (hm : X.mg "list" = none) (hm2 : X.mg "range" = none) (he : PE X e te) (hc : X.calm = true := by rfl) (hg : Gl X "list" := by rfl) (hg2 : Gl X "range" := by rfl)
    (na : starEach [e] X.env = (false, eval e X.env) :: starEach [] X.env := by rfl) (na2 : starEach [.Call (.Name "range" p2) [e] [] pos2] X.env = (false, eval (.Call (.Name "range" p2) [e] [] pos2) X.env) :: starEach [] X.env := by rfl) :
    PE X (.Call (.Name "list" p) [.Call (.Name "range" p2) [e] [] pos2] [] pos) (tLstRg (tRg1 te)) := pe_listRg hc hg hm (prg_1 hg2 hm2 he na) na2
/-- tuple(reversed(xs)) -/
def tTupRev (K : PySem.W.Frag) (ta : TA) : TE := fun σ H Q => ta σ H fun vs H1 => ∃ (a : Addr) (xs : List V), vs = [.ref a] ∧ SqL K H1 a xs ∧ NewT xs.reverse H1 Q
theorem pe_tuple_reversed {e : Expr} {ta : TA} {p pos p2 pos2 : Pos} (hm : X.mg "tuple" = none) (hm2 : X.mg "reversed" = none) (ha : PA X [e] ta) (hc : X.calm = true := by rfl) (hg : Gl X "tuple" := by rfl) (hg2 : Gl X "reversed" := by rfl)
    (hs : starEach [e] X.env = [(false, eval e X.env)] := by rfl) (na2 : starEach [.Call (.Name "reversed" p2) [e] [] pos2] X.env = (false, eval (.Call (.Name "reversed" p2) [e] [] pos2) X.env) :: starEach [] X.env := by rfl) :
    PE X (.Call (.Name "tuple" p) [.Call (.Name "reversed" p2) [e] [] pos2] [] pos) (tTupRev X.K ta) := by
  refine ⟨fun pins s σ H Q I h => ?_⟩
  refine Call_ (ld_blt I hg hm boot_tuple (PyProof.Rows.callWith_type1 (args_cons (Call_ (ld_blt (I.tok _) hg2 hm2 PyProof.Rows.boot_reversed (PyProof.Rows.callWith_type1 (thn (ha.run pos2 pins _ σ H _ (I.tok _) h) fun us s1 ⟨vs, H1, I1, r1, q1⟩ => ?_) hs rfl))) na2) na2))
  obtain ⟨a, xs, e, hq, q⟩ := q1
  subst e
  cases r1 with
  | cons r rr =>
    cases rr
    cases r
    obtain ⟨its, rv, pl, hz⟩ := I1.list hq
    have hl := rv.length
    refine call_reversed_list pl.isList (args_nil ?_)
    have hlt : a < s1.heap.objs.size := by
      obtain ⟨o, n, e, _⟩ := pl
      exact Heap.lt_size e
    obtain ⟨oL, nL, eL, cL, dL, sL⟩ := id pl
    refine RT.call_tuple_rev (l := a) (items := its.toArray) (I1.ok.hd hc) ⟨_, Heap.get?_push_size _ rfl, rfl, rfl⟩ ?_ (Nat.ne_of_lt hlt) (by rw [List.size_toArray, ← hl]; exact hz) (fun h' tk acc hk hacc => ?_)
    · obtain ⟨n9, h9, h8⟩ := pl.isList
      exact ⟨n9, Heap.get?_push_of_some _ h9, h8⟩
    · have I2 : Inv X pins σ H1 { s1 with heap := h', toks := tk } := I1.kept (fun b o e => hk b o (Nat.ne_of_lt (Heap.lt_size e)) (Heap.get?_push_of_some _ e))
      have rr : Vals xs.reverse acc.toList := by
        obtain ⟨h1, h2⟩ := hacc
        refine vals_of_at (by rw [List.length_reverse, Array.length_toList]; exact hl.trans ((List.size_toArray ..).symm.trans h1.symm)) (fun j x u hx hu => ?_)
        have hj := h2 j u (by simpa using hu)
        have hj2 : j < xs.length := by
          have := (List.getElem?_eq_some_iff.mp hx).1
          rw [List.length_reverse] at this
          exact this
        rw [List.getElem?_reverse hj2] at hx
        obtain ⟨u2, hu2, ru⟩ := rv.get hx
        have : its[xs.length - 1 - j]? = some u := by
          rw [hl]
          simpa using hj
        rw [hu2] at this
        cases this
        exact ru
      have z := newT_end (tk := tk) I2 rr (by rw [List.length_reverse]; exact hz) q
      rw [Array.toArray_toList] at z
      exact z
end
end Own

namespace Own
open PySem PySem.Spec PyProof.Rows L2 Evl
/-! ### data -/
theorem dp_ints {K : PySem.W.Frag} {H : Hp} : ∀ ns : List Int, DpAll K H (ns.map V.int) (ns.map PyData.int)
  | [] => .nil
  | n :: r => .cons (.int n) (dp_ints r)
theorem eqv_ints_nil (ns : List Int) : PyData.eqv (.list (ns.map PyData.int)) (.list []) = ns.isEmpty := by
  cases ns <;> rfl
/-! ### where draws come from: a list [digits, mix, count] at a, the digits at l -/
structure Deal (N : Nat) (H : Hp) (a l : Addr) : Prop where
  ne : a ≠ l
  at_ : ∃ (cs ms : List Int), H a = some (.lst (.ref l :: ms.map V.int)) ∧ H l = some (.lst (cs.map V.int)) ∧ (∀ x ∈ cs, 0 ≤ x) ∧ ms.length = N ∧ cs.length ≤ 100
/-- R: what is known and stays; the deal beside it -/
structure Wl (N : Nat) (a l : Addr) (R H : Hp) : Prop where
  ex : Ex R H
  na : R a = none
  nl : R l = none
  deal : Deal N H a l
section
variable {N : Nat} {a l : Addr} {R R1 H H1 : Hp} {p : Addr} {o o' : HO}
theorem Deal.dom (d : Deal N H a l) : H a ≠ none ∧ H l ≠ none := by
  obtain ⟨_, cs, ms, h1, h2, _⟩ := d
  refine ⟨fun z => ?_, fun z => ?_⟩
  · rw [h1] at z
    cases z
  · rw [h2] at z
    cases z
theorem Deal.upd (d : Deal N H a l) (h1 : p ≠ a) (h2 : p ≠ l) : Deal N (upd H p o) a l := by
  obtain ⟨n, cs, ms, e1, e2, r⟩ := d
  exact ⟨n, cs, ms, by rw [upd_ne h1.symm]; exact e1, by rw [upd_ne h2.symm]; exact e2, r⟩
theorem Deal.ex (d : Deal N H a l) (e : Ex H H1) : Deal N H1 a l := by
  obtain ⟨n, cs, ms, e1, e2, r⟩ := d
  exact ⟨n, cs, ms, e _ _ e1, e _ _ e2, r⟩
/-- what changes nothing -/
theorem Wl.keep (w : Wl N a l R H) (e : Ex H H1) : Wl N a l R H1 := ⟨w.ex.trans e, w.na, w.nl, w.deal.ex e⟩
/-- a new object -/
theorem Wl.new (w : Wl N a l R H) (h : H p = none) : Wl N a l (upd R p o) (upd H p o) := by
  have h1 : p ≠ a := fun e => w.deal.dom.1 (e ▸ h)
  have h2 : p ≠ l := fun e => w.deal.dom.2 (e ▸ h)
  refine ⟨fun b u e => ?_, by rw [upd_ne h1.symm]; exact w.na, by rw [upd_ne h2.symm]; exact w.nl, w.deal.upd h1 h2⟩
  by_cases hb : b = p
  · subst hb
    rw [upd_same] at e ⊢
    exact e
  · rw [upd_ne hb] at e ⊢
    exact w.ex b u e
/-- a known object is changed -/
theorem Wl.mut (w : Wl N a l R H) (h : R p = some o) : Wl N a l (upd R p o') (upd H p o') := by
  have h1 : p ≠ a := fun e => by
    rw [e, w.na] at h
    cases h
  have h2 : p ≠ l := fun e => by
    rw [e, w.nl] at h
    cases h
  refine ⟨fun b u e => ?_, by rw [upd_ne h1.symm]; exact w.na, by rw [upd_ne h2.symm]; exact w.nl, w.deal.upd h1 h2⟩
  by_cases hb : b = p
  · subst hb
    rw [upd_same] at e ⊢
    exact e
  · rw [upd_ne hb] at e ⊢
    exact w.ex b u e
theorem Wl.free (w : Wl N a l R H) (h : H p = none) : R p = none := fresh_back w.ex h
/-- more is known -/
theorem Wl.more (w : Wl N a l R H) (e : Ex H H1) : ∃ R1, Ex R R1 ∧ Wl N a l R1 H1 ∧ ∀ b o, b ≠ a → b ≠ l → H1 b = some o → R1 b = some o := by
  refine ⟨fun b => if b = a ∨ b = l then none else H1 b, fun b o h => ?_, ⟨fun b o h => ?_, if_pos (.inl rfl), if_pos (.inr rfl), w.deal.ex e⟩, fun b o h1 h2 h => ?_⟩
  · have h1 : b ≠ a := fun z => by
      rw [z, w.na] at h
      cases h
    have h2 : b ≠ l := fun z => by
      rw [z, w.nl] at h
      cases h
    show (if b = a ∨ b = l then none else H1 b) = some o
    rw [if_neg (by simp [h1, h2])]
    exact e _ _ (w.ex _ _ h)
  · have h' : (if b = a ∨ b = l then none else H1 b) = some o := h
    by_cases z : b = a ∨ b = l
    · rw [if_pos z] at h'
      cases h'
    · rw [if_neg z] at h'
      exact h'
  · show (if b = a ∨ b = l then none else H1 b) = some o
    rw [if_neg (by simp [h1, h2])]
    exact h
end
/-- the promise of a drawn number below a bound -/
def spAny (N : Nat) : Sp := fun vs H Q _ => ∃ (a l : Addr) (R : Hp) (b : Int), vs = [.ref a, .int b] ∧ Wl N a l R H ∧ 0 < b ∧ b.natAbs.log2 < 9000 ∧ ∀ (r : Int) (H' : Hp), 0 ≤ r → r < b → Wl N a l R H' → Q (.int r) H'
/-- .. of one of some things, that stand in a list -/
def spOf (N : Nat) (K : PySem.W.Frag) : Sp := fun vs H Q _ => ∃ (a l p : Addr) (R : Hp) (xs : List V), vs = [.ref a, .ref p] ∧ Wl N a l R H ∧ SqL K R p xs ∧ xs ≠ [] ∧ xs.length ≤ 100 ∧ ∀ (v : V) (H' : Hp), v ∈ xs → Wl N a l R H' → Q v H'
/-! ### kinds of values -/
inductive Vk (K : PySem.W.Frag) (H : Hp) : V → String → Prop where
  | non : Vk K H .non "NoneType"
  | bl (b : Bool) : Vk K H (.bl b) "bool"
  | int (i : Int) : Vk K H (.int i) "int"
  | str (x : Str) : Vk K H (.str x) "str"
  | tup {p : Addr} {xs : List V} (h : Tp K H p xs) : Vk K H (.ref p) "tuple"
  | lst {p : Addr} {xs : List V} (h : H p = some (.lst xs)) : Vk K H (.ref p) "list"
theorem Vk.ty {K : PySem.W.Frag} {H : Hp} {x : V} {T : String} (h : Vk K H x T) : TyX K H x (.type T) := by
  cases h with
  | non => exact .base .non
  | bl b => exact .base (.bl b)
  | int i => exact .base (.int i)
  | str z => exact .base (.str z)
  | tup h =>
    rcases h with ⟨o, _, h⟩ | ⟨o, its, n, h1, h2, _⟩
    · exact .fTuple h
    · exact .kTuple h1 h2
  | lst h => exact .base (.lst h)
theorem Vk.ex {K : PySem.W.Frag} {H H1 : Hp} {x : V} {T : String} (h : Vk K H x T) (e : Ex H H1) : Vk K H1 x T := by
  cases h with
  | non => exact .non
  | bl b => exact .bl b
  | int i => exact .int i
  | str z => exact .str z
  | tup h => exact .tup (h.ex e)
  | lst h => exact .lst (e _ _ h)
theorem Vk.known {K : PySem.W.Frag} {H : Hp} {x : V} {T : String} (h : Vk K H x T) : T ∈ ["NoneType", "bool", "int", "str", "tuple", "list"] := by
  cases h <;> decide
/-! ### one thing twice: two values of the same data, to a depth -/
def scalV : V → Bool
  | .non => true
  | .bl _ => true
  | .int _ => true
  | .str _ => true
  | _ => false
def Sm (K : PySem.W.Frag) (H : Hp) : Nat → V → V → Prop
  | 0, x, y => x = y ∧ scalV x = true
  | n + 1, x, y => (x = y ∧ scalV x = true) ∨ ∃ p q xs ys, x = .ref p ∧ y = .ref q ∧ Tp K H p xs ∧ Tp K H q ys ∧ xs.length = ys.length ∧ xs.length ≤ 1000 ∧ ∀ (i : Nat) u v, xs[i]? = some u → ys[i]? = some v → Sm K H n u v
theorem Sm.ex {K : PySem.W.Frag} {H H1 : Hp} (e : Ex H H1) : ∀ {n : Nat} {x y : V}, Sm K H n x y → Sm K H1 n x y
  | 0, _, _, h => h
  | n + 1, _, _, h => by
    rcases h with h | ⟨p, q, xs, ys, h1, h2, h3, h4, h5, h6, h7⟩
    · exact .inl h
    · exact .inr ⟨p, q, xs, ys, h1, h2, h3.ex e, h4.ex e, h5, h6, fun i u v hu hv => Sm.ex e (h7 i u v hu hv)⟩
theorem Sm.scal {K : PySem.W.Frag} {H : Hp} {x : V} (h : scalV x = true) : ∀ n : Nat, Sm K H n x x
  | 0 => ⟨rfl, h⟩
  | _ + 1 => .inl ⟨rfl, h⟩
/-- two tuples of the same scalars -/
theorem Sm.tup {K : PySem.W.Frag} {H : Hp} {p q : Addr} {xs : List V} (hp : Tp K H p xs) (hq : Tp K H q xs) (hs : ∀ x ∈ xs, scalV x = true) (hl : xs.length ≤ 1000) (n : Nat) : Sm K H (n + 1) (.ref p) (.ref q) :=
  .inr ⟨p, q, xs, xs, rfl, rfl, hp, hq, rfl, hl, fun i u v hu hv => by
    rw [hu] at hv
    cases hv
    exact Sm.scal (hs u (List.mem_of_getElem? hu)) n⟩
theorem scal_ints (ns : List Int) : ∀ x ∈ ns.map V.int, scalV x = true := fun x h => by
  obtain ⟨n, _, rfl⟩ := List.mem_map.mp h
  rfl
def spSame (K : PySem.W.Frag) (n : Nat) : Sp := fun vs H Q _ => ∃ x y, vs = [x, y] ∧ Sm K H n x y ∧ ∀ H', Ex H H' → Q (.bl true) H'
end Own

namespace Own
open PySem PySem.Spec PyProof.Rows L2 Evl
abbrev FnP (K : PySem.W.Frag) (x : Str) (st : Stmt) (f : Addr) (fd : FuncData) : Prop := FunD K x x (defArgs st) (defBody st) (defScope st) [] [] f fd
/-! ### isinstance of what is known -/
theorem kit_all : ∀ T ∈ ["NoneType", "bool", "int", "str", "tuple", "list"], ∀ c ∈ ["int", "bool", "tuple", "list", "str"], L2.kitB T c = some (decide (T = c) || (decide (T = "bool") && decide (c = "int"))) := by decide +kernel
theorem kit_vk {K : PySem.W.Frag} {H : Hp} {x : V} {T : String} (h : Vk K H x T) (c : String) (hc : c ∈ ["int", "bool", "tuple", "list", "str"] := by decide) : PySem.W.kitOne K (.type T) (.type c) = some (decide (T = c) || (decide (T = "bool") && decide (c = "int"))) := kit_ty (kit_all T h.known c hc)
/-- isinstance(x, c) -/
theorem isi_vk {K : PySem.W.Frag} {H : Hp} {x : V} {T : String} {Q : VK} (h : Vk K H x T) (c : String) (q : Q (.bl (decide (T = c) || (decide (T = "bool") && decide (c = "int")))) H) (hc : c ∈ ["int", "bool", "tuple", "list", "str"] := by decide) : rIsi K [x, .ty c] H Q :=
  ⟨x, .ty c, .type T, .type c, _, rfl, .ty c, h.ty, kit_vk h c hc, q⟩
/-! ### lists by their places -/
theorem range_zip {n : Nat} (f : Int → Int → Int) : ∀ {xs ys : List Int}, xs.length = n → ys.length = n → (List.range n).map (fun i => V.int (f (xs.getD i 0) (ys.getD i 0))) = (List.zipWith f xs ys).map V.int := by
  intro xs ys h1 h2
  apply List.ext_getElem?
  intro i
  rw [List.getElem?_map, List.getElem?_map, List.getElem?_zipWith]
  by_cases hi : i < n
  · rw [List.getElem?_range hi, List.getElem?_eq_getElem (show i < xs.length by omega), List.getElem?_eq_getElem (show i < ys.length by omega)]
    simp [List.getD_eq_getElem?_getD, List.getElem?_eq_getElem (show i < xs.length by omega), List.getElem?_eq_getElem (show i < ys.length by omega)]
  · rw [List.getElem?_eq_none (show (List.range n).length ≤ i by rw [List.length_range]; omega), List.getElem?_eq_none (show xs.length ≤ i by omega)]
    rfl
theorem range_map {α β : Type} (d : α) (f : α → β) (xs : List α) : (List.range xs.length).map (fun i => f (xs.getD i d)) = xs.map f := by
  apply List.ext_getElem?
  intro i
  rw [List.getElem?_map, List.getElem?_map]
  by_cases hi : i < xs.length
  · rw [List.getElem?_range hi, List.getElem?_eq_getElem hi]
    simp [List.getD_eq_getElem?_getD, List.getElem?_eq_getElem hi]
  · rw [List.getElem?_eq_none (show (List.range xs.length).length ≤ i by rw [List.length_range]; omega), List.getElem?_eq_none (show xs.length ≤ i by omega)]
    rfl
theorem int_at {xs : List Int} {i : Nat} {x : V} (h : (xs.map V.int)[i]? = some x) : x = .int (xs.getD i 0) ∧ i < xs.length := by
  rw [List.getElem?_map] at h
  cases e : xs[i]? with
  | none =>
    rw [e] at h
    cases h
  | some n =>
    rw [e] at h
    have h2 := (List.getElem?_eq_some_iff.mp e).1
    refine ⟨?_, h2⟩
    rw [List.getD_eq_getElem?_getD, e]
    exact (Option.some.inj h).symm
theorem at_int {xs : List Int} {i : Nat} (h : i < xs.length) : (xs.map V.int)[i]? = some (.int (xs.getD i 0)) := by
  rw [List.getElem?_map, List.getD_eq_getElem?_getD, List.getElem?_eq_getElem h]
  rfl
theorem atI_int {xs : List Int} {i : Nat} (h : i < xs.length) : atI (xs.map V.int) (i : Int) = some (.int (xs.getD i 0)) := atI_nat (at_int h)
theorem getD_mem {xs : List Int} {i : Nat} (h : i < xs.length) : xs.getD i 0 ∈ xs := by
  rw [List.getD_eq_getElem?_getD, List.getElem?_eq_getElem h]
  exact List.getElem_mem h
/-! ### zip of two tuples -/
theorem walk_zipT {K : PySem.W.Frag} {a b : Addr} {xs ys : List V} {n : Nat} (h1 : xs.length = n) (h2 : ys.length = n) : Walk (RZ.ItzT K a b) n (fun H => SqT K H a xs ∧ SqT K H b ys) (YPair (fun i => xs[i]?) (fun i => ys[i]?)) := by
  subst h1
  refine ⟨fun i _ hi q => ?_, fun _ q => ⟨xs, ys, q.1, q.2, by omega⟩, fun i H v H' _ q y => ?_⟩
  · exact ⟨xs, ys, xs[i], ys[i]'(by omega), q.1, q.2, by simp [hi], by simp [show i < ys.length by omega]⟩
  · obtain ⟨T, x, z, h1, h2, h3, h4, h5⟩ := y
    exact ⟨T, x, z, h1, h2, h3, h4 xs q.1, h5 ys q.2⟩
end Own

/-! The layer's rules with the written part named apart: their readings then hang on no context. -/
namespace Own
open PySem PySem.Spec PyProof.Rows L2 Evl
section
variable {X : Cx} {K : PySem.W.Frag}
theorem kx_list (h : X.K = K := by rfl) : IxR X (rIxL K) := by subst h; exact ix_list
theorem kx_tup (h : X.K = K := by rfl) : IxR X (rIxT K) := by subst h; exact ix_tup
theorem ksl_list (h : X.K = K := by rfl) : SlR X (rSlL K) := by subst h; exact sl_list
theorem ksl_tup (h : X.K = K := by rfl) : SlR X (rSlF K) := by subst h; exact sl_tupF
def rLenK (K : PySem.W.Frag) : List V → Hp → VK → Prop := fun xs H Q => ∃ p ys, xs = [.ref p] ∧ (SqL K H p ys ∨ SqT K H p ys) ∧ Q (.int ys.length) H
theorem kc_len (h : X.K = K := by rfl) : CallR X (.builtin "len") (rLenK K) := by subst h; exact call_len_seq
theorem kc_tuple (h : X.K = K := by rfl) : CallR X (.type "tuple") (rTupF K) := by subst h; exact call_tupF
def rListK (K : PySem.W.Frag) : List V → Hp → VK → Prop := fun xs H Q => ∃ p ys, xs = [.ref p] ∧ (SqL K H p ys ∨ SqT K H p ys) ∧ ∀ l, H l = none → Q (.ref l) (upd H l (.lst ys))
theorem kc_list (h : X.K = K := by rfl) : CallR X (.type "list") (rListK K) := by
  subst h
  intro pins s σ H xs us Q I r hh
  exact call_list_of pins s σ H xs us Q I r hh
theorem kc_isi (h : X.K = K := by rfl) : CallR X (.builtin "isinstance") (rIsi K) := by subst h; exact call_isi
theorem kc_sum (hc : X.calm = true) (h : X.K = K := by rfl) : CallR X (.builtin "sum") (rSum K) := by subst h; exact cr_sum hc
theorem kc_min (hc : X.calm = true) (h : X.K = K := by rfl) : CallR X (.builtin "min") (rMin K) := by subst h; exact cr_min hc
theorem kc_max (hc : X.calm = true) (h : X.K = K := by rfl) : CallR X (.builtin "max") (rMax K) := by subst h; exact cr_max hc
theorem ko_eq (hu : X.A.units + 64 < cLine) (h : X.K = K := by rfl) : OpR X (compareOp .Eq) (rEqD K) := by subst h; exact op_eqD hu
theorem ko_ne (hu : X.A.units + 64 < cLine) (h : X.K = K := by rfl) : OpR X (compareOp .NotEq) (rNeD K) := by subst h; exact op_neD hu
theorem ko_in (h : X.K = K := by rfl) : OpR X (compareOp .In) (rIn K false) := by subst h; exact op_in_seq
theorem ko_notIn (h : X.K = K := by rfl) : OpR X (compareOp .NotIn) (rIn K true) := by subst h; exact op_notIn_seq
theorem ko_cat (h : X.K = K := by rfl) : OpR X (binaryOp .Add) (rCatF K) := by subst h; exact op_catF
theorem ko_rep (h : X.K = K := by rfl) : OpR X (binaryOp .Mult) (rRepF K) := by subst h; exact op_repF
variable {o e : Expr} {es : List Expr} {to : TE} {t : TA} {name : Str} {apos cpos : Pos} {T id : String} {r : V → List V → Hp → VK → Prop}
theorem km_bm0 (pa : PlainAttrs T) (slot : Slot T name id) (hty : typeOf (.builtin id) = pure (.type "method_descriptor")) (hm : MtR X id r) (ho : PE X o to)
    (hbase : attributeBase o name X.env (eval o X.env) = eval o X.env := by rfl) (hline : (apos.endLine == cpos.line) = true := by rfl) (h : X.K = K := by rfl) : PE X (.Call (.Attribute o name apos) [] [] cpos) (tBM0 K T r to) := by
  subst h
  exact pe_bm0 pa slot hty hm ho hbase hline
theorem km_bm (pa : PlainAttrs T) (slot : Slot T name id) (hty : typeOf (.builtin id) = pure (.type "method_descriptor")) (hm : MtR X id r) (ho : PE X o to) (ha : PA X (e :: es) t)
    (hbase : attributeBase o name X.env (eval o X.env) = eval o X.env := by rfl)
    (hfew : ((backTo cpos (starEach (e :: es) X.env)).all (fun x => !x.1) && (backToKw cpos (keywordEach [] X.env)).all (fun x => x.1.isSome)
      && decide ((e :: es).length + ([] : List Keyword).length + (if ([] : List Keyword).isEmpty then 0 else 1) < 30)) = true := by rfl)
    (hline : (apos.endLine == cpos.line) = true := by rfl) (hs : starEach (e :: es) X.env = (false, eval e X.env) :: starEach es X.env := by rfl) (hplain : (backTo cpos (starEach es X.env)).any (·.1) = false := by rfl) (h : X.K = K := by rfl) :
    PE X (.Call (.Attribute o name apos) (e :: es) [] cpos) (tBM K T r to t) := by
  subst h
  exact pe_bm pa slot hty hm ho ha hbase hfew hline hs hplain
theorem km_count (ho : PE X o to) (ha : PA X (e :: es) t)
    (hbase : attributeBase o "count" X.env (eval o X.env) = eval o X.env := by rfl)
    (hfew : ((backTo cpos (starEach (e :: es) X.env)).all (fun x => !x.1) && (backToKw cpos (keywordEach [] X.env)).all (fun x => x.1.isSome)
      && decide ((e :: es).length + ([] : List Keyword).length + (if ([] : List Keyword).isEmpty then 0 else 1) < 30)) = true := by rfl)
    (hline : (apos.endLine == cpos.line) = true := by rfl) (hs : starEach (e :: es) X.env = (false, eval e X.env) :: starEach es X.env := by rfl) (hplain : (backTo cpos (starEach es X.env)).any (·.1) = false := by rfl) (h : X.K = K := by rfl) :
    PE X (.Call (.Attribute o "count" apos) (e :: es) [] cpos) (tTM K (rTCnt K) to t) := by
  subst h
  exact pe_tm PySem.F.plainAttrs_tuple PySem.F.slot_tuple_count PySem.F.type_tuple_count mt_tcount ho ha hbase hfew hline hs hplain
end
end Own

/-! Where draws come from, changed. -/
namespace Own
open PySem PySem.Spec PyProof.Rows L2 Evl
section
variable {N : Nat} {a l : Addr} {R H : Hp}
/-- its things -/
structure DealIs (N : Nat) (H : Hp) (a l : Addr) (cs ms : List Int) : Prop where
  ha : H a = some (.lst (.ref l :: ms.map V.int))
  hl : H l = some (.lst (cs.map V.int))
  pos : ∀ x ∈ cs, 0 ≤ x
  mn : ms.length = N
  len : cs.length ≤ 100
theorem DealIs.deal {cs ms : List Int} (d : DealIs N H a l cs ms) (n : a ≠ l) : Deal N H a l := ⟨n, cs, ms, d.ha, d.hl, d.pos, d.mn, d.len⟩
theorem Deal.is (d : Deal N H a l) : ∃ cs ms, DealIs N H a l cs ms := by
  obtain ⟨_, cs, ms, h1, h2, h3, h4, h5⟩ := d
  exact ⟨cs, ms, h1, h2, h3, h4, h5⟩
theorem DealIs.ex {cs ms : List Int} {H1 : Hp} (d : DealIs N H a l cs ms) (e : Ex H H1) : DealIs N H1 a l cs ms := ⟨e _ _ d.ha, e _ _ d.hl, d.pos, d.mn, d.len⟩
/-- the known heap, the deal at a and l as said -/
structure Wd (N : Nat) (a l : Addr) (R H : Hp) (cs ms : List Int) : Prop where
  ex : Ex R H
  na : R a = none
  nl : R l = none
  ne : a ≠ l
  is : DealIs N H a l cs ms
theorem Wd.wl {cs ms : List Int} (w : Wd N a l R H cs ms) : Wl N a l R H := ⟨w.ex, w.na, w.nl, w.is.deal w.ne⟩
theorem Wl.wd (w : Wl N a l R H) : ∃ cs ms, Wd N a l R H cs ms := by
  obtain ⟨cs, ms, d⟩ := w.deal.is
  exact ⟨cs, ms, w.ex, w.na, w.nl, w.deal.ne, d⟩
theorem Wd.keep {cs ms : List Int} {H1 : Hp} (w : Wd N a l R H cs ms) (e : Ex H H1) : Wd N a l R H1 cs ms := ⟨w.ex.trans e, w.na, w.nl, w.ne, w.is.ex e⟩
theorem ex_side {R H : Hp} {p : Addr} {o : HO} (e : Ex R H) (n : R p = none) : Ex R (upd H p o) := fun b u h => by
  have : b ≠ p := fun z => by
    rw [z, n] at h
    cases h
  rw [upd_ne this]
  exact e b u h
theorem Wd.cells {cs ds ms : List Int} (w : Wd N a l R H cs ms) (hp : ∀ x ∈ ds, 0 ≤ x) (hz : ds.length ≤ 100) : Wd N a l R (upd H l (.lst (ds.map V.int))) ds ms :=
  ⟨ex_side w.ex w.nl, w.na, w.nl, w.ne, by rw [upd_ne w.ne]; exact w.is.ha, upd_same, hp, w.is.mn, hz⟩
theorem Wd.nums {cs ms ms' : List Int} (w : Wd N a l R H cs ms) (h : ms'.length = N) : Wd N a l R (upd H a (.lst (.ref l :: ms'.map V.int))) cs ms' :=
  ⟨ex_side w.ex w.na, w.na, w.nl, w.ne, upd_same, by rw [upd_ne w.ne.symm]; exact w.is.hl, w.is.pos, h, w.is.len⟩
/-- the deal as it is made -/
def spDeal (N : Nat) (K : PySem.W.Frag) : Sp := fun vs H Q _ => ∃ (a : Addr) (ns : List Int) (salt : Int), vs = [.ref a, .int salt] ∧ SqL K H a (ns.map V.int) ∧ 0 ≤ salt ∧ salt ≤ 1000 ∧ ∀ (d l : Addr) (H' : Hp), Wl N d l H H' → Q (.ref d) H'
end
theorem cut_ints (ns : List Int) (lo hi : Option Int) : ∃ ms : List Int, cutV (ns.map V.int) lo hi = ms.map V.int ∧ ms.length ≤ ns.length := by
  refine ⟨(ns.drop (HT.sIx (ns.map V.int).length 0 lo)).take (HT.sIx (ns.map V.int).length (ns.map V.int).length hi - HT.sIx (ns.map V.int).length 0 lo), ?_, ?_⟩
  · unfold cutV
    rw [List.map_take, List.map_drop]
  · rw [List.length_take, List.length_drop]
    omega
theorem cut_len63 (ns : List Int) : (cutV (ns.map V.int) none (some 63)).length ≤ 63 := by
  unfold cutV
  rw [List.length_take]
  have : HT.sIx (ns.map V.int).length (ns.map V.int).length (some (63 : Int)) ≤ 63 := by
    rw [show (63 : Int) = ((63 : Nat) : Int) from rfl, HT.sIx_nat]
    exact Nat.min_le_left _ _
  omega
/-- the ints that a condition leaves -/
theorem given_ints (n : Nat) (f : Nat → Bool) (g : Nat → Int) : given n f (fun i => V.int (g i)) = (((List.range n).filter f).map g).map V.int := by
  unfold given
  rw [List.map_map]
  rfl
theorem while_split {c : TT} {tb : TS} {D : Ends} {σ : L2.St} {H : Hp} (W : Nat → L2.St → Hp → Prop) (End : L2.St → Hp → Prop) (h0 : ∃ m, W m σ H) (after : ∀ σ H, End σ H → D.nx σ H)
    (turn : ∀ (nx : L2.St → Hp → Prop), (∀ σ H, End σ H → nx σ H) → ∀ m σ H, W m σ H → c σ H fun b H1 => if b = true then ∃ N : L2.St → Hp → Prop, (∀ σ' H', N σ' H' → ∃ m', m' < m ∧ W m' σ' H') ∧ tb { D with nx := N, ct := N, bk := D.nx } σ H1 else nx σ H1) :
    tWhile c tb D σ H := ⟨W, h0, fun m σ H w => turn D.nx after m σ H w⟩
theorem sh_ints (cs : List Int) : SeqAt.shaped (.list (cs.map PyData.int)) = true := PySem.W.ke_shaped_ints cs
theorem ne_nil {K : PySem.W.Frag} {H : Hp} {l z : Addr} {cs : List Int} {Q : VK} (hl : H l = some (.lst (cs.map V.int))) (hz : H z = some (.lst [])) (q : Q (.bl (!cs.isEmpty)) H) : rNeD K (.ref l) (.ref z) H Q :=
  ⟨.list (cs.map PyData.int), .list [], .lst (sq_of hl) (dp_ints cs), .lst (sq_of hz) .nil, sh_ints cs, rfl, by rw [eqv_ints_nil]; exact q⟩
theorem at_last (ds : List Int) (x : Int) : atI ((ds ++ [x]).map V.int) (-1) = some (.int x) := by
  unfold atI ixN
  rw [if_neg (by decide), List.length_map, List.length_append, if_pos (by rw [List.length_singleton]; omega)]
  show ((ds ++ [x]).map V.int)[(-1 + ((ds.length + [x].length : Nat) : Int)).toNat]? = _
  rw [show (-1 + ((ds.length + [x].length : Nat) : Int)).toNat = ds.length by rw [List.length_singleton]; omega, List.getElem?_map, List.getElem?_append_right (Nat.le_refl _), Nat.sub_self]
  rfl
theorem pop_last (ds : List Int) (x : Int) : ((ds ++ [x]).map V.int)[((ds ++ [x]).map V.int).length - 1]? = some (.int x) ∧ ((ds ++ [x]).map V.int).dropLast = ds.map V.int := by
  constructor
  · rw [List.length_map, List.length_append, List.length_singleton, Nat.add_sub_cancel, List.getElem?_map, List.getElem?_append_right (Nat.le_refl _), Nat.sub_self]
    rfl
  · rw [List.map_append]
    exact List.dropLast_concat
theorem cases_last (cs : List Int) : cs = [] ∨ ∃ ds x, cs = ds ++ [x] := by
  rcases List.eq_nil_or_concat cs with h | ⟨ds, x, h⟩
  · exact .inl h
  · exact .inr ⟨ds, x, by rw [h, List.concat_eq_append]⟩
theorem not_empty (ds : List Int) (x : Int) : (!(ds ++ [x]).isEmpty) = true := by
  cases ds <;> rfl
/-- recursion of a def: what it promises at a depth; at none nothing -/
def spSameR (K : PySem.W.Frag) : Nat → Sp
  | 0 => fun _ _ _ _ => False
  | n + 1 => spSame K n
end Own

/-! What is known and where draws come from, with tuples beside; texts of one figure many times. -/
namespace Own
open PySem PySem.Spec PyProof.Rows L2 Evl
section
variable {N : Nat} {a l p : Addr} {R R1 H H1 : Hp} {K : PySem.W.Frag} {xs : List V} {Q : VK}
/-- less is known -/
theorem Wl.weak (w : Wl N a l R1 H) (e : Ex R R1) : Wl N a l R H := ⟨e.trans w.ex, fresh_back e w.na, fresh_back e w.nl, w.deal⟩
theorem Tp.ne (h : Tp K H p xs) (w : Deal N H a l) : (p ≠ a ∧ p ≠ l) ∨ ∀ H', Tp K H' p xs := by
  rcases h with ⟨o, h1, h2⟩ | h
  · obtain ⟨_, cs, ms, g1, g2, _⟩ := w
    refine .inl ⟨fun e => ?_, fun e => ?_⟩
    · subst e
      rw [h2] at g1
      cases g1
    · subst e
      rw [h2] at g2
      cases g2
  · exact .inr fun _ => .inr h
/-- a tuple that came beside is known from then on -/
theorem Wl.tp (w : Wl N a l R H) (e : Ex H H1) (h : Tp K H1 p xs) : ∃ R1, Ex R R1 ∧ Wl N a l R1 H1 ∧ Tp K R1 p xs := by
  obtain ⟨R1, e1, w1, m⟩ := w.more e
  refine ⟨R1, e1, w1, ?_⟩
  rcases h.ne w1.deal with ⟨n1, n2⟩ | h'
  · rcases h with ⟨o, h1, h2⟩ | h
    · exact .inl ⟨o, h1, m _ _ n1 n2 h2⟩
    · exact .inr h
  · exact h' _
/-- a new tuple, and what was known stays -/
def RetW (N : Nat) (K : PySem.W.Frag) (a l : Addr) (R : Hp) (xs : List V) (Q : VK) : Prop := ∀ p R1 H1, Ex R R1 → Wl N a l R1 H1 → Tp K R1 p xs → Q (.ref p) H1
theorem RetW.ret (k : RetW N K a l R xs Q) (w : Wl N a l R H) : RetU K xs H Q := fun p H2 e h => by
  obtain ⟨R1, e1, w1, t⟩ := w.tp e h
  exact k p R1 H2 e1 w1 t
theorem RetW.more (k : RetW N K a l R xs Q) (e : Ex R R1) : RetW N K a l R1 xs Q := fun p R2 H2 e2 w t => k p R2 H2 (e.trans e2) w t
end
/-! ### (x,) * n and t + u, with what they give -/
theorem rep_flat {α : Type} (n : Nat) (x : α) : (List.replicate n [x]).flatten = List.replicate n x := by
  induction n with
  | zero => rfl
  | succ n ih => rw [List.replicate_succ, List.flatten_cons, ih]; rfl
theorem rep_one {K : PySem.W.Frag} {x : V} {n : Int} {H : Hp} {Q : VK} (h0 : -1000 ≤ n) (h1 : n ≤ 1000) (k : RetU K (List.replicate n.toNat x) H Q) : NewT [x] H (fun v H1 => rRepF K v (.int n) H1 Q) := by
  intro p o hp ho
  refine ⟨p, n, [x], rfl, rfl, (Tp.of ho upd_same).sq, h0, h1, by show 1 ≤ 1000; omega, fun e => ?_, fun _ e => ?_⟩
  · rcases e with e | rfl
    · cases e
    · exact k p _ (Ex.new hp) (Tp.of ho upd_same)
  · rw [rep_flat]
    exact k.new (Ex.new hp)
theorem cat_ret {K : PySem.W.Frag} {a b : Addr} {xs ys : List V} {H H0 : Hp} {Q : VK} (ha : Tp K H a xs) (hb : Tp K H b ys) (hz : xs.length + ys.length ≤ sizeLine) (e : Ex H0 H) (k : RetU K (xs ++ ys) H0 Q) : rCatF K (.ref a) (.ref b) H Q :=
  ⟨a, b, xs, ys, rfl, rfl, ha.sq, hb.sq, hz, fun h => by
    subst h
    exact k b H e hb, fun _ h => by
    subst h
    rw [List.append_nil] at k
    exact k a H e ha, fun _ _ => k.new e⟩
/-! ### a figure many times -/
theorem rep_arr (a : Array Nat) : ∀ (n : Nat) (acc : Array Nat), ((List.replicate n a).foldl (· ++ ·) acc).toList = acc.toList ++ (List.replicate n a.toList).flatten
  | 0, acc => by simp
  | n + 1, acc => by
    rw [List.replicate_succ, List.foldl_cons, rep_arr a n, List.replicate_succ, List.flatten_cons, Array.toList_append, List.append_assoc]
theorem repS_list (a : Str) (n : Nat) : (repS a n).cps.toList = (List.replicate n a.cps.toList).flatten := by
  have := rep_arr a.cps n #[]
  exact this
theorem fig_int {a : Str} {c n : Nat} (ha : a.cps.toList = [c]) (h0 : 48 ≤ c) (h1 : c ≤ 57) (hn : 0 < n) (hz : n ≤ 4300) : ∃ z : Int, PySem.intText? (repS a n) = some z ∧ (repS a n).length ≤ 4300 ∧ (numSeenOf (repS a n)).length = (repS a n).length := by
  have e : (repS a n).cps.toList = List.replicate n c := by rw [repS_list, ha, rep_flat]
  have el : (repS a n).length = n := by
    have := congrArg List.length e
    rw [List.length_replicate] at this
    exact this
  have hd : ∀ x ∈ (repS a n).cps.toList, x = c := fun x hx => by
    rw [e] at hx
    exact List.eq_of_mem_replicate hx
  refine ⟨_, intText_digits ?_ ?_ (by omega), by omega, ?_⟩
  · intro x hx
    rw [hd x hx]
    exact ⟨h0, h1⟩
  · rw [e]
    intro h
    have := congrArg List.length h
    rw [List.length_replicate] at this
    simp at this
    omega
  · rw [(numText_signs (x := repS a n) fun x hx => .inr (by rw [hd x hx]; exact ⟨h0, h1⟩)).2]
    rfl
end Own

/-! range(n) as a list; tuples that a comprehension makes; plain laws of rows. -/
namespace Own
open PySem PySem.Spec PyProof.Rows L2 Evl
theorem newL {H : Hp} {xs : List V} {Q : VK} (k : ∀ m H1, Ex H H1 → H m = none → H1 m = some (.lst xs) → Q (.ref m) H1) : ∀ m, H m = none → Q (.ref m) (upd H m (.lst xs)) := fun m hm => k m _ (Ex.new hm) hm upd_same
theorem rg_len (n : Nat) : (rgV 0 (n : Int)).length = n := by
  rw [rgV_length]
  omega
theorem rg_at {n i : Nat} {x : V} (h : (rgV 0 (n : Int))[i]? = some x) : x = .int (i : Int) ∧ i < n := by
  unfold rgV at h
  rw [List.getElem?_map] at h
  by_cases hi : i < ((n : Int) - 0).toNat
  · rw [List.getElem?_range hi] at h
    have := Option.some.inj h
    refine ⟨?_, by omega⟩
    rw [← this]
    exact congrArg V.int (by omega)
  · rw [List.getElem?_eq_none (by rw [List.length_range]; omega)] at h
    cases h
theorem rg_ok {n : Nat} (h : n ≤ 10000) : RgOk 0 (n : Int) := RgOk.of_le (by decide) (by omega) (by decide) (by omega)
/-- ints made from ints, place by place -/
theorem range_of {n : Nat} (f : Nat → Int) {ys : List Int} (h1 : ys.length = n) (h : ∀ i, i < n → f i = ys.getD i 0) : (List.range n).map (fun i => V.int (f i)) = ys.map V.int := by
  subst h1
  rw [← range_map 0 V.int ys]
  apply List.map_congr_left
  intro i hi
  rw [h i (List.mem_range.mp hi)]
theorem getD_zip {f : Int → Int → Int} {xs ys : List Int} {i : Nat} (h1 : i < xs.length) (h2 : i < ys.length) : (List.zipWith f xs ys).getD i 0 = f (xs.getD i 0) (ys.getD i 0) := by
  simp only [List.getD_eq_getElem?_getD, List.getElem?_zipWith, List.getElem?_eq_getElem h1, List.getElem?_eq_getElem h2]
  rfl
theorem getD_map {f : Int → Int} {xs : List Int} {i : Nat} (h1 : i < xs.length) : (xs.map f).getD i 0 = f (xs.getD i 0) := by
  simp only [List.getD_eq_getElem?_getD, List.getElem?_map, List.getElem?_eq_getElem h1]
  rfl
theorem less_is (x y q : Int) : (x + 2 * q - y) % q = (x - y) % q := by
  rw [show x + 2 * q - y = (x - y) + q * 2 by omega, Int.add_mul_emod_self_left]
theorem turned_is (y q : Int) : (q - y) % q = y * (-1 % q) % q := by
  have h : y * (-1 % q) % q = y * -1 % q := by
    rw [Int.mul_emod y (-1 % q) q, Int.emod_emod_of_dvd _ (Int.dvd_refl q), ← Int.mul_emod]
  rw [h, show q - y = y * -1 + q * 1 by omega, Int.add_mul_emod_self_left]
end Own
namespace Own
open PySem PySem.Spec PyProof.Rows L2 Evl
theorem given_congr {n : Nat} {f g : Nat → Bool} {v : Nat → V} (h : ∀ i, i < n → f i = g i) : given n f v = given n g v := by
  unfold given
  rw [List.filter_congr fun i hi => h i (List.mem_range.mp hi)]
theorem range_getD (xs : List Int) : (List.range xs.length).map (fun i => xs.getD i 0) = xs := by
  have := range_map (0 : Int) (id : Int → Int) xs
  rw [List.map_id] at this
  exact this
theorem given_count (xs : List Int) (p : Int → Bool) (v : Nat → V) : (given xs.length (fun i => p (xs.getD i 0)) v).length = xs.countP p := by
  unfold given
  rw [List.length_map, ← List.countP_eq_length_filter]
  conv => rhs; rw [← range_getD xs, List.countP_map]
  rfl
theorem given_weight (xs : List Int) (v : Nat → V) : ((given xs.length (fun i => decide (xs.getD i 0 ≠ 0)) v).length : Int) = (xs.length : Int) - (xs.count 0 : Nat) := by
  rw [given_count xs (fun x => decide (x ≠ 0)) v]
  have h1 := List.length_eq_countP_add_countP (fun x : Int => x == 0) (l := xs)
  have h2 : xs.count 0 = xs.countP (fun x => x == 0) := rfl
  have h3 : xs.countP (fun x => decide (x ≠ 0)) = xs.countP (fun a => decide ¬ (a == 0) = true) := by
    apply List.countP_congr
    intro x _
    simp
  omega
end Own

/-! Calls that may raise, by name; a figure many times, its worth. -/
namespace Own
open PySem PySem.Spec PyProof.Rows L2 Evl
section
variable {X : Cx} {CX : CXT} {k : Nat} {ps ks : List Str} {sp : Sp} {E : L2.St → XK} {x : Str} {st : Stmt} {p pos : Pos} {e : Expr} {es : List Expr} {t tk : TA}
theorem pe_callSF (F : Fn X.prog X.w X.K X.mg X.base CX k x st ps sp) (hr : Room k X.A) (hg : Gl X x) (hx : ∀ σ, PassesAt CX X σ (E σ)) (ha : PA X (e :: es) t) (hdb : (x == ("__debug__" : Str)) = false := by decide)
    (he : starEach (e :: es) X.env = (false, eval e X.env) :: starEach es X.env := by rfl) (hpl : (backTo pos (starEach es X.env)).any (·.1) = false := by rfl) :
    PE X (.Call (.Name x p) (e :: es) [] pos) (tCallS sp E t) := by
  obtain ⟨f, fd, h1, h2, h3, h4⟩ := F
  exact pe_callS h4 hr hg h1 h2.kp h3 hx ha hdb he hpl
end
theorem fig_val {a : Str} {c n : Nat} (ha : a.cps.toList = [c]) (h0 : 48 ≤ c) (h1 : c ≤ 57) (hn : 0 < n) (hz : n ≤ 4300) : PySem.intText? (repS a n) = some ((NumText.digitsVal (List.replicate n c) : Nat) : Int) ∧ (repS a n).length ≤ 4300 ∧ (numSeenOf (repS a n)).length = (repS a n).length := by
  have e : (repS a n).cps.toList = List.replicate n c := by rw [repS_list, ha, rep_flat]
  obtain ⟨z, z1, z2, z3⟩ := fig_int ha h0 h1 hn hz
  refine ⟨?_, z2, z3⟩
  rw [← e]
  refine intText_digits ?_ ?_ z2
  · intro x hx
    rw [e] at hx
    rw [List.eq_of_mem_replicate hx]
    exact ⟨h0, h1⟩
  · rw [e]
    intro h
    have := congrArg List.length h
    rw [List.length_replicate] at this
    simp at this
    omega
theorem fold_le : ∀ (l : List Nat) (acc : Nat), acc ≤ l.foldl (fun acc c => acc * 10 + (c - 48)) acc
  | [], _ => Nat.le_refl _
  | c :: r, acc => Nat.le_trans (by omega) (fold_le r (acc * 10 + (c - 48)))
theorem threes (n : Nat) : 3333 ≤ NumText.digitsVal (List.replicate (n + 4) 51) := fold_le (List.replicate n 51) 3333
theorem fig_three {n : Nat} (h : 4 ≤ n) (hz : n ≤ 4300) : ∃ z : Int, 3333 ≤ z ∧ PySem.intText? (repS "3" n) = some z ∧ (repS "3" n).length ≤ 4300 ∧ (numSeenOf (repS "3" n)).length = (repS "3" n).length := by
  obtain ⟨m, rfl⟩ : ∃ m, n = m + 4 := ⟨n - 4, by omega⟩
  obtain ⟨i1, i2, i3⟩ := fig_val (a := "3") (c := 51) (n := m + 4) (by decide +kernel) (by decide) (by decide) (by omega) hz
  exact ⟨_, Int.ofNat_le.mpr (threes m), i1, i2, i3⟩
end Own

namespace Own
open PySem PySem.Spec PyProof.Rows L2 Evl
section
variable {N : Nat} {K : PySem.W.Frag} {H R : Hp} {Q : VK} {a l p : Addr} {xs : List V}
theorem rep_id {α : Type} (xs : List α) : (List.replicate 1 xs).flatten = xs := by simp
theorem rep_nil {α : Type} (n : Nat) : (List.replicate n ([] : List α)).flatten = [] := by
  induction n with
  | zero => rfl
  | succ n ih => rw [List.replicate_succ, List.flatten_cons, ih]; rfl
theorem rep_ret {k : Int} (h : Tp K H l xs) (h0 : -1000 ≤ k) (h1 : k ≤ 1000) (hz : xs.length ≤ 1000) (q : RetU K (List.replicate k.toNat xs).flatten H Q) : rRepF K (.ref l) (.int k) H Q :=
  ⟨l, k, xs, rfl, rfl, h.sq, h0, h1, hz, fun e => by
    rcases e with rfl | rfl
    · rw [rep_nil] at q
      exact q l H (Ex.refl _) h
    · rw [show (1 : Int).toNat = 1 from rfl, rep_id] at q
      exact q l H (Ex.refl _) h, fun _ _ => q.new (Ex.refl _)⟩
theorem sl_ret {lo hi : Option Int} (h : Tp K H l xs) (q : RetU K (cutV xs lo hi) H Q) : rSlF K (.ref l) lo hi H Q :=
  ⟨l, xs, rfl, h.sq, fun e => by
    have : cutV xs lo hi = xs := by
      unfold cutV
      rw [e.1, e.2, List.drop_zero, Nat.sub_zero, List.take_length]
    rw [this] at q
    exact q l H (Ex.refl _) h, fun _ => q.new (Ex.refl _)⟩
theorem cut_from1 (xs : List V) : cutV xs (some 1) none = xs.drop 1 := by
  unfold cutV
  rw [show (1 : Int) = ((1 : Nat) : Int) from rfl, HT.sIx_nat, HT.sIx_none]
  cases xs with
  | nil => rfl
  | cons x r =>
    rw [show min 1 (x :: r).length = 1 by simp, List.take_of_length_le (by rw [List.length_drop]; omega)]
theorem Deal.off (d : Deal N H a l) (h : H p = none) : p ≠ a ∧ p ≠ l := ⟨fun e => d.dom.1 (e ▸ h), fun e => d.dom.2 (e ▸ h)⟩
theorem Tp.mut {wr : Addr} {ys zs : List V} (h : Tp K R p xs) (hw : R wr = some (.lst ys)) : Tp K (upd R wr (.lst zs)) p xs := by
  rcases h with ⟨o, h1, h2⟩ | h
  · have : p ≠ wr := fun e => by
      rw [e, hw] at h2
      cases h2
    exact .inl ⟨o, h1, by rw [upd_ne this]; exact h2⟩
  · exact .inr h
/-- kinds, when a list is changed -/
theorem Vk.mut {wr : Addr} {ys zs : List V} {v : V} {T : String} (h : Vk K R v T) (hw : R wr = some (.lst ys)) : Vk K (upd R wr (.lst zs)) v T := by
  cases h with
  | non => exact .non
  | bl b => exact .bl b
  | int i => exact .int i
  | str z => exact .str z
  | tup h => exact .tup (h.mut hw)
  | lst h =>
    rename_i p xs
    by_cases e : p = wr
    · subst e
      exact .lst upd_same
    · exact .lst (by rw [upd_ne e]; exact h)
theorem least : ∀ ps : List Int, ps ≠ [] → ∃ m, m ∈ ps ∧ ∀ y, y ∈ ps → m ≤ y
  | [], h => (h rfl).elim
  | [x], _ => ⟨x, by simp, fun y hy => by rw [List.mem_singleton.mp hy]; exact Int.le_refl _⟩
  | x :: z :: r, _ => by
    obtain ⟨m, h1, h2⟩ := least (z :: r) (by simp)
    by_cases c : x ≤ m
    · refine ⟨x, by simp, fun y hy => ?_⟩
      rcases List.mem_cons.mp hy with rfl | h
      · exact Int.le_refl _
      · exact Int.le_trans c (h2 y h)
    · refine ⟨m, List.mem_cons_of_mem _ h1, fun y hy => ?_⟩
      rcases List.mem_cons.mp hy with rfl | h
      · omega
      · exact h2 y h
theorem eqv_tup_nil (ns : List Int) : PyData.eqv (.tuple (ns.map PyData.int)) (.tuple []) = ns.isEmpty := by
  cases ns <;> rfl
theorem sh_tup_ints (ns : List Int) : SeqAt.shaped (.tuple (ns.map PyData.int)) = true := by
  simp [SeqAt.shaped, PyData.canLay0, PyData.depth, PySem.W.ke_canLayAll0, PySem.W.ke_depthAll]
theorem tp_known (h : Tp K H p xs) (d : Deal N H a l) (known : ∀ b o, b ≠ a → b ≠ l → H b = some o → R b = some o) : Tp K R p xs := by
  rcases h.ne d with ⟨n1, n2⟩ | h'
  · rcases h with ⟨o, h1, h2⟩ | h
    · exact .inl ⟨o, h1, known _ _ n1 n2 h2⟩
    · exact .inr h
  · exact h' _
theorem if_skip {c : TT} {t : TS} {D : Ends} {σ : L2.St} (J : Hp → Prop) (after : ∀ H', J H' → D.nx σ H') (h : ∀ nx : Hp → Prop, (∀ H', J H' → nx H') → c σ H fun b H1 => if b = true then t D σ H1 else nx H1) : tIfS c t tNext D σ H := h _ after
theorem if_join {c : TT} {t : TS} {D : Ends} {σ : L2.St} (J : L2.St → Hp → Prop) (after : ∀ σ' H', J σ' H' → D.nx σ' H') (h : ∀ nx : L2.St → Hp → Prop, (∀ σ' H', J σ' H' → nx σ' H') → c σ H fun b H1 => if b = true then t { D with nx := nx } σ H1 else nx σ H1) : tIfS c t tNext D σ H := h _ after
theorem asg_join {te : TE} {i : Nat} {D : Ends} {σ : L2.St} (J : V → Hp → Prop) (after : ∀ v H', J v H' → D.nx (σ.set i (some v)) H') (h : ∀ Qk : VK, (∀ v H', J v H' → Qk v H') → te σ H Qk) : tAsg te (gName i) D σ H := h _ after
/-- both branches written -/
theorem if_both {c : TT} {t u : TS} {D : Ends} {σ : L2.St} (J : L2.St → Hp → Prop) (after : ∀ σ' H', J σ' H' → D.nx σ' H') (h : ∀ nx : L2.St → Hp → Prop, (∀ σ' H', J σ' H' → nx σ' H') → c σ H fun b H1 => if b = true then t { D with nx := nx } σ H1 else u { D with nx := nx } σ H1) : tIfS c t u D σ H := h _ after
end
end Own

/-! The head's facts, with the statics beside, and one's own exceptions. -/
namespace Own
open PySem PySem.Spec PyProof.Rows L2
open He (ga ma fAd eqO eqO_ok ba)
abbrev ExW : Type := Option (Str × Str × Arguments × FuncBody × Scope × Addr × List Str × Addr)
def exW (K : PySem.W.Frag) (x : Str) : ExW := match K.lookup (ma K (ga K x) "__init__") with
  | some ⟨_, _, .func fd, _⟩ => some (fd.name, fd.qualname, fd.params, fd.body, fd.scope, fd.globals, fd.closure.map (·.1), fd.builtins)
  | _ => none
/-- an own exception: its name, its base's name, its field, its __init__ -/
structure ExD where
  name : Str
  base : Str
  field : Str
  qual : Str
  params : Arguments
  body : List Stmt
  scope : Scope
def ExD.val (e : ExD) : ExW := some ("__init__", e.qual, e.params, .stmts e.body, e.scope, mainGlobals, ["__class__"], builtinsNs)
/-- a class one above another, both errors -/
def clsB (K : PySem.W.Frag) (C M : Addr) : Bool := match K.lookup C with
  | some ⟨.type "type", _, .cls cd, sl⟩ => (match sl.toList with
    | [_, _, _, _, some (.builtin n), _] => decide (cd.mro = .ref C :: .ref M :: PySem.OwX.exT) && decide (n = "Exception.__new__") && cd.hasDict && !cd.hasDel
    | _ => false)
  | _ => false
theorem clsB_ok {K : PySem.W.Frag} {C M : Addr} (h : clsB K C M = true) : ∃ nm q N bs sn sub ab col dd k0 k1 k2 k3 k5, K.lookup C = some (excClassObj nm q C N bs (.ref M :: PySem.OwX.exT) true sn sub ab col dd k0 k1 k2 k3 k5 "Exception.__new__") := by
  unfold clsB at h
  split at h
  · rename_i dd cd sl ho
    split at h
    · rename_i k0 k1 k2 k3 n k5 hs
      simp only [Bool.and_eq_true, decide_eq_true_eq, Bool.not_eq_true'] at h
      obtain ⟨⟨⟨hm, rfl⟩, hd⟩, hdel⟩ := h
      obtain ⟨nm, bs, mro, ns, qn, hdd, sn, sub, ab, col, del⟩ := cd
      dsimp only at hm hd hdel
      subst hm hd hdel
      have hsl : sl = #[k0, k1, k2, k3, some (.builtin "Exception.__new__"), k5] := by
        obtain ⟨l⟩ := sl
        simp only at hs
        rw [hs]
      subst hsl
      exact ⟨nm, qn, ns, bs, sn, sub, ab, col, dd, k0, k1, k2, k3, k5, ho⟩
    · cases h
  · cases h
/-- its __init__'s code, its cell -/
def initB (K : PySem.W.Frag) (file qual : Str) (C fI : Addr) : Bool := match K.lookup fI with
  | some ⟨_, _, .func fd, _⟩ => (match fd.defaults, fd.kwdefaults, fd.code, fd.closure with
    | .none, .none, .ref cda, [(_, cc)] => PySem.W.codeIn K (.ref cda) qual && (match K.lookup cda with
      | some ⟨_, _, .fields vs, _⟩ => (match (vs[2]? : Option Value) with
        | some (.str z _) => decide (z = file)
        | _ => false)
      | _ => false) && (match K.lookup cc with
      | some ⟨_, _, .cell (some (.ref D)), _⟩ => decide (D = C)
      | _ => false)
    | _, _, _, _ => false)
  | _ => false
theorem initB_ok {K : PySem.W.Frag} {file : Str} {C : Addr} {x : Str} {e : ExD} (h : initB K file e.qual C (ma K (ga K x) "__init__") = true) (w : exW K x = e.val) :
    ∃ (oc : Value) (od : Option Addr) (doc pm : Value) (an : Option Addr) (cda cc : Addr) (ct : Value) (osl : Array (Option Value)) (ccl cl : Value) (cdd cld : Option Addr) (ccs csl : Array (Option Value)) (vs : Array Value) (tf : Tok),
      K.lookup (ma K (ga K x) "__init__") = some ⟨oc, od, .func (PySem.W.ksFn "__init__" e.qual e.params e.body e.scope .none .none doc pm an (.ref cda) ct cc), osl⟩ ∧ PySem.W.codeIn K (.ref cda) e.qual = true ∧
        K.lookup cda = some ⟨ccl, cdd, .fields vs, ccs⟩ ∧ vs[2]? = some (.str file tf) ∧ K.lookup cc = some ⟨cl, cld, .cell (some (.ref C)), csl⟩ := by
  unfold initB at h
  unfold exW at w
  split at h
  · rename_i oc od fd osl ho
    rw [ho] at w
    have w2 : (some (fd.name, fd.qualname, fd.params, fd.body, fd.scope, fd.globals, fd.closure.map (·.1), fd.builtins) : ExW) = e.val := w
    obtain ⟨n1, n2, n3, n4, n5, n6, n7, n8, n9, n10, n11, n12, n13, n14, n15⟩ := fd
    dsimp only at h w2
    split at h
    · rename_i cda q cc
      rename_i e1 e2 e3 e4
      unfold ExD.val at w2
      simp only [Option.some.injEq, Prod.mk.injEq, List.map_cons, List.map_nil, List.cons.injEq, and_true] at w2
      obtain ⟨rfl, rfl, rfl, rfl, rfl, rfl, rfl, rfl⟩ := w2
      simp only [Bool.and_eq_true] at h
      obtain ⟨⟨h1, h2⟩, h3⟩ := h
      split at h2
      · rename_i ccl cdd vs ccs hc
        split at h2
        · rename_i z tf hz
          obtain rfl := of_decide_eq_true h2
          split at h3
          · rename_i cl cld D csl hcc
            obtain rfl := of_decide_eq_true h3
            exact ⟨oc, od, _, _, _, cda, cc, _, osl, ccl, cl, cdd, cld, ccs, csl, vs, tf, ho, h1, hc, hz, hcc⟩
          · cases h3
        · cases h2
      · cases h2
    · cases h
  · cases h
end Own

/-! .. the Hook, what it says. -/
namespace Own
open PySem PySem.Spec PyProof.Rows L2
open He (ga ma fAd eqO eqO_ok ba)
def ExD.ok (file : Str) (K : PySem.W.Frag) (e : ExD) : Bool :=
  clsB K (ga K e.name) (ga K e.base) && (initB K file e.qual (ga K e.name) (ma K (ga K e.name) "__init__") && (eqO (PySem.W.findIn K (.ref (ga K e.name)) "__setattr__") (some (some (.builtin "object.__setattr__"))) &&
  (eqO (PySem.W.findIn K (.ref (ga K e.name)) "__getattribute__") (some (some (.builtin "BaseException.__getattribute__"))) && (eqO (PySem.W.findIn K (.ref (ga K e.name)) "__getattr__") (some none) &&
  (eqO (PySem.W.findIn K (.ref (ga K e.name)) e.field) (some none) && (eqO (PySem.W.findIn K (.ref (ga K e.name)) "__init__") (some (some (.ref (ma K (ga K e.name) "__init__")))) &&
  (decide (PySem.W.typeIn K (.ref (ma K (ga K e.name) "__init__")) = some (.type "function")) && (PySem.W.keepIn K (.ref (ga K e.name)) && (decide (PySem.W.subIn K (.ref (ga K e.name)) (.type "BaseException") = some true) &&
  (decide (PySem.W.subIn K (.ref (ga K e.name)) (.type "Exception") = some true) && (decide (PySem.W.typeIn K (.ref (ga K e.name)) = some (.type "type")) && (PySem.W.hasDictIn K (ga K e.name) &&
  (decide (PySem.W.exmOne K (.ref (ga K e.name)) (.ref (ga K e.name)) = some true) && (eqO (PySem.W.alongIn K "__init__" (.ref (ga K e.base) :: PySem.OwX.exT)) (some (some (.builtin "Exception.__init__"))) &&
  eqO (PySem.W.nsIn K mainGlobals "super") (some none)))))))))))))))
def statB (K : PySem.W.Frag) : Bool := eqO (PySem.W.nsIn K cStatics "sys.int_max_str_digits") (some none) && eqO (PySem.W.nsIn K cStatics "thirdparty.any") (some none)
abbrev AlE : Type := He.AlD × Bool × List ExW
def obsE (file : Str) (fa : List He.Fa) (fn : List He.DefD) (ex : List ExD) (K : PySem.W.Frag) : AlE := (He.obsD fa fn K, statB K && ex.all (fun e => e.ok file K), ex.map fun e => exW K e.name)
def valE (fn : List He.DefD) (ex : List ExD) : AlE := (He.valD fn, true, ex.map ExD.val)
def SaysE (file : Str) (fa : List He.Fa) (fn : List He.DefD) (ex : List ExD) (K : PySem.W.Frag) : Prop := obsE file fa fn ex K = valE fn ex
def obsEG (file : Str) (n : Nat) (fa : List He.Fa) (fn : List He.DefD) (ex : List ExD) (g : Addr → Option Obj) : AlE := obsE file fa fn ex (He.frG g (cStatics :: He.asD g n))
def hookE (file : Str) (n : Nat) (fa : List He.Fa) (fn : List He.DefD) (ex : List ExD) : PySem.W.Hook where
  α := AlE
  obs := fun s => obsEG file n fa fn ex s.heap.get?
  val := fun _ => valE fn ex
  says := fun _ h => ∃ K : PySem.W.Frag, K.In h ∧ SaysE file fa fn ex K
  of := fun _ _ e => ⟨_, He.frG_in, e⟩
  keeps := fun _ _ _ ⟨K, hK, c⟩ k => ⟨K, PySem.W.Frag.In.keeps hK k, c⟩
theorem obsEG_eq {file : Str} {n : Nat} {fa : List He.Fa} {fn : List He.DefD} {ex : List ExD} {g : Addr → Option Obj} {s : Shared} (h : ∀ a, g a = s.heap.get? a) : obsEG file n fa fn ex g = (hookE file n fa fn ex).obs s := by
  have e : g = s.heap.get? := funext h
  rw [e] <;> rfl
section
variable {file : Str} {fa : List He.Fa} {fn : List He.DefD} {ex : List ExD} {K : PySem.W.Frag}
theorem SaysE.saysD (c : SaysE file fa fn ex K) : He.SaysD fa fn K := congrArg (fun z : AlE => z.1) c
theorem SaysE.st (c : SaysE file fa fn ex K) : statB K = true := (ba (show (statB K && ex.all (fun e => e.ok file K)) = true from congrArg (fun z : AlE => z.2.1) c)).1
theorem SaysE.ex_ (c : SaysE file fa fn ex K) (i : Nat) {e : ExD} (h : ex[i]? = some e := by rfl) : e.ok file K = true ∧ exW K e.name = e.val := by
  have c2 := (ba (show (statB K && ex.all (fun e => e.ok file K)) = true from congrArg (fun z : AlE => z.2.1) c)).2
  have e1 : ex.map (fun e => exW K e.name) = ex.map ExD.val := congrArg (fun z : AlE => z.2.2) c
  have e2 : (ex.map fun e => exW K e.name)[i]? = (ex.map ExD.val)[i]? := by rw [e1]
  rw [List.getElem?_map, List.getElem?_map, h] at e2
  exact ⟨List.all_eq_true.mp c2 e (List.mem_of_getElem? h), Option.some.inj e2⟩
theorem SaysE.digits (c : SaysE file fa fn ex K) : PySem.W.nsIn K cStatics "sys.int_max_str_digits" = some none := eqO_ok (ba c.st).1
/-- one of at -/
def exAt (nm base msg qual : Str) (p1 p2 r0 r1 r2 r3 r4 r5 q1 q2 q3 q4 : Pos) : ExD := ⟨nm, base, "at", qual, PySem.OwXat.iA p1 p2, [PySem.OwXat.sSup msg r0 r1 r2 r3 r4 r5, PySem.OwXat.sStore q1 q2 q3 q4], PySem.OwXat.iS⟩
theorem oex_at {P : Program} {nm base msg qual : Str} {p1 p2 r0 r1 r2 r3 r4 r5 q1 q2 q3 q4 : Pos} (st : statB K = true) (c : (exAt nm base msg qual p1 p2 r0 r1 r2 r3 r4 r5 q1 q2 q3 q4).ok P.main.file K = true ∧ exW K nm = (exAt nm base msg qual p1 p2 r0 r1 r2 r3 r4 r5 q1 q2 q3 q4).val)
    (top : (P.main.scope.names.lookup ("super" : Str)).isSome = false)
    (h1 : ∀ env : Env, ∃ pl : Sem Bool, eval (.Call (.Attribute (.Call (.Name "super" r0) [] [] r1) "__init__" r2) [.Constant (.str msg) 0 r3] [] r4) env = (do
        let ov ← attributeBase (.Call (.Name "super" r0) [] [] r1) "__init__" env (eval (.Call (.Name "super" r0) [] [] r1) env)
        standAt r2.atName
        let (f, first) ← holding [ov] (getMethod ov "__init__" pl)
        callWith r4 f first (backTo r4 (starEach [.Constant (.str msg) 0 r3] env)) []))
    (h2 : ∀ env : Env, swapsWith (.Call (.Attribute (.Call (.Name "super" r0) [] [] r1) "__init__" r2) [.Constant (.str msg) 0 r3] [] r4) none r5.line env = pure false)
    (h3 : ∀ env : Env, swapsWith (.Name "at" q3) (some (.Attribute (.Name "self" q1) "at" q2)) q4.line env = pure false) :
    PySem.OwXat.OexT P K (ga K nm) (ga K base) (ma K (ga K nm) "__init__") := by
  obtain ⟨c, w⟩ := c
  obtain ⟨c1, c⟩ := ba c
  obtain ⟨c2, c⟩ := ba c
  obtain ⟨c3, c⟩ := ba c
  obtain ⟨c4, c⟩ := ba c
  obtain ⟨c5, c⟩ := ba c
  obtain ⟨c6, c⟩ := ba c
  obtain ⟨c7, c⟩ := ba c
  obtain ⟨c8, c⟩ := ba c
  obtain ⟨c9, c⟩ := ba c
  obtain ⟨c10, c⟩ := ba c
  obtain ⟨c11, c⟩ := ba c
  obtain ⟨c12, c⟩ := ba c
  obtain ⟨c13, c⟩ := ba c
  obtain ⟨c14, c⟩ := ba c
  obtain ⟨c15, c16⟩ := ba c
  refine ⟨clsB_ok c1, eqO_ok c3, eqO_ok c4, eqO_ok c5, eqO_ok c6, eqO_ok c7, of_decide_eq_true c8, c9, of_decide_eq_true c10, of_decide_eq_true c11, of_decide_eq_true c12, c13, of_decide_eq_true c14, eqO_ok c15, eqO_ok (ba st).2, eqO_ok c16, top, ?_⟩
  obtain ⟨oc, od, doc, pm, an, cda, cc, ct, osl, ccl, cl, cdd, cld, ccs, csl, vs, tf, g1, g2, g3, g4, g5⟩ := initB_ok c2 w
  exact ⟨_, oc, od, doc, pm, an, cda, cc, ct, osl, msg, p1, p2, r0, r1, r2, r3, r4, r5, q1, q2, q3, q4, ccl, cl, cdd, cld, ccs, csl, vs, tf, g1, g2, g3, g4, g5, h1, h2, h3⟩
end
end Own

/-! tuple(range(n)); comprehensions that draw. -/
namespace Own
open PySem PySem.Spec PyProof.Rows L2 Evl
def tTupRange (te : TE) : TE := fun σ H Q => tRg1 te σ H fun a b H1 => RgOk a b ∧ NewT (rgV a b) H1 Q
section
variable {X : Cx}
theorem pe_tuple_range {e : Expr} {te : TE} {p pos p2 pos2 : Pos} (hm : X.mg "tuple" = none) (hm2 : X.mg "range" = none) (he : PE X e te) (hc : X.calm = true := by rfl) (hg : Gl X "tuple" := by rfl) (hg2 : Gl X "range" := by rfl)
    (na : starEach [e] X.env = (false, eval e X.env) :: starEach [] X.env := by rfl) (na2 : starEach [.Call (.Name "range" p2) [e] [] pos2] X.env = (false, eval (.Call (.Name "range" p2) [e] [] pos2) X.env) :: starEach [] X.env := by rfl) :
    PE X (.Call (.Name "tuple" p) [.Call (.Name "range" p2) [e] [] pos2] [] pos) (tTupRange te) := by
  have hr0 : PRg X (.Call (.Name "range" p2) [e] [] pos2) (tRg1 te) := prg_1 hg2 hm2 he na
  refine ⟨fun pins s σ H Q I h => ?_⟩
  refine Call_ (ld_blt I hg hm boot_tuple (PyProof.Rows.callWith_type1 (args_cons (thn (hr0 pins _ σ H _ (I.tok _) h) fun x s1 ⟨r, a, b, t, u, v, H1, ex, hr, I1, ok, q⟩ => args_nil ?_) na2) na2))
  subst ex
  obtain ⟨b1, b2, b3, b4, b5⟩ := ok
  refine call_tuple_range (n := (b - a).toNat) (I1.ok.hd hc) hr (small_one b1 b2 b3 b4) (rangeSize_nat a b) b5 fun h' tk acc hk hi => ?_
  have I2 : Inv X pins σ H1 { s1 with heap := h', toks := tk } := I1.kept hk
  have z := newT_end (tk := tk) I2 (vals_rg hi) (by rw [rgV_length, sizeLine_eq]; omega) q
  rw [Array.toArray_toList] at z
  exact z
end
section
variable {N : Nat} {a l : Addr} {R H : Hp} {J : It} {n : Nat} {G : Hp → Prop} {Y : Nat → Hp → V → Hp → Prop} {g : TG} {tt : TT} {te : TE} {vs : List Nat} {σ : L2.St}
/-- a comprehension within which draws are made -/
theorem lcW {Q : Addr → Hp → Prop} (S : Nat → List V → Hp → Prop) (w : Walk J n G Y) (hw : Wl N a l R H) (h0 : ∀ D, R D = none → S 0 [] (upd R D (.lst []))) (hG : ∀ Rd H', Ex R Rd → Wl N a l Rd H' → G H') (lenb : ∀ i acc Rd, S i acc Rd → acc.length ≤ 40000)
    (turn : ∀ i D acc Rd H1 x H2, i < n → Ex R Rd → Wl N a l Rd H1 → R D = none → Rd D = some (.lst acc) → S i acc Rd → Y i H1 x H2 → ∀ (K1 : VK) (K0 : Hp → Prop),
      (∀ y R5 H5, Ex R R5 → Wl N a l R5 H5 → R5 D = some (.lst acc) → S (i + 1) (acc ++ [y]) (upd R5 D (.lst (acc ++ [y]))) → K1 y H5) → (∀ R5 H5, Ex R R5 → Wl N a l R5 H5 → R5 D = some (.lst acc) → S (i + 1) acc R5 → K0 H5) →
      g x (wipe σ vs) H2 fun σ2 H3 => wipe σ2 vs = wipe σ vs ∧ tt σ2 H3 fun b H4 => if b = true then te σ2 H4 K1 else K0 H4)
    (q : ∀ D acc Rd H2, R D = none → Ex R Rd → Wl N a l Rd H2 → Rd D = some (.lst acc) → S n acc Rd → Q D H2) :
    ∀ D, H D = none → ∃ W : Nat → Nat → Hp → Prop, (∃ m, W 0 m (upd H D (.lst []))) ∧ ∀ i m H, W i m H →
      (J.stop i H ∧ Q D H) ∨ (J.go i H ∧ ∃ Nx : Hp → Prop, (∀ H', Nx H' → ∃ m', m' < m ∧ W (i + 1) m' H') ∧ ∀ x H', J.yld i H x H' → g x (wipe σ vs) H' fun σ2 H2 => wipe σ2 vs = wipe σ vs ∧ tt σ2 H2 fun b H3 =>
        if b = true then te σ2 H3 fun y H4 => ∃ acc, H4 D = some (.lst acc) ∧ acc.length < sizeLine ∧ Nx (upd H4 D (.lst (acc ++ [y]))) else Nx H3) := fun D hD => by
  have hR := hw.free hD
  refine lc_it w (fun i H' => ∃ acc Rd, Ex R Rd ∧ Wl N a l Rd H' ∧ Rd D = some (.lst acc) ∧ S i acc Rd) ⟨[], _, Ex.new hR, hw.new hD, upd_same, h0 D hR⟩ (fun i H' _ p => ?_) (fun i x H1 H2 hi p y => ?_) (fun H' p => ?_)
  · obtain ⟨acc, Rd, p1, p2, _⟩ := p
    exact hG Rd H' p1 p2
  · obtain ⟨acc, Rd, p1, p2, p3, p4⟩ := p
    refine turn i D acc Rd H1 x H2 hi p1 p2 hR p3 p4 y _ _ (fun z R5 H5 e5 w5 k5 s5 => ?_) (fun R5 H5 e5 w5 k5 s5 => ?_)
    · exact ⟨acc, w5.ex _ _ k5, sz_lt (by have := lenb _ _ _ p4; omega), acc ++ [z], _, ex_side e5 hR, w5.mut k5, upd_same, s5⟩
    · exact ⟨acc, R5, e5, w5, k5, s5⟩
  · obtain ⟨acc, Rd, p1, p2, p3, p4⟩ := p
    exact q D acc Rd H' hR p1 p2 p3 p4
end
/-! ### lists of small numbers -/
def nI (ps : List Nat) : List Int := ps.map fun p : Nat => (p : Int)
theorem nI_len (ps : List Nat) : (nI ps).length = ps.length := List.length_map ..
theorem nI_getD (ps : List Nat) (i : Nat) : (nI ps).getD i 0 = ((ps.getD i 0 : Nat) : Int) := by
  unfold nI
  rw [List.getD_eq_getElem?_getD, List.getElem?_map, List.getD_eq_getElem?_getD]
  cases ps[i]? <;> rfl
theorem at_nI {ps : List Nat} {i : Nat} (h : i < ps.length) : atI ((nI ps).map V.int) (i : Int) = some (.int ((ps.getD i 0 : Nat) : Int)) := by
  rw [← nI_getD]
  exact atI_int (by rw [nI_len]; exact h)
theorem nI_at {ps : List Nat} {i : Nat} {x : V} (h : ((nI ps).map V.int)[i]? = some x) : x = .int ((ps.getD i 0 : Nat) : Int) ∧ i < ps.length := by
  obtain ⟨h1, h2⟩ := int_at h
  rw [nI_getD] at h1
  rw [nI_len] at h2
  exact ⟨h1, h2⟩
theorem rgV_nI (n : Nat) : rgV 0 (n : Int) = (nI (List.range n)).map V.int := by
  unfold rgV nI
  rw [List.map_map, show ((n : Int) - 0).toNat = n by omega]
  apply List.map_congr_left
  intro i _
  show V.int ((0 : Int) + (i : Int)) = V.int (i : Int)
  exact congrArg V.int (by omega)
theorem range_ofN {n : Nat} (f : Nat → Nat) {ys : List Nat} (h1 : ys.length = n) (h : ∀ i, i < n → f i = ys.getD i 0) : (List.range n).map (fun i => V.int ((f i : Nat) : Int)) = (nI ys).map V.int :=
  range_of (fun i => ((f i : Nat) : Int)) (by rw [nI_len]; exact h1) fun i hi => by rw [nI_getD, h i hi]
/-! ### a pair of tuples: places and signs -/
def TpX (K : PySem.W.Frag) (H : Hp) (e : Addr) (ps : List Nat) (ss : List Int) : Prop := ∃ a b, Tp K H e [.ref a, .ref b] ∧ Tp K H a ((nI ps).map V.int) ∧ Tp K H b (ss.map V.int)
theorem TpX.ex {K : PySem.W.Frag} {H H1 : Hp} {e : Addr} {ps : List Nat} {ss : List Int} (t : TpX K H e ps ss) (x : Ex H H1) : TpX K H1 e ps ss := by
  obtain ⟨a, b, h1, h2, h3⟩ := t
  exact ⟨a, b, h1.ex x, h2.ex x, h3.ex x⟩
theorem TpX.mut {K : PySem.W.Frag} {R : Hp} {wr : Addr} {ys zs : List V} {e : Addr} {ps : List Nat} {ss : List Int} (t : TpX K R e ps ss) (hw : R wr = some (.lst ys)) : TpX K (upd R wr (.lst zs)) e ps ss := by
  obtain ⟨a, b, h1, h2, h3⟩ := t
  exact ⟨a, b, h1.mut hw, h2.mut hw, h3.mut hw⟩
theorem Sm.pair {K : PySem.W.Frag} {H : Hp} {p q : Addr} {ps : List Nat} {ss : List Int} (hp : TpX K H p ps ss) (hq : TpX K H q ps ss) (h1 : ps.length ≤ 1000) (h2 : ss.length ≤ 1000) (n : Nat) : Sm K H (n + 2) (.ref p) (.ref q) := by
  obtain ⟨a, b, e1, e2, e3⟩ := hp
  obtain ⟨c, d, f1, f2, f3⟩ := hq
  refine .inr ⟨p, q, _, _, rfl, rfl, e1, f1, rfl, by show 2 ≤ 1000; omega, fun i u v hu hv => ?_⟩
  rcases i with _ | _ | i
  · cases hu
    cases hv
    exact Sm.tup e2 f2 (scal_ints _) (by rw [List.length_map, nI_len]; exact h1) n
  · cases hu
    cases hv
    exact Sm.tup e3 f3 (scal_ints _) (by rw [List.length_map]; exact h2) n
  · cases hu
end Own
namespace Own
open PySem PySem.Spec PyProof.Rows L2 Evl
theorem nI_set (ps : List Nat) (j v : Nat) : ((nI ps).map V.int).set j (.int (v : Int)) = (nI (ps.set j v)).map V.int := by
  unfold nI
  rw [List.map_set, List.map_set]
theorem int_set (ps : List Int) (j : Nat) (v : Int) : (ps.map V.int).set j (.int v) = (ps.set j v).map V.int := by
  rw [List.map_set]
theorem nI_rep (n v : Nat) : List.replicate n (V.int (v : Int)) = (nI (List.replicate n v)).map V.int := by
  unfold nI
  rw [List.map_replicate, List.map_replicate]
/-- [x] * n -/
theorem rep_lst {x : V} {n : Nat} {H : Hp} {Q : VK} {l : Addr} (hl : H l = some (.lst [x])) (hn : n ≤ 10000) (k : ∀ p, H p = none → Q (.ref p) (upd H p (.lst (List.replicate n x)))) : rRep (.ref l) (.int (n : Int)) H Q := by
  refine ⟨l, n, [x], rfl, rfl, hl, by omega, by omega, ?_, ?_⟩
  · show 1 * (n : Int).toNat ≤ sizeLine
    rw [sizeLine_eq]
    omega
  · rw [rep_flat, show ((n : Int)).toNat = n by omega]
    exact k
end Own

/-! math.comb; enumerate(tuple); a pair of names, some of them cells; o[i] += e. -/
namespace PySem
namespace OwU
open PySem PySem.W PySem.Calls PyProof.Rows
set_option maxHeartbeats 4000000 in
theorem meets_enum0 {v : Value} {o : Obj} {H : Heap → Prop} (B : Begins v o H) :
    Meets (Builtin.«enumerate.__new__» ⟨[.type "enumerate", v], []⟩) (fun _ R s => H s.heap ∧
      R (.ok (.ret (.ref (s.heap.push o).objs.size))) { s with heap := (s.heap.push o).push { cls := .type "enumerate", data := .fields #[.none, .bool false, .ref s.heap.objs.size, rawInt 0, .none, .none] } }) :=
  .of_wp fun prog w A R s h => by
    obtain ⟨hp, g, d, tk, os⟩ := s; obtain ⟨h1, h⟩ := h
    have hsub := sub_enumerate
    have q1 : ∀ {A' : Around} {E : Value → Shared → Prop} {Q : Value → Shared → Prop}, Q (.ref hp.objs.size) ⟨hp.push o, g, d, tk, os⟩ → wpAny (model prog w) A' (pyIter v) Q E ⟨hp, g, d, tk, os⟩ :=
      fun q => B.iter prog w _ _ ⟨hp, g, d, tk, os⟩ _ h1 q
    wp_walk using q1
    refine wpAny_stack_any fun st => wpAny_pure ?_
    split
    · rename_i c _ _ _ _ _
      cases (c == Value.type "enumerate")
      · wp_walk using q1
        exact ⟨_, rfl, h⟩
      · wp_walk using q1
        exact ⟨_, rfl, h⟩
    · wp_walk using q1
      exact ⟨_, rfl, h⟩
section
variable {prog : Program} {w : World} {A : Around} {E : Value → Shared → Prop} {s : Shared}
theorem enum_begins0 {v : Value} {o : Obj} {H : Heap → Prop} {Q : Value → Shared → Prop} (B : Begins v o H) (h1 : H s.heap)
    (h : ∀ h', IsEnum h' (s.heap.objs.size + 1) s.heap.objs.size 0 .none → h'.get? s.heap.objs.size = some o → h'.objs.size = s.heap.objs.size + 2 →
      (∀ b o, s.heap.get? b = some o → h'.get? b = some o) → Q (.ref (s.heap.objs.size + 1)) { s with heap := h' }) :
    wpAny (model prog w) A (call (.type "enumerate") [v]) Q E s := by
  refine callType_new F.called_enumerate (by decide) (F.typeCall_enumerate_1 _) (F.newCall_enumerate_1 _) (fun obj => F.args_object_init_2 obj _) F.entry_enumerate_new
    (meets_enum0 B) ⟨h1, ?_⟩
  have hz : (s.heap.push o).objs.size = s.heap.objs.size + 1 := Heap.size_push ..
  show _ ∧ _
  rw [hz]
  have he : IsEnum ((s.heap.push o).push { cls := .type "enumerate", data := .fields #[.none, .bool false, .ref s.heap.objs.size, rawInt 0, .none, .none] }) (s.heap.objs.size + 1) s.heap.objs.size 0 .none := by
    have := Heap.get?_push_size (s.heap.push o) (o := { cls := .type "enumerate", data := .fields #[.none, .bool false, .ref s.heap.objs.size, rawInt 0, .none, .none] }) rfl
    rw [hz] at this; exact this
  refine ⟨⟨_, he, rfl⟩, h _ he (Heap.get?_push_of_some _ (Heap.get?_push_size _ B.free)) (by rw [Heap.size_push, hz]) fun b o x => Heap.get?_push_of_some _ (Heap.get?_push_of_some _ x)⟩
theorem enum_endT {e it l : Addr} {i : Nat} {items : Array Value} {old : Value} {Q : Option Value → Shared → Prop} (hh : A.handled = none)
    (he : IsEnum s.heap e it i old) (hit : s.heap.IsTupleIter it l i) (hl : s.heap.IsTuple l items) (hx : items[i]? = none)
    (hQ : ∀ h', Heap.ExtBut it s.heap h' → Q none { s with heap := h' }) : wpAny (model prog w) A (pyNext (.ref e)) Q E s := by
  have hT : s.TypeIs (.ref e) "enumerate" := ⟨_, he, rfl⟩
  unfold pyNext
  refine wpAny_bind (wpAny_attempt (wpAny_callSpecial?_slot (name := Str.ofString "__next__") hT F.slot_enumerate_next
    (wpAny_call_entry F.slot_enumerate_next hT F.entry_enumerate_next ?_ (F.args_enumerate_next_1 _))))
  show wpAny _ _ (field (.ref e) 2 >>= _) _ _ _
  refine wpAny_bind (wpAny_field he rfl (x := .ref it) rfl ?_)
  refine wpAny_bind (wpAny_nextOf_tuple_end hh hit hl hx fun h' x he' hx' => ?_)
  obtain ⟨o, ho, hc⟩ := hx'
  refine wpAny_bind (wpAny_isInstance (T := "StopIteration") (b := true) ⟨o, ho, hc⟩ isSubtype_stop ?_)
  exact wpAny_pure (hQ _ he')
end
end OwU
end PySem
namespace Own
open PySem PySem.Spec PySem.W PyProof.Rows L2 Evl
section
variable {X : Cx}
def rComb : List V → Hp → VK → Prop := fun vs H Q => ∃ a b : Int, vs = [.int a, .int b] ∧ 0 ≤ a ∧ 0 ≤ b ∧ a ≤ 9000 ∧ Q (.int (PySem.W.mcComb a b)) H
theorem cr_comb : CallR X (.builtin "math.comb") rComb := by
  intro pins s σ H vs us Q I r h
  obtain ⟨a, b, rfl, h0, h1, h2, q⟩ := h
  obtain ⟨t, u, rfl⟩ := Vals.int2 r
  exact PySem.W.mc_comb h0 h1 (by omega) (.inr (by omega)) fun _ => ⟨.int _, H, I.tok _, ⟨_, rfl⟩, q⟩
end
/-- xs[i], as o[i] += e reads it -/
theorem get_list {X : Cx} : PGet X (rIxL X.K) := by
  intro pins s σ H o i ov iv Q I ro ri h
  obtain ⟨p, xs, i, z, rfl, rfl, hq, he, q⟩ := h
  cases ro
  obtain ⟨t, rfl⟩ := ri
  obtain ⟨its, r, pl, hz⟩ := I.list hq
  obtain ⟨j, h1, h2, h3, h4, h5⟩ := atI_get he
  obtain ⟨w, ew, rw'⟩ := r.get h2
  have hl := r.length
  have hn := line63
  have fin : EP X pins σ Q w s := ⟨z, H, I, rw', q⟩
  by_cases h0 : 0 ≤ i
  · have hj : i.toNat = j := by
      rw [seqIndex_of h0 h5] at h1
      exact Option.some.inj h1
    exact wpAny_getItem_list pl.isList h0 (by omega) (by rw [hj]; simpa using ew) fin
  · have hj : (i + (its.toArray.size : Int)).toNat = j := by
      rw [seqIndex_neg (by omega) h4] at h1
      rw [List.size_toArray, ← hl]
      exact Option.some.inj h1
    exact wpAny_getItem_list_neg pl.isList (by omega) (by rw [List.size_toArray] <;> omega) (by omega) (by rw [hj]; simpa using ew) fin
theorem kget_list {X : Cx} {K : PySem.W.Frag} (h : X.K = K := by rfl) : PGet X (rIxL K) := by subst h; exact get_list
/-- sum(t) of a tuple of ints -/
theorem sum_rawT {prog : Program} {w : World} {A : Around} {E : Value → Shared → Prop} {s : Shared} {l : Addr} {its : List Value} {ns : List Int} {Q : Value → Shared → Prop} (hh : A.handled = none) (hl : s.heap.IsTuple l its.toArray) (hi : IntsAre its ns)
    (h : ∀ h' tk t', (∀ b o, s.heap.get? b = some o → h'.get? b = some o) → Q (.int ns.sum t') { s with heap := h', toks := tk }) : wpAny (model prog w) A (call (.builtin "sum") [.ref l]) Q E s := by
  obtain ⟨xs, e⟩ := hi.allInts.items
  have hn : numsOf (intItems xs).toList = ns := by rw [← e]; exact hi.numsOf
  rw [nums_intItems] at hn
  rw [e] at hl
  refine PySem.W.ktm_sumG hh hl fun h' tk t' hk => ?_
  have := h h' tk t' hk
  rw [preSum_eq, List.take_of_length_le (by simp), hn]; exact this
def rSumT (K : PySem.W.Frag) : List V → Hp → VK → Prop := fun vs H Q => ∃ (a : Addr) (ns : List Int), vs = [V.ref a] ∧ SqT K H a (ns.map V.int) ∧ Q (.int ns.sum) H
theorem kc_sumT {X : Cx} {K : PySem.W.Frag} (hc : X.calm = true) (h : X.K = K := by rfl) : CallR X (.builtin "sum") (rSumT K) := by
  subst h
  intro pins s σ H vs us Q I r h
  obtain ⟨a, ns, rfl, hs, q⟩ := h
  obtain ⟨its, rv, hl, _⟩ := I.tuple hs
  rw [Vals.ref1 r]
  exact sum_rawT (I.ok.hd hc) (show s.heap.IsTuple a its.toArray from hl) rv.ints fun h' tk t' hk => ⟨.int _, H, I.kept hk, ⟨_, rfl⟩, q⟩
/-! ### enumerate(tuple) -/
def IteT (K : PySem.W.Frag) (a : Addr) : It :=
  ⟨fun i H => ∃ (xs : List V) (x : V), SqT K H a xs ∧ xs[i]? = some x, fun i H v H' => ∃ T x, v = .ref T ∧ H T = none ∧ H' = upd H T (.tup [.int (i : Nat), x]) ∧ ∀ xs, SqT K H a xs → xs[i]? = some x, fun i H => ∃ xs : List V, SqT K H a xs ∧ xs.length ≤ i⟩
theorem turn_enumT {P : Program} {w : World} {K : PySem.W.Frag} {elts : List Expr} {kk : Nat} {tpos : Pos} (a e it : Addr) :
    Turn P w K (.Tuple elts kk tpos) (IteT K a) [e, it] e (fun i h => (∃ old, IsEnum h e it ((i : Nat) : Int) old) ∧ h.IsTupleIter it a i ∧ e ≠ it) where
  mem := by simp
  obj := fun i h st b hb => by
    obtain ⟨⟨old, he⟩, ⟨o, ho, hc, hd⟩, _⟩ := st
    have e' : b = e ∨ b = it := by simpa using hb
    rcases e' with z | z
    · rw [z]; exact ⟨_, he, fun v q => nomatch q⟩
    · rw [z]; exact ⟨o, ho, fun v q => by rw [hd] at q; cases q⟩
  keep := fun i h h' st k => let ⟨⟨old, he⟩, hi, hne⟩ := st; ⟨⟨old, k e (by simp) _ he⟩, hi.at fun o q => k it (by simp) o q, hne⟩
  item := by
    intro X hP hw hK hc i pins s σ H E I hf st hg
    subst hP hw hK
    obtain ⟨⟨old, he⟩, hit, hne⟩ := st
    obtain ⟨xs, x, hq, hx⟩ := hg
    obtain ⟨its, rv, p, hz⟩ := I.tuple hq
    have pt : s.heap.IsTuple a its.toArray := p
    obtain ⟨u, hu, ru⟩ := rv.get hx
    have hel : e < s.heap.objs.size := Heap.lt_size he
    have hil : it < s.heap.objs.size := by obtain ⟨_, q, _⟩ := hit; exact Heap.lt_size q
    have hea : e ≠ a := fun z => by
      obtain ⟨o, ho, hcl, _⟩ := pt
      rw [← z] at ho
      have he' : s.heap.get? e = some _ := he
      rw [ho] at he'
      cases he'
      exact absurd (show Value.type "enumerate" = Value.type "tuple" from hcl) (by decide)
    have hai : a ≠ it := fun z => by
      obtain ⟨o, ho, hcl, _⟩ := pt
      obtain ⟨o2, ho2, hcl2, _⟩ := hit
      rw [z, ho2] at ho
      cases ho
      rw [hcl2] at hcl
      exact absurd hcl (by decide)
    have D := Draws.tuple (prog := X.prog) (w := X.w) (A := X.A.in1) (show X.A.in1.handled = none from I.ok.hd hc) it a hai its.toArray
    have hlt : i < its.toArray.size := by
      have := (List.getElem?_eq_some_iff.mp hu).1
      simpa using this
    refine wpAny_pyNext_enum_itemD D he ⟨hit, pt⟩ hlt hne (by simp [hne, hea]) fun x' h' tk hP ho hst hT hsz hk => ?_
    have ex : x' = u := by
      have h1 : its.toArray[i]? = some x' := hP
      rw [show its.toArray[i]? = its[i]? by simp, hu] at h1
      exact (Option.some.inj h1).symm
    subst ex
    refine ⟨_, rfl, wpAny_letOwnedTupleGo_enum (s := { s with heap := h', toks := tk + 1 }) ho fun h'' he' sb => ?_⟩
    have hT2 : h''.get? s.heap.objs.size = some { cls := .type "tuple", data := .seq #[.int i tk, x'] } := (sb.2 _ (Nat.ne_of_gt hel)).trans hT
    have new : ObjOk X.prog X.w (upd H s.heap.objs.size (.tup [.int (i : Nat), x])) h'' s.heap.objs.size (.tup [.int (i : Nat), x]) :=
      ⟨by show 2 ≤ sizeLine; decide, [.int i tk, x'], .cons ⟨_, rfl⟩ (.cons ru .nil), ⟨_, hT2, rfl, _, rfl⟩⟩
    have I1 : Inv X pins σ (upd H s.heap.objs.size (.tup [.int (i : Nat), x])) { s with heap := h'', toks := tk + 1 } :=
      I.turnedNew (ch := [e, it]) (fun b ob hb q => (sb.2 b (fun z => hb (by simp [z]))).trans (hk b ob (fun z => hb (by simp [z])) (fun z => hb (by simp [z])) q)) hf (Nat.le_refl _) new
    refine ⟨.ref s.heap.objs.size, _, I1, rfl, ⟨_, x, rfl, I.hok.fresh (Nat.le_refl _), rfl, fun ys hy => by rw [I.tuple_inj hy hq]; exact hx⟩, ⟨⟨x', ?_⟩, hst.1.at fun o q => (sb.2 it (Ne.symm hne)).trans q, hne⟩, fun b hb => ?_⟩
    · have e1 : ((i + 1 : Nat) : Int) = (i : Int) + 1 := by omega
      rw [e1]; exact he'
    · have hb' : b < s.heap.objs.size := by
        have e' : b = e ∨ b = it := by simpa using hb
        rcases e' with z | z
        · rw [z]; exact hel
        · rw [z]; exact hil
      rw [upd_ne (Nat.ne_of_lt hb')]
      exact (hf b hb).1
  done := by
    intro X hP hw hK hc i pins s σ H E I hf st hg
    subst hP hw hK
    obtain ⟨⟨old, he⟩, hit, hne⟩ := st
    obtain ⟨xs, hq, hx⟩ := hg
    obtain ⟨its, rv, p, hz⟩ := I.tuple hq
    have pt : s.heap.IsTuple a its.toArray := p
    obtain ⟨f0, f1, f2, f3, f4, f5⟩ := hf it (by simp)
    have hl := rv.length
    exact PySem.OwU.enum_endT (I.ok.hd hc) he hit pt (by simp; omega) fun h' eb => ⟨rfl, I.turned (t' := s.toks) (fun b o hb q => eb b o hb q) f0 f1 f3 f4 f5⟩
  self := fun A i s Q E st h => let ⟨⟨_, he⟩, _⟩ := st; wpAny_pyIter_enum he h
/-- a, b = x, y, not both plain locals -/
theorem walk_enumT {K : PySem.W.Frag} {a : Addr} {xs : List V} : Walk (IteT K a) xs.length (fun H => SqT K H a xs) (fun i H v H' => ∃ T x, v = .ref T ∧ H T = none ∧ H' = upd H T (.tup [.int (i : Nat), x]) ∧ xs[i]? = some x) := by
  refine ⟨fun i _ hi q => ⟨xs, xs[i], q, by simp [hi]⟩, fun _ q => ⟨xs, q, Nat.le_refl _⟩, fun i H v H' _ q y => ?_⟩
  obtain ⟨T, x, h1, h2, h3, h4⟩ := y
  exact ⟨T, x, h1, h2, h3, h4 xs q⟩
theorem walk_enumL {K : PySem.W.Frag} {a : Addr} {xs : List V} : Walk (Ite K a) xs.length (fun H => SqL K H a xs) (fun i H v H' => ∃ T x, v = .ref T ∧ H T = none ∧ H' = upd H T (.tup [.int (i : Nat), x]) ∧ xs[i]? = some x) := by
  refine ⟨fun i _ hi q => ⟨xs, xs[i], q, by simp [hi]⟩, fun _ q => ⟨xs, q, Nat.le_refl _⟩, fun i H v H' _ q y => ?_⟩
  obtain ⟨T, x, h1, h2, h3, h4⟩ := y
  exact ⟨T, x, h1, h2, h3, h4 xs q⟩
def iEnumT (K : PySem.W.Frag) (ta : TA) : TI := fun σ H R => ta σ H fun vs H1 => ∃ a xs, vs = [.ref a] ∧ SqT K H1 a xs ∧ R (IteT K a) H1
theorem pi_enumT {X : Cx} {e : Expr} {ta : TA} {p pos tpos : Pos} {elts : List Expr} {kk : Nat} (hg : Gl X "enumerate") (hm : X.mg "enumerate" = none) (ha : PA X [e] ta) (hs : starEach [e] X.env = [(false, eval e X.env)] := by rfl) :
    PI X (.Tuple elts kk tpos) (.Call (.Name "enumerate" p) [e] [] pos) (iEnumT X.K ta) := by
  refine ⟨fun pins s σ H R I h => ?_⟩
  refine Call_ (ld_blt I hg hm boot_enumerate (PyProof.Rows.callWith_type1 (thn (ha.run pos pins s σ H _ I h) fun us s1 ⟨vs, H1, I1, r1, q1⟩ => ?_) hs rfl))
  obtain ⟨a, xs, ex, hq, q⟩ := q1
  subst ex
  cases r1 with
  | cons r rr =>
    cases rr
    cases r
    obtain ⟨its, rv, p', hz⟩ := I1.tuple hq
    have pt : s1.heap.IsTuple a its.toArray := p'
    refine PySem.OwU.enum_begins0 (begins_tuple a its.toArray) pt fun h' he hit hsz hk => wpAny_pyIter_enum he ?_
    have I2 : Inv X pins σ H1 { s1 with heap := h' } := I1.kept (t' := s1.toks) hk
    refine ⟨s1.heap.objs.size + 1, [s1.heap.objs.size + 1, s1.heap.objs.size], _, _, H1, rfl, I2, turn_enumT a (s1.heap.objs.size + 1) s1.heap.objs.size, ⟨⟨.none, he⟩, ⟨_, hit, rfl, rfl⟩, Nat.succ_ne_self _⟩, fun b hb => ?_, q⟩
    have e' : b = s1.heap.objs.size + 1 ∨ b = s1.heap.objs.size := by simpa using hb
    have hle : s1.heap.objs.size ≤ b := by
      rcases e' with z | z
      · rw [z]; exact Nat.le_add_right _ _
      · rw [z]; exact Nat.le_refl _
    exact I1.fpOk hle (I1.hok.fresh hle)
end Own

/-! Comprehensions whose items are new objects. -/
namespace Own
open PySem PySem.Spec PyProof.Rows L2 Evl
section
variable {H : Hp} {J : It} {n : Nat} {G : Hp → Prop} {Y : Nat → Hp → V → Hp → Prop} {g : TG} {tt : TT} {te : TE} {vs : List Nat} {σ : L2.St}
theorem lcX {Q : Addr → Hp → Prop} (S : Nat → List V → Hp → Prop) (w : Walk J n G Y) (h0 : ∀ D, H D = none → S 0 [] (upd H D (.lst []))) (hG : ∀ H', Ex H H' → G H') (lenb : ∀ i acc H', S i acc H' → acc.length ≤ 40000)
    (turn : ∀ i D acc H1 x H2, i < n → Ex H H1 → H D = none → H1 D = some (.lst acc) → S i acc H1 → Y i H1 x H2 → ∀ (K1 : VK) (K0 : Hp → Prop),
      (∀ y H5, Ex H1 H5 → S (i + 1) (acc ++ [y]) (upd H5 D (.lst (acc ++ [y]))) → K1 y H5) → (∀ H5, Ex H1 H5 → S (i + 1) acc H5 → K0 H5) →
      g x (wipe σ vs) H2 fun σ2 H3 => wipe σ2 vs = wipe σ vs ∧ tt σ2 H3 fun b H4 => if b = true then te σ2 H4 K1 else K0 H4)
    (q : ∀ D acc H2, H D = none → Ex H H2 → H2 D = some (.lst acc) → S n acc H2 → Q D H2) :
    ∀ D, H D = none → ∃ W : Nat → Nat → Hp → Prop, (∃ m, W 0 m (upd H D (.lst []))) ∧ ∀ i m H, W i m H →
      (J.stop i H ∧ Q D H) ∨ (J.go i H ∧ ∃ Nx : Hp → Prop, (∀ H', Nx H' → ∃ m', m' < m ∧ W (i + 1) m' H') ∧ ∀ x H', J.yld i H x H' → g x (wipe σ vs) H' fun σ2 H2 => wipe σ2 vs = wipe σ vs ∧ tt σ2 H2 fun b H3 =>
        if b = true then te σ2 H3 fun y H4 => ∃ acc, H4 D = some (.lst acc) ∧ acc.length < sizeLine ∧ Nx (upd H4 D (.lst (acc ++ [y]))) else Nx H3) := fun D hD => by
  refine lc_it w (fun i H' => Ex H H' ∧ ∃ acc, H' D = some (.lst acc) ∧ S i acc H') ⟨Ex.new hD, [], upd_same, h0 D hD⟩ (fun i H' _ p => hG H' p.1) (fun i x H1 H2 hi p y => ?_) (fun H' p => ?_)
  · obtain ⟨p1, acc, p2, p3⟩ := p
    refine turn i D acc H1 x H2 hi p1 hD p2 p3 y _ _ (fun z H5 e5 s5 => ?_) (fun H5 e5 s5 => ?_)
    · exact ⟨acc, e5 _ _ p2, sz_lt (by have := lenb _ _ _ p3; omega), ex_side (p1.trans e5) hD, acc ++ [z], upd_same, s5⟩
    · exact ⟨p1.trans e5, acc, e5 _ _ p2, s5⟩
  · obtain ⟨p1, acc, p2, p3⟩ := p
    exact q D acc H' hD p1 p2 p3
end
/-- x is True, x is False, x a plain value -/
theorem op_isBg {X : Cx} : OpR X (compareOp .Is) (fun x y H Q => ∃ b : Bool, y = .bl b ∧ scalV x = true ∧ Q (.bl (decide (x = .bl b))) H) := by
  intro pins s σ H x y v u Q I rx ry h
  obtain ⟨b, rfl, hs, q⟩ := h
  cases (show u = Value.bool b from ry)
  cases x <;> first | cases hs | skip
  · cases (show v = Value.none from rx)
    exact wpAny_is_other rfl (fun z => by cases z) ⟨.bl false, H, I, rfl, by simpa using q⟩
  · rename_i a
    cases (show v = Value.bool a from rx)
    by_cases e : a = b
    · subst e
      exact wpAny_is_self rfl ⟨.bl true, H, I, rfl, by simpa using q⟩
    · exact wpAny_is_other rfl (fun z => e (Value.bool.inj z)) ⟨.bl false, H, I, rfl, by simpa [e] using q⟩
  · obtain ⟨t, rfl⟩ := rx
    exact wpAny_is_other rfl (fun z => by cases z) ⟨.bl false, H, I, rfl, by simpa using q⟩
  · obtain ⟨t, rfl⟩ := rx
    exact wpAny_is_other rfl (fun z => by cases z) ⟨.bl false, H, I, rfl, by simpa using q⟩
/-! ### a tuple of pairs of ints -/
def pairL (f : Int × Int) : List V := [.int f.1, .int f.2]
structure LstP (K : PySem.W.Frag) (H : Hp) (es : List Addr) (fs : List (Int × Int)) : Prop where
  len : es.length = fs.length
  at_ : ∀ (i : Nat) e f, es[i]? = some e → fs[i]? = some f → Tp K H e (pairL f)
def TpP (K : PySem.W.Frag) (H : Hp) (p : Addr) (fs : List (Int × Int)) : Prop := ∃ es, Tp K H p (es.map V.ref) ∧ LstP K H es fs
section
variable {K : PySem.W.Frag} {H H1 : Hp} {es : List Addr} {fs : List (Int × Int)}
theorem LstP.ex (l : LstP K H es fs) (e : Ex H H1) : LstP K H1 es fs := ⟨l.len, fun i a f h1 h2 => (l.at_ i a f h1 h2).ex e⟩
theorem LstP.mut {wr : Addr} {ys zs : List V} (l : LstP K H es fs) (hw : H wr = some (.lst ys)) : LstP K (upd H wr (.lst zs)) es fs := ⟨l.len, fun i a f h1 h2 => (l.at_ i a f h1 h2).mut hw⟩
theorem LstP.push {e : Addr} {f : Int × Int} (l : LstP K H es fs) (t : Tp K H e (pairL f)) : LstP K H (es ++ [e]) (fs ++ [f]) := by
  refine ⟨by rw [List.length_append, List.length_append, l.len]; rfl, fun i a y h1 h2 => ?_⟩
  by_cases c : i < es.length
  · rw [List.getElem?_append_left c] at h1
    rw [List.getElem?_append_left (by rw [← l.len]; exact c)] at h2
    exact l.at_ i a y h1 h2
  · rw [List.getElem?_append_right (by omega)] at h1
    rw [List.getElem?_append_right (by rw [← l.len]; omega), ← l.len] at h2
    have : i - es.length = 0 := by
      have := (List.getElem?_eq_some_iff.mp h1).1
      simp at this
      omega
    rw [this] at h1 h2
    cases h1
    cases h2
    exact t
theorem TpP.ex {p : Addr} (t : TpP K H p fs) (e : Ex H H1) : TpP K H1 p fs := by
  obtain ⟨es, h1, h2⟩ := t
  exact ⟨es, h1.ex e, h2.ex e⟩
/-- two tuples of the same pairs -/
theorem Sm.pairs {p q : Addr} (hp : TpP K H p fs) (hq : TpP K H q fs) (hl : fs.length ≤ 1000) (n : Nat) : Sm K H (n + 2) (.ref p) (.ref q) := by
  obtain ⟨es, h1, h2⟩ := hp
  obtain ⟨es', g1, g2⟩ := hq
  refine .inr ⟨p, q, _, _, rfl, rfl, h1, g1, by rw [List.length_map, List.length_map, h2.len, g2.len], by rw [List.length_map, h2.len]; exact hl, fun i u v hu hv => ?_⟩
  rw [List.getElem?_map] at hu hv
  cases e : es[i]? with
  | none =>
    rw [e] at hu
    cases hu
  | some a =>
    cases e' : es'[i]? with
    | none =>
      rw [e'] at hv
      cases hv
    | some b =>
      rw [e] at hu
      rw [e'] at hv
      cases hu
      cases hv
      have hi := (List.getElem?_eq_some_iff.mp e).1
      have hf : fs[i]? = some (fs[i]'(by rw [← h2.len]; exact hi)) := List.getElem?_eq_getElem _
      refine Sm.tup (h2.at_ i a _ e hf) (g2.at_ i b _ e' hf) (fun x hx => ?_) (by show 2 ≤ 1000; omega) n
      rcases List.mem_cons.mp hx with rfl | hx
      · rfl
      · rw [List.mem_singleton.mp hx]
        rfl
end
end Own

/-! The Hook with names that stand for built-ins of other modules (math.comb ..). -/
namespace Own
open PySem PySem.Spec PyProof.Rows L2
open He (ga ma fAd eqO eqO_ok ba)
abbrev BiL : Type := List (Str × String)
def biB (K : PySem.W.Frag) (bs : BiL) : Bool := bs.all fun b => eqO (PySem.W.nsIn K mainGlobals b.1) (some (some (.builtin b.2)))
abbrev AlW : Type := AlE × Bool
def obsW (file : Str) (bs : BiL) (fa : List He.Fa) (fn : List He.DefD) (ex : List ExD) (K : PySem.W.Frag) : AlW := (obsE file fa fn ex K, biB K bs)
def valW (fn : List He.DefD) (ex : List ExD) : AlW := (valE fn ex, true)
def SaysW (file : Str) (bs : BiL) (fa : List He.Fa) (fn : List He.DefD) (ex : List ExD) (K : PySem.W.Frag) : Prop := obsW file bs fa fn ex K = valW fn ex
def obsWG (file : Str) (n : Nat) (bs : BiL) (fa : List He.Fa) (fn : List He.DefD) (ex : List ExD) (g : Addr → Option Obj) : AlW := obsW file bs fa fn ex (He.frG g (cStatics :: He.asD g n))
def hookW (file : Str) (n : Nat) (bs : BiL) (fa : List He.Fa) (fn : List He.DefD) (ex : List ExD) : PySem.W.Hook where
  α := AlW
  obs := fun s => obsWG file n bs fa fn ex s.heap.get?
  val := fun _ => valW fn ex
  says := fun _ h => ∃ K : PySem.W.Frag, K.In h ∧ SaysW file bs fa fn ex K
  of := fun _ _ e => ⟨_, He.frG_in, e⟩
  keeps := fun _ _ _ ⟨K, hK, c⟩ k => ⟨K, PySem.W.Frag.In.keeps hK k, c⟩
theorem obsWG_eq {file : Str} {n : Nat} {bs : BiL} {fa : List He.Fa} {fn : List He.DefD} {ex : List ExD} {g : Addr → Option Obj} {s : Shared} (h : ∀ a, g a = s.heap.get? a) : obsWG file n bs fa fn ex g = (hookW file n bs fa fn ex).obs s := by
  have e : g = s.heap.get? := funext h
  rw [e] <;> rfl
section
variable {file : Str} {bs : BiL} {fa : List He.Fa} {fn : List He.DefD} {ex : List ExD} {K : PySem.W.Frag} {h : Heap} {mg : Str → Option Value}
theorem SaysW.e (c : SaysW file bs fa fn ex K) : SaysE file fa fn ex K := congrArg (fun z : AlW => z.1) c
theorem SaysW.saysD (c : SaysW file bs fa fn ex K) : He.SaysD fa fn K := c.e.saysD
theorem SaysW.bi (c : SaysW file bs fa fn ex K) (X : K.In h) (G : h.Ns mainGlobals mg) (i : Nat) {x : Str} {b : String} (e : bs[i]? = some (x, b) := by rfl) : mg x = some (.builtin b) := by
  have c2 : biB K bs = true := congrArg (fun z : AlW => z.2) c
  have := List.all_eq_true.mp c2 (x, b) (List.mem_of_getElem? e)
  exact PySem.W.mg_of X G (eqO_ok this)
end
end Own

/-! What is a list or a tuple: walked, enumerated, zipped, read, measured. -/
namespace Own
open PySem PySem.Spec PySem.W PyProof.Rows L2 Evl
/-- a list (false), a tuple (true) -/
def SqB (K : PySem.W.Frag) (b : Bool) (H : Hp) (a : Addr) (xs : List V) : Prop := match b with
  | true => SqT K H a xs
  | false => SqL K H a xs
def isB (b : Bool) (h : Heap) (l : Addr) (its : Array Value) : Prop := match b with
  | true => h.IsTuple l its
  | false => h.IsList l its
def itB (b : Bool) (h : Heap) (it l : Addr) (i : Nat) : Prop := match b with
  | true => h.IsTupleIter it l i
  | false => h.IsListIter it l i
def obB (b : Bool) (l : Addr) : Obj := { cls := .type (match b with | true => "tuple_iterator" | false => "list_iterator"), data := .fields #[.ref l, .int 0 0] }
theorem itB_ob {b : Bool} {h : Heap} {it l : Addr} {i : Nat} (x : itB b h it l i) : ∃ o vs, h.get? it = some o ∧ o.data = .fields vs := by
  cases b with
  | true =>
    obtain ⟨o, h1, h2, h3⟩ := x
    exact ⟨o, _, h1, h3⟩
  | false =>
    obtain ⟨o, h1, h2, h3⟩ := x
    exact ⟨o, _, h1, h3⟩
theorem itB_at {b : Bool} {h h' : Heap} {it l : Addr} {i : Nat} (x : itB b h it l i) (e : ∀ o, h.get? it = some o → h'.get? it = some o) : itB b h' it l i := by
  cases b with
  | true => exact Heap.IsTupleIter.at x e
  | false => exact Heap.IsListIter.at x e
theorem isB_ne {b : Bool} {h : Heap} {l it l2 : Addr} {i : Nat} {its : Array Value} {b2 : Bool} (x : isB b h l its) (y : itB b2 h it l2 i) : l ≠ it := fun z => by
  subst z
  cases b <;> cases b2 <;>
  · obtain ⟨o, h1, h2, _⟩ := x
    obtain ⟨o', g1, g2, _⟩ := y
    rw [h1] at g1
    cases g1
    rw [h2] at g2
    exact absurd g2 (by decide)
theorem isB_lt {b : Bool} {h : Heap} {l : Addr} {its : Array Value} (x : isB b h l its) : l < h.objs.size := by
  cases b with
  | true =>
    obtain ⟨o, h1, _⟩ := x
    exact Heap.lt_size h1
  | false =>
    obtain ⟨o, h1, _⟩ := x
    exact Heap.lt_size h1
theorem drawsB {P : Program} {w : World} {A : Around} (hh : A.handled = none) : ∀ (b : Bool) (it l : Addr), l ≠ it → ∀ its : Array Value, Draws P w A it [it, l] its.size (fun i v => its[i]? = some v) (fun i h => itB b h it l i ∧ isB b h l its)
  | true, it, l, hne, its => Draws.tuple hh it l hne its
  | false, it, l, hne, its => Draws.list hh it l hne its
theorem beginsB : ∀ (b : Bool) (l : Addr) (its : Array Value), Begins (.ref l) (obB b l) fun h => isB b h l its
  | true, l, its => begins_tuple l its
  | false, l, its => begins_list l its
theorem itB_new : ∀ (b : Bool) {h : Heap} {it l : Addr}, h.get? it = some (obB b l) → itB b h it l 0
  | true, _, _, _, e => ⟨_, e, rfl, rfl⟩
  | false, _, _, _, e => ⟨_, e, rfl, rfl⟩
theorem seqB {X : Cx} {pins : List (Addr × Obj)} {σ : L2.St} {H : Hp} {s : Shared} (I : Inv X pins σ H s) : ∀ {b : Bool} {a : Addr} {xs : List V}, SqB X.K b H a xs → ∃ its : List Value, Vals xs its ∧ isB b s.heap a its.toArray
  | true, _, _, h => by
    obtain ⟨its, r, p, _⟩ := I.tuple h
    exact ⟨its, r, p⟩
  | false, _, _, h => by
    obtain ⟨its, r, p, _⟩ := I.list h
    exact ⟨its, r, p.isList⟩
theorem seqB_inj {X : Cx} {pins : List (Addr × Obj)} {σ : L2.St} {H : Hp} {s : Shared} (I : Inv X pins σ H s) : ∀ {b : Bool} {a : Addr} {xs ys : List V}, SqB X.K b H a xs → SqB X.K b H a ys → xs = ys
  | true, _, _, _, h, h' => I.tuple_inj h h'
  | false, _, _, _, h, h' => I.list_inj h h'
/-! ### zip -/
def ItzB (K : PySem.W.Frag) (b1 b2 : Bool) (a1 a2 : Addr) : It :=
  ⟨fun i H => ∃ (xs ys : List V) (x y : V), SqB K b1 H a1 xs ∧ SqB K b2 H a2 ys ∧ xs[i]? = some x ∧ ys[i]? = some y,
    fun i H v H' => ∃ T x y, v = .ref T ∧ H T = none ∧ H' = upd H T (.tup [x, y]) ∧ (∀ xs, SqB K b1 H a1 xs → xs[i]? = some x) ∧ ∀ ys, SqB K b2 H a2 ys → ys[i]? = some y,
    fun i H => ∃ xs ys : List V, SqB K b1 H a1 xs ∧ SqB K b2 H a2 ys ∧ i ≤ xs.length ∧ i ≤ ys.length ∧ (i = xs.length ∨ i = ys.length)⟩
theorem turn_zipB {P : Program} {w : World} {K : PySem.W.Frag} {elts : List Expr} {kk : Nat} {tpos : Pos} {b1 b2 : Bool} {a1 a2 zz ti tt j1 j2 : Addr} (S : ZipSep2 zz ti tt j1 j2 [j1, a1] [j2, a2]) (n1 : a1 ≠ j1) (n2 : a2 ≠ j2) :
    Turn P w K (.Tuple elts kk tpos) (ItzB K b1 b2 a1 a2) [zz, ti, tt, j1, j2] zz (fun i h => IsZip h zz ti tt .none ∧ IsTupOf2 h ti (.ref j1) (.ref j2) ∧ (∃ x y, IsTupOf2 h tt x y) ∧ itB b1 h j1 a1 i ∧ itB b2 h j2 a2 i) where
  mem := by simp
  obj := fun i h st c hc => by
    obtain ⟨hz, hTI, ⟨x, y, hTO⟩, h1, h2⟩ := st
    have cases5 : c = zz ∨ c = ti ∨ c = tt ∨ c = j1 ∨ c = j2 := by simpa using hc
    rcases cases5 with rfl | rfl | rfl | rfl | rfl
    · exact ⟨_, hz, fun v q => nomatch q⟩
    · exact ⟨_, hTI, fun v q => nomatch q⟩
    · exact ⟨_, hTO, fun v q => nomatch q⟩
    · obtain ⟨o, vs, g1, g2⟩ := itB_ob h1
      exact ⟨o, g1, fun v q => by rw [g2] at q; cases q⟩
    · obtain ⟨o, vs, g1, g2⟩ := itB_ob h2
      exact ⟨o, g1, fun v q => by rw [g2] at q; cases q⟩
  keep := fun i h h' st k => by
    obtain ⟨hz, hTI, ⟨x, y, hTO⟩, h1, h2⟩ := st
    exact ⟨k zz (by simp) _ hz, k ti (by simp) _ hTI, ⟨x, y, k tt (by simp) _ hTO⟩, itB_at h1 fun o q => k j1 (by simp) o q, itB_at h2 fun o q => k j2 (by simp) o q⟩
  item := by
    intro X hP hw hK hc i pins s σ H E I hf st hg
    subst hP hw hK
    obtain ⟨hz, hTI, ⟨x0, y0, hTO⟩, h1, h2⟩ := st
    obtain ⟨xs, ys, x, y, qx, qy, hx, hy⟩ := hg
    obtain ⟨us, r1, p1⟩ := seqB I qx
    obtain ⟨vs, r2, p2⟩ := seqB I qy
    obtain ⟨u, hu, ru⟩ := r1.get hx
    obtain ⟨v, hv, rv⟩ := r2.get hy
    have zlt : zz < s.heap.objs.size := Heap.lt_size hz
    have hh : X.A.in1.handled = none := I.ok.hd hc
    have lu := (List.getElem?_eq_some_iff.mp hu).1
    have lv := (List.getElem?_eq_some_iff.mp hv).1
    refine wpAny_pyNext_zipD2_item S (drawsB hh b1 j1 a1 n1 us.toArray) (drawsB hh b2 j2 a2 n2 vs.toArray) hz hTI hTO ⟨h1, p1⟩ ⟨h2, p2⟩ (by simpa using lu) (by simpa using lv) fun x1 x2 h' tk e1 e2 z' t' s1 s2 hT _ hk => ?_
    have q1 : x1 = u := by
      have e1' : us.toArray[i]? = some x1 := e1
      rw [List.getElem?_toArray, hu] at e1'
      exact (Option.some.inj e1').symm
    have q2 : x2 = v := by
      have e2' : vs.toArray[i]? = some x2 := e2
      rw [List.getElem?_toArray, hv] at e2'
      exact (Option.some.inj e2').symm
    subst q1 q2
    refine ⟨_, rfl, wpAny_letOwnedTupleGo_zip (s := { s with heap := h', toks := tk }) z' fun h'' z'' sb => ?_⟩
    have T2 : h''.get? s.heap.objs.size = some { cls := .type "tuple", data := .seq #[x1, x2] } := (sb.2 _ (Nat.ne_of_gt zlt)).trans hT
    have new : ObjOk X.prog X.w (upd H s.heap.objs.size (.tup [x, y])) h'' s.heap.objs.size (.tup [x, y]) :=
      ⟨by show 2 ≤ sizeLine; decide, [x1, x2], .cons ru (.cons rv .nil), ⟨_, T2, rfl, _, rfl⟩⟩
    have I1 : Inv X pins σ (upd H s.heap.objs.size (.tup [x, y])) { s with heap := h'', toks := tk } :=
      I.turnedNew (ch := [zz, ti, tt, j1, j2]) (fun c o hb q => (sb.2 c (fun q' => hb (by rw [q']; simp))).trans (hk c o (fun q' => hb (by rw [q']; simp)) (fun q' => hb (by rw [q']; simp)) (fun q' => hb (by rw [q']; simp)) (fun q' => hb (by rw [q']; simp)) q)) hf (Nat.le_refl _) new
    have up : ∀ c o, c ≠ zz → h'.get? c = some o → h''.get? c = some o := fun c o hc q => (sb.2 c hc).trans q
    refine ⟨.ref s.heap.objs.size, _, I1, rfl, ⟨_, x, y, rfl, I.hok.fresh (Nat.le_refl _), rfl, fun l hl => by rw [seqB_inj I hl qx]; exact hx, fun l hl => by rw [seqB_inj I hl qy]; exact hy⟩, ⟨z'', ?_, ⟨x1, x2, ?_⟩, ?_, ?_⟩, fun c hcm => ?_⟩
    · exact up _ _ S.TIz (hk _ _ S.TIz S.TITO S.TIi1 S.TIi2 hTI)
    · exact up _ _ S.TOz t'
    · exact itB_at s1.1 fun o q => up _ _ S.zi1.symm q
    · exact itB_at s2.1 fun o q => up _ _ S.zi2.symm q
    · have hlt : c < s.heap.objs.size := by
        have cases5 : c = zz ∨ c = ti ∨ c = tt ∨ c = j1 ∨ c = j2 := by simpa using hcm
        rcases cases5 with rfl | rfl | rfl | rfl | rfl
        · exact zlt
        · exact Heap.lt_size hTI
        · exact Heap.lt_size hTO
        · obtain ⟨_, _, g, _⟩ := itB_ob h1
          exact Heap.lt_size g
        · obtain ⟨_, _, g, _⟩ := itB_ob h2
          exact Heap.lt_size g
      rw [upd_ne (Nat.ne_of_lt hlt)]
      exact (hf c hcm).1
  done := by
    intro X hP hw hK hc i pins s σ H E I hf st hg
    subst hP hw hK
    obtain ⟨hz, hTI, ⟨x0, y0, hTO⟩, h1, h2⟩ := st
    obtain ⟨xs, ys, qx, qy, l1, l2, hend⟩ := hg
    obtain ⟨us, r1, p1⟩ := seqB I qx
    obtain ⟨vs, r2, p2⟩ := seqB I qy
    have hh : X.A.in1.handled = none := I.ok.hd hc
    have e1 : us.toArray.size = xs.length := by rw [List.size_toArray]; exact r1.length.symm
    have e2 : vs.toArray.size = ys.length := by rw [List.size_toArray]; exact r2.length.symm
    refine wpAny_pyNext_zipD2_end S (drawsB hh b1 j1 a1 n1 us.toArray) (drawsB hh b2 j2 a2 n2 vs.toArray) hz hTI hTO ⟨h1, p1⟩ ⟨h2, p2⟩ (by omega) (by omega) (by omega) fun h' tk hk => ⟨rfl, I.turnedL (ch := [zz, ti, tt, j1, j2]) (fun c o hb q =>
      hk c o (fun q' => hb (by rw [q']; simp)) (fun q' => hb (by rw [q']; simp)) (fun q' => hb (by rw [q']; simp)) (fun q' => hb (by rw [q']; simp)) q) hf⟩
  self := fun A i s Q E st h => wpAny_pyIter_zip st.1 h
def iZipB (K : PySem.W.Frag) (ta : TA) : TI := fun σ H R => ta σ H fun vs H1 => ∃ a1 a2 b1 b2 xs ys, vs = [.ref a1, .ref a2] ∧ SqB K b1 H1 a1 xs ∧ SqB K b2 H1 a2 ys ∧ R (ItzB K b1 b2 a1 a2) H1
theorem pi_zipB {X : Cx} {e e2 : Expr} {ta : TA} {p pos tpos : Pos} {elts : List Expr} {kk : Nat} (hg : Gl X "zip") (hm : X.mg "zip" = none) (ha : PA X [e, e2] ta)
    (hs : starEach [e, e2] X.env = (false, eval e X.env) :: starEach [e2] X.env := by rfl) (hpl : (backTo pos (starEach [e2] X.env)).any (·.1) = false := by rfl) :
    PI X (.Tuple elts kk tpos) (.Call (.Name "zip" p) [e, e2] [] pos) (iZipB X.K ta) := by
  refine ⟨fun pins s σ H R I h => ?_⟩
  refine Call_ (ld_blt I hg hm PyProof.Rows.boot_zip (PyProof.Rows.callWith_type1 (thn (ha.run pos pins s σ H _ I h) fun us s1 ⟨vs, H1, I1, r1, q1⟩ => ?_) hs hpl))
  obtain ⟨a1, a2, b1, b2, xs, ys, ex, qx, qy, q⟩ := q1
  subst ex
  obtain ⟨u, v, rfl, ru, rv⟩ : ∃ u v, us = [u, v] ∧ RelV (.ref a1) u ∧ RelV (.ref a2) v := by
    cases r1 with
    | cons r rr =>
      cases rr with
      | cons r' rr =>
        cases rr
        exact ⟨_, _, rfl, r, r'⟩
  cases ru
  cases rv
  obtain ⟨us, r1, p1⟩ := seqB I1 qx
  obtain ⟨vs, r2, p2⟩ := seqB I1 qy
  refine zip_begins2 (beginsB b1 a1 us.toArray) (beginsB b2 a2 vs.toArray) p1 p2 fun h' hz hTI hTO g1 g2 hsz hk => wpAny_pyIter_zip hz ?_
  have I2 : Inv X pins σ H1 { s1 with heap := h' } := I1.kept (t' := s1.toks) hk
  have S := zip_sep2 (N := s1.heap.objs.size) (fp1 := [a1]) (fp2 := [a2]) (fun b hb => by rw [List.mem_singleton.mp hb]; exact isB_lt p1) (fun b hb => by rw [List.mem_singleton.mp hb]; exact isB_lt p2)
  have lt1 := isB_lt p1
  have lt2 := isB_lt p2
  refine ⟨s1.heap.objs.size + 4, [s1.heap.objs.size + 4, s1.heap.objs.size + 2, s1.heap.objs.size + 3, s1.heap.objs.size, s1.heap.objs.size + 1], _, _, H1, rfl, I2, turn_zipB S (Nat.ne_of_lt lt1) (Nat.ne_of_lt (Nat.lt_succ_of_lt lt2)), ⟨hz, hTI, ⟨_, _, hTO⟩, itB_new b1 g1, itB_new b2 g2⟩, fun c hcm => ?_, q⟩
  have hle : s1.heap.objs.size ≤ c := by
    have cases5 : c = s1.heap.objs.size + 4 ∨ c = s1.heap.objs.size + 2 ∨ c = s1.heap.objs.size + 3 ∨ c = s1.heap.objs.size ∨ c = s1.heap.objs.size + 1 := by simpa using hcm
    rcases cases5 with z | z | z | z | z
    · rw [z]; exact Nat.le_add_right _ _
    · rw [z]; exact Nat.le_add_right _ _
    · rw [z]; exact Nat.le_add_right _ _
    · rw [z]; exact Nat.le_refl _
    · rw [z]; exact Nat.le_add_right _ _
  exact I1.fpOk hle (I1.hok.fresh hle)
theorem walk_zipB {K : PySem.W.Frag} {b1 b2 : Bool} {a1 a2 : Addr} {xs ys : List V} {n : Nat} (hn : n = min xs.length ys.length) :
    Walk (ItzB K b1 b2 a1 a2) n (fun H => SqB K b1 H a1 xs ∧ SqB K b2 H a2 ys) (fun i H v H' => ∃ T x y, v = .ref T ∧ H T = none ∧ H' = upd H T (.tup [x, y]) ∧ xs[i]? = some x ∧ ys[i]? = some y) := by
  refine ⟨fun i _ hi q => ?_, fun _ q => ⟨xs, ys, q.1, q.2, by omega, by omega, by omega⟩, fun i H v H' _ q y => ?_⟩
  · have l1 : i < xs.length := by omega
    have l2 : i < ys.length := by omega
    exact ⟨xs, ys, xs[i], ys[i], q.1, q.2, List.getElem?_eq_getElem l1, List.getElem?_eq_getElem l2⟩
  · obtain ⟨T, x, z, h1, h2, h3, h4, h5⟩ := y
    exact ⟨T, x, z, h1, h2, h3, h4 xs q.1, h5 ys q.2⟩
/-! ### enumerate -/
def IteB (K : PySem.W.Frag) (b : Bool) (a : Addr) : It :=
  ⟨fun i H => ∃ (xs : List V) (x : V), SqB K b H a xs ∧ xs[i]? = some x, fun i H v H' => ∃ T x, v = .ref T ∧ H T = none ∧ H' = upd H T (.tup [.int (i : Nat), x]) ∧ ∀ xs, SqB K b H a xs → xs[i]? = some x, fun i H => ∃ xs : List V, SqB K b H a xs ∧ i = xs.length⟩
theorem turn_enumB {P : Program} {w : World} {K : PySem.W.Frag} {elts : List Expr} {kk : Nat} {tpos : Pos} (b : Bool) (a e it : Addr) (ne1 : e ≠ it) (ne2 : a ≠ it) (ne3 : e ≠ a) :
    Turn P w K (.Tuple elts kk tpos) (IteB K b a) [e, it] e (fun i h => (∃ old, IsEnum h e it ((i : Nat) : Int) old) ∧ itB b h it a i) where
  mem := by simp
  obj := fun i h st c hc => by
    obtain ⟨⟨old, he⟩, hi⟩ := st
    have two : c = e ∨ c = it := by simpa using hc
    rcases two with rfl | rfl
    · exact ⟨_, he, fun v q => nomatch q⟩
    · obtain ⟨o, vs, g1, g2⟩ := itB_ob hi
      exact ⟨o, g1, fun v q => by rw [g2] at q; cases q⟩
  keep := fun i h h' st k => by
    obtain ⟨⟨old, he⟩, hi⟩ := st
    exact ⟨⟨old, k e (by simp) _ he⟩, itB_at hi fun o q => k it (by simp) o q⟩
  item := by
    intro X hP hw hK hc i pins s σ H E I hf st hg
    subst hP hw hK
    obtain ⟨⟨old, he⟩, hit⟩ := st
    obtain ⟨xs, x, hq, hx⟩ := hg
    obtain ⟨us, r1, p1⟩ := seqB I hq
    obtain ⟨u, hu, ru⟩ := r1.get hx
    have elt : e < s.heap.objs.size := Heap.lt_size he
    have lu := (List.getElem?_eq_some_iff.mp hu).1
    refine wpAny_pyNext_enum_itemD (drawsB (show X.A.in1.handled = none from I.ok.hd hc) b it a ne2 us.toArray) he ⟨hit, p1⟩ (by simpa using lu) ne1 (by simp [ne1, ne3]) fun x' h' tk hP ho hst hT hsz hk => ?_
    have q1 : x' = u := by
      have e1 : us.toArray[i]? = some x' := hP
      rw [List.getElem?_toArray, hu] at e1
      exact (Option.some.inj e1).symm
    subst q1
    refine ⟨_, rfl, wpAny_letOwnedTupleGo_enum (s := { s with heap := h', toks := tk + 1 }) ho fun h'' he' sb => ?_⟩
    have T2 : h''.get? s.heap.objs.size = some { cls := .type "tuple", data := .seq #[.int i tk, x'] } := (sb.2 _ (Nat.ne_of_gt elt)).trans hT
    have new : ObjOk X.prog X.w (upd H s.heap.objs.size (.tup [.int (i : Nat), x])) h'' s.heap.objs.size (.tup [.int (i : Nat), x]) :=
      ⟨by show 2 ≤ sizeLine; decide, [.int i tk, x'], .cons ⟨_, rfl⟩ (.cons ru .nil), ⟨_, T2, rfl, _, rfl⟩⟩
    have I1 : Inv X pins σ (upd H s.heap.objs.size (.tup [.int (i : Nat), x])) { s with heap := h'', toks := tk + 1 } :=
      I.turnedNew (ch := [e, it]) (fun c ob hb q => (sb.2 c (fun z => hb (by rw [z]; simp))).trans (hk c ob (fun z => hb (by rw [z]; simp)) (fun z => hb (by rw [z]; simp)) q)) hf (Nat.le_refl _) new
    refine ⟨.ref s.heap.objs.size, _, I1, rfl, ⟨_, x, rfl, I.hok.fresh (Nat.le_refl _), rfl, fun ys hy => by rw [seqB_inj I hy hq]; exact hx⟩, ⟨⟨x', ?_⟩, itB_at hst.1 fun o q => (sb.2 it (Ne.symm ne1)).trans q⟩, fun c hb => ?_⟩
    · rw [show ((i + 1 : Nat) : Int) = (i : Int) + 1 by omega]
      exact he'
    · have hlt : c < s.heap.objs.size := by
        have two : c = e ∨ c = it := by simpa using hb
        rcases two with rfl | rfl
        · exact elt
        · obtain ⟨_, _, g, _⟩ := itB_ob hit
          exact Heap.lt_size g
      rw [upd_ne (Nat.ne_of_lt hlt)]
      exact (hf c hb).1
  done := by
    intro X hP hw hK hc i pins s σ H E I hf st hg
    subst hP hw hK
    obtain ⟨⟨old, he⟩, hit⟩ := st
    obtain ⟨xs, hq, rfl⟩ := hg
    obtain ⟨us, r1, p1⟩ := seqB I hq
    have e1 : us.toArray.size = xs.length := by rw [List.size_toArray]; exact r1.length.symm
    rw [← e1] at hit
    obtain ⟨f0, f1, f2, f3, f4, f5⟩ := hf it (by simp)
    exact wpAny_pyNext_enum_endD (drawsB (show X.A.in1.handled = none from I.ok.hd hc) b it a ne2 us.toArray) he ⟨hit, p1⟩ fun h' eb => ⟨rfl, I.turned (t' := s.toks) (fun c o hb q => eb c o hb q) f0 f1 f3 f4 f5⟩
  self := fun A i s Q E st h => let ⟨⟨_, he⟩, _⟩ := st; wpAny_pyIter_enum he h
def iEnumB (K : PySem.W.Frag) (ta : TA) : TI := fun σ H R => ta σ H fun vs H1 => ∃ a b xs, vs = [.ref a] ∧ SqB K b H1 a xs ∧ R (IteB K b a) H1
theorem pi_enumB {X : Cx} {e : Expr} {ta : TA} {p pos tpos : Pos} {elts : List Expr} {kk : Nat} (hg : Gl X "enumerate") (hm : X.mg "enumerate" = none) (ha : PA X [e] ta) (hs : starEach [e] X.env = [(false, eval e X.env)] := by rfl) :
    PI X (.Tuple elts kk tpos) (.Call (.Name "enumerate" p) [e] [] pos) (iEnumB X.K ta) := by
  refine ⟨fun pins s σ H R I h => ?_⟩
  refine Call_ (ld_blt I hg hm boot_enumerate (PyProof.Rows.callWith_type1 (thn (ha.run pos pins s σ H _ I h) fun us s1 ⟨vs, H1, I1, r1, q1⟩ => ?_) hs rfl))
  obtain ⟨a, b, xs, ex, hq, q⟩ := q1
  subst ex
  obtain rfl := Vals.ref1 r1
  obtain ⟨us, r2, p1⟩ := seqB I1 hq
  refine PySem.OwU.enum_begins0 (beginsB b a us.toArray) p1 fun h' he g1 hsz hk => wpAny_pyIter_enum he ?_
  have I2 : Inv X pins σ H1 { s1 with heap := h' } := I1.kept (t' := s1.toks) hk
  have lt1 := isB_lt p1
  refine ⟨s1.heap.objs.size + 1, [s1.heap.objs.size + 1, s1.heap.objs.size], _, _, H1, rfl, I2, turn_enumB b a (s1.heap.objs.size + 1) s1.heap.objs.size (Nat.succ_ne_self _) (Nat.ne_of_lt lt1) (Nat.ne_of_gt (Nat.lt_succ_of_lt lt1)), ⟨⟨.none, he⟩, itB_new b g1⟩, fun c hb => ?_, q⟩
  have hle : s1.heap.objs.size ≤ c := by
    have two : c = s1.heap.objs.size + 1 ∨ c = s1.heap.objs.size := by simpa using hb
    rcases two with z | z
    · rw [z]; exact Nat.le_add_right _ _
    · rw [z]; exact Nat.le_refl _
  exact I1.fpOk hle (I1.hok.fresh hle)
theorem walk_enumB {K : PySem.W.Frag} {b : Bool} {a : Addr} {xs : List V} : Walk (IteB K b a) xs.length (fun H => SqB K b H a xs) (fun i H v H' => ∃ T x, v = .ref T ∧ H T = none ∧ H' = upd H T (.tup [.int (i : Nat), x]) ∧ xs[i]? = some x) := by
  refine ⟨fun i _ hi q => ⟨xs, xs[i], q, by simp [hi]⟩, fun _ q => ⟨xs, q, rfl⟩, fun i H v H' _ q y => ?_⟩
  obtain ⟨T, x, h1, h2, h3, h4⟩ := y
  exact ⟨T, x, h1, h2, h3, h4 xs q⟩
/-! ### for x in it -/
def ItsB (K : PySem.W.Frag) (b : Bool) (a : Addr) : It := match b with
  | true => Itt K a
  | false => Itl K a
def iSeqB (K : PySem.W.Frag) (tl : TE) : TI := fun σ H R => tl σ H fun x H1 => ∃ a b xs, x = .ref a ∧ SqB K b H1 a xs ∧ R (ItsB K b a) H1
theorem pi_seqB {X : Cx} {tg l : Expr} {tl : TE} (hl : PE X l tl) : PI X tg l (iSeqB X.K tl) := by
  refine ⟨fun pins s σ H R I h => ?_⟩
  refine thn (hl.run pins s σ H _ I h) fun v s1 ⟨x, H1, I1, r1, q1⟩ => ?_
  obtain ⟨a, b, xs, rfl, hq, q⟩ := q1
  cases r1
  cases b with
  | true =>
    obtain ⟨its, rv, p, hz⟩ := I1.tuple hq
    exact wpAny_pyIter_tuple (show s1.heap.IsTuple a its.toArray from p) (pi_one (tk := s1.toks) I1 _ (turn_tuple a _) ⟨_, Heap.get?_push_size _ rfl, rfl, rfl⟩ q)
  | false =>
    obtain ⟨its, rv, p, hz⟩ := I1.list hq
    exact wpAny_pyIter_list p.isList (pi_one (tk := s1.toks) I1 _ (turn_list a _) ⟨_, Heap.get?_push_size _ rfl, rfl, rfl⟩ q)
theorem walk_seqB {K : PySem.W.Frag} : ∀ {b : Bool} {a : Addr} {xs : List V}, Walk (ItsB K b a) xs.length (fun H => SqB K b H a xs) (YAt xs)
  | true, _, _ => walk_tup
  | false, _, _ => walk_list
theorem SqB.ex {K : PySem.W.Frag} {H H1 : Hp} {a : Addr} {xs : List V} (e : Ex H H1) : ∀ {b : Bool}, SqB K b H a xs → SqB K b H1 a xs
  | true, h => ex_t e h
  | false, h => ex_l e h
theorem sqb_l {K : PySem.W.Frag} {H : Hp} {a : Addr} {xs : List V} (h : H a = some (.lst xs)) : SqB K false H a xs := sq_of h
theorem sqb_t {K : PySem.W.Frag} {H : Hp} {a : Addr} {xs : List V} (h : Tp K H a xs) : SqB K true H a xs := h.sq
theorem SqB.or {K : PySem.W.Frag} {H : Hp} {a : Addr} {xs : List V} : ∀ {b : Bool}, SqB K b H a xs → SqL K H a xs ∨ SqT K H a xs
  | true, h => .inr h
  | false, h => .inl h
end Own

/-! Written data of the module: tables from texts to ints, texts, tuples of such; the Hook that tells them. -/
namespace Own
open PySem PySem.Spec PyProof.Rows L2
open He (ga ma fAd eqO eqO_ok ba)
inductive Dat where
  | int (i : Int)
  | str (x : Str)
  | tup (ds : List Dat)
mutual
def datB (K : PySem.W.Frag) : Dat → Value → Bool
  | .int i, u => (match u with
    | .int j _ => decide (i = j)
    | _ => false)
  | .str x, u => (match u with
    | .str y _ => decide (x = y)
    | _ => false)
  | .tup ds, u => (match u with
    | .ref a => (match K.lookup a with
      | some ⟨.type c, none, .seq its _, _⟩ => decide (c = "tuple") && (Nat.ble its.size 1000 && datAll K ds its.toList)
      | _ => false)
    | _ => false)
def datAll (K : PySem.W.Frag) : List Dat → List Value → Bool
  | [], us => us.isEmpty
  | d :: ds, us => (match us with
    | u :: r => datB K d u && datAll K ds r
    | [] => false)
end
mutual
def IsDat (K : PySem.W.Frag) : Dat → V → Prop
  | .int i, v => v = .int i
  | .str x, v => v = .str x
  | .tup ds, v => ∃ (p : Addr) (xs : List V), v = .ref p ∧ (∀ H : Hp, Tp K H p xs) ∧ AllDat K ds xs
def AllDat (K : PySem.W.Frag) : List Dat → List V → Prop
  | [], xs => xs = []
  | d :: ds, xs => ∃ x r, xs = x :: r ∧ IsDat K d x ∧ AllDat K ds r
end
mutual
theorem datB_ok {K : PySem.W.Frag} : ∀ (d : Dat) (u : Value), datB K d u = true → ∃ v, RelV v u ∧ IsDat K d v
  | .int i, u, h => by
    unfold datB at h
    split at h
    · obtain rfl := of_decide_eq_true h
      exact ⟨.int i, ⟨_, rfl⟩, rfl⟩
    · cases h
  | .str x, u, h => by
    unfold datB at h
    split at h
    · obtain rfl := of_decide_eq_true h
      exact ⟨.str x, ⟨_, rfl⟩, rfl⟩
    · cases h
  | .tup ds, u, h => by
    unfold datB at h
    split at h
    · rename_i a
      split at h
      · rename_i c its n sl ho
        obtain ⟨h1, h2⟩ := ba h
        obtain ⟨h3, h4⟩ := ba h2
        obtain rfl := of_decide_eq_true h1
        obtain ⟨xs, rx, ix⟩ := datAll_ok ds its.toList h4
        have hz : its.size ≤ sizeLine := by
          rw [sizeLine_eq]
          have := Nat.le_of_ble_eq_true h3
          omega
        exact ⟨.ref a, rfl, a, xs, rfl, fun H => .inr ⟨_, its, n, ho, rfl, rfl, rfl, hz, rx⟩, ix⟩
      · cases h
    · cases h
theorem datAll_ok {K : PySem.W.Frag} : ∀ (ds : List Dat) (us : List Value), datAll K ds us = true → ∃ xs, Vals xs us ∧ AllDat K ds xs
  | [], us, h => by
    unfold datAll at h
    cases us with
    | nil => exact ⟨[], .nil, rfl⟩
    | cons u r => cases h
  | d :: ds, us, h => by
    unfold datAll at h
    cases us with
    | nil => cases h
    | cons u r =>
      obtain ⟨h1, h2⟩ := ba h
      obtain ⟨v, rv, iv⟩ := datB_ok d u h1
      obtain ⟨xs, rx, ix⟩ := datAll_ok ds r h2
      exact ⟨v :: xs, .cons rv rx, v, xs, rfl, iv, ix⟩
end
theorem IsDat.ints {K : PySem.W.Frag} {ns : List Int} {v : V} (h : IsDat K (.tup (ns.map .int)) v) : ∃ p, v = .ref p ∧ ∀ H : Hp, Tp K H p (ns.map V.int) := by
  unfold IsDat at h
  obtain ⟨p, xs, rfl, h1, h2⟩ := h
  have e : ∀ (ns : List Int) (xs : List V), AllDat K (ns.map .int) xs → xs = ns.map V.int := by
    intro ns
    induction ns with
    | nil =>
      intro xs h
      unfold AllDat at h
      exact h
    | cons n r ih =>
      intro xs h
      unfold AllDat at h
      obtain ⟨x, r', rfl, g1, g2⟩ := h
      unfold IsDat at g1
      rw [g1, ih r' g2]
      rfl
  rw [e ns xs h2] at h1
  exact ⟨p, rfl, h1⟩
/-- a table of the module -/
def DicK (K : PySem.W.Frag) (w : World) (mg : Str → Option Value) (x : Str) (kvs : List (Str × Dat)) : Prop := ∃ a, mg x = some (.ref a) ∧ ∀ q ∈ kvs, ∃ v, KDct K w a q.1 v ∧ IsDat K q.2 v
/-- NAME[k] -/
def tKD (K : PySem.W.Frag) (kvs : List (Str × Dat)) (te : TE) : TE := fun σ H Q => te σ H fun y H1 => ∃ z d, y = .str z ∧ (z, d) ∈ kvs ∧ ∀ v, IsDat K d v → Q v H1
section
variable {X : Cx} {K : PySem.W.Frag} {w : World}
theorem PE_imp {e : Expr} {t t' : TE} (h : PE X e t) (i : ∀ σ H Q, t' σ H Q → t σ H Q) : PE X e t' := ⟨fun pins s σ H Q I q => h.run pins s σ H Q I (i σ H Q q)⟩
theorem pe_kd {x : Str} {kvs : List (Str × Dat)} {e : Expr} {te : TE} {p pos : Pos} (D : DicK K w X.mg x kvs) (hg : Gl X x) (he : PE X e te) (hs : PlainIx e) (hK : X.K = K := by rfl) (hw : X.w = w := by rfl)
    (hd : (x == ("__debug__" : Str)) = false := by decide) : PE X (.Subscript (.Name x p) e pos) (tKD K kvs te) := by
  subst hK hw
  obtain ⟨a, ha, hv⟩ := D
  refine ⟨fun pins s σ H Q I h => ?_⟩
  refine Subscript_ (ld_glob I hg ha (thn (he.run pins s σ H _ I h) fun u s2 ⟨y, H2, I2, ry, q⟩ => ?_) hd)
  obtain ⟨z, d, rfl, hm, q⟩ := q
  obtain ⟨v, hk, hi⟩ := hv _ hm
  exact ix_kdict (.Name x p) e pins s2 σ H2 (.ref a) (.str z) (.ref a) u Q I2 rfl ry ⟨a, z, v, rfl, rfl, hk, q v hi⟩ (hs _ _)
/-- NAME, a constant of the module -/
def ConK (K : PySem.W.Frag) (mg : Str → Option Value) (x : Str) (d : Dat) : Prop := ∃ u v, mg x = some u ∧ RelV v u ∧ IsDat K d v
def tCon (K : PySem.W.Frag) (d : Dat) : TE := fun σ H Q => ∀ v, IsDat K d v → Q v H
theorem pe_konst {x : Str} {d : Dat} {p : Pos} (D : ConK K X.mg x d) (hg : Gl X x) (hd : (x == ("__debug__" : Str)) = false := by decide) : PE X (.Name x p) (tCon K d) := by
  obtain ⟨u, v, h1, h2, h3⟩ := D
  exact ⟨fun _ _ _ H _ I h => ld_glob I hg h1 ⟨v, H, I, h2, h v h3⟩ hd⟩
end
/-! ### the Hook -/
structure KoD where
  bs : BiL := []
  dics : List (Str × List (Str × Dat)) := []
  cons : List (Str × Dat) := []
def koB (K : PySem.W.Frag) (k : KoD) : Bool := biB K k.bs && ((k.dics.all fun d => eqO (PySem.W.nsIn K mainGlobals d.1) (some (some (.ref (ga K d.1)))) && d.2.all fun q => match PySem.W.nsIn K (ga K d.1) q.1 with
    | some (some u) => datB K q.2 u
    | _ => false) && k.cons.all fun d => match PySem.W.nsIn K mainGlobals d.1 with
    | some (some u) => datB K d.2 u
    | _ => false)
abbrev AlK : Type := AlE × Bool × List (Option (List (Option (Str × Int))))
def obsK (file : Str) (k : KoD) (fa : List He.Fa) (fn : List He.DefD) (ex : List ExD) (K : PySem.W.Frag) : AlK := (obsE file fa fn ex K, koB K k, k.dics.map fun d => He.dicW K (ga K d.1))
def valK (k : KoD) (fn : List He.DefD) (ex : List ExD) (w : World) : AlK := (valE fn ex, true, k.dics.map fun d => some (He.keysIn w.params (d.2.map (·.1))))
def SaysK (file : Str) (k : KoD) (fa : List He.Fa) (fn : List He.DefD) (ex : List ExD) (w : World) (K : PySem.W.Frag) : Prop := obsK file k fa fn ex K = valK k fn ex w
def obsKG (file : Str) (n : Nat) (k : KoD) (fa : List He.Fa) (fn : List He.DefD) (ex : List ExD) (g : Addr → Option Obj) : AlK := obsK file k fa fn ex (He.frG g (cStatics :: He.asD g n))
def hookK (file : Str) (n : Nat) (k : KoD) (fa : List He.Fa) (fn : List He.DefD) (ex : List ExD) : PySem.W.Hook where
  α := AlK
  obs := fun s => obsKG file n k fa fn ex s.heap.get?
  val := fun w => valK k fn ex w
  says := fun w h => ∃ K : PySem.W.Frag, K.In h ∧ SaysK file k fa fn ex w K
  of := fun _ _ e => ⟨_, He.frG_in, e⟩
  keeps := fun _ _ _ ⟨K, hK, c⟩ q => ⟨K, PySem.W.Frag.In.keeps hK q, c⟩
theorem obsKG_eq {file : Str} {n : Nat} {k : KoD} {fa : List He.Fa} {fn : List He.DefD} {ex : List ExD} {g : Addr → Option Obj} {s : Shared} (h : ∀ a, g a = s.heap.get? a) : obsKG file n k fa fn ex g = (hookK file n k fa fn ex).obs s := by
  have e : g = s.heap.get? := funext h
  rw [e] <;> rfl
section
variable {file : Str} {k : KoD} {fa : List He.Fa} {fn : List He.DefD} {ex : List ExD} {w : World} {K : PySem.W.Frag} {h : Heap} {mg : Str → Option Value}
theorem SaysK.e (c : SaysK file k fa fn ex w K) : SaysE file fa fn ex K := congrArg (fun z : AlK => z.1) c
theorem SaysK.saysD (c : SaysK file k fa fn ex w K) : He.SaysD fa fn K := c.e.saysD
theorem SaysK.ko (c : SaysK file k fa fn ex w K) : koB K k = true := congrArg (fun z : AlK => z.2.1) c
theorem SaysK.bi (c : SaysK file k fa fn ex w K) (X : K.In h) (G : h.Ns mainGlobals mg) (i : Nat) {x : Str} {b : String} (e : k.bs[i]? = some (x, b) := by rfl) : mg x = some (.builtin b) := by
  have := List.all_eq_true.mp (ba c.ko).1 (x, b) (List.mem_of_getElem? e)
  exact PySem.W.mg_of X G (eqO_ok this)
theorem SaysK.dic (c : SaysK file k fa fn ex w K) (X : K.In h) (G : h.Ns mainGlobals mg) (i : Nat) {x : Str} {kvs : List (Str × Dat)} (e : k.dics[i]? = some (x, kvs) := by rfl) : DicK K w mg x kvs := by
  obtain ⟨c1, c2⟩ := ba (List.all_eq_true.mp (ba (ba c.ko).2).1 (x, kvs) (List.mem_of_getElem? e))
  have t1 : k.dics.map (fun d => He.dicW K (ga K d.1)) = k.dics.map fun d => some (He.keysIn w.params (d.2.map (·.1))) := congrArg (fun z : AlK => z.2.2) c
  have t2 : (k.dics.map fun d => He.dicW K (ga K d.1))[i]? = (k.dics.map fun d => some (He.keysIn w.params (d.2.map (·.1))))[i]? := by rw [t1]
  rw [List.getElem?_map, List.getElem?_map, e] at t2
  obtain ⟨es, n, D⟩ := He.dicW_ok (Option.some.inj t2)
  refine ⟨_, PySem.W.mg_of X G (eqO_ok c1), fun q hq => ?_⟩
  have c3 := List.all_eq_true.mp c2 q hq
  cases z : PySem.W.nsIn K (ga K x) q.1 with
  | none =>
    rw [z] at c3
    cases c3
  | some r =>
    rw [z] at c3
    cases r with
    | none => cases c3
    | some u =>
      obtain ⟨v, rv, iv⟩ := datB_ok q.2 u c3
      exact ⟨v, ⟨es, n, u, D.at_, D.lit, z, rv⟩, iv⟩
theorem SaysK.con (c : SaysK file k fa fn ex w K) (X : K.In h) (G : h.Ns mainGlobals mg) (i : Nat) {x : Str} {d : Dat} (e : k.cons[i]? = some (x, d) := by rfl) : ConK K mg x d := by
  have c1 := List.all_eq_true.mp (ba (ba c.ko).2).2 (x, d) (List.mem_of_getElem? e)
  cases z : PySem.W.nsIn K mainGlobals x with
  | none =>
    rw [show (match PySem.W.nsIn K mainGlobals x with
      | some (some u) => datB K d u
      | _ => false) = false by rw [z]] at c1
    cases c1
  | some r =>
    cases r with
    | none =>
      rw [show (match PySem.W.nsIn K mainGlobals x with
        | some (some u) => datB K d u
        | _ => false) = false by rw [z]] at c1
      cases c1
    | some u =>
      have c2 : datB K d u = true := by
        have c1' : (match PySem.W.nsIn K mainGlobals x with
          | some (some u) => datB K d u
          | _ => false) = true := c1
        rw [z] at c1'
        exact c1'
      obtain ⟨v, rv, iv⟩ := datB_ok d u c2
      exact ⟨u, v, PySem.W.mg_of X G z, rv, iv⟩
end
end Own

/-! Tuples by their addresses. -/
namespace Own
open PySem PySem.Spec PyProof.Rows L2 Evl
structure LstG {α : Type} (f : α → List V) (K : PySem.W.Frag) (H : Hp) (es : List Addr) (xs : List α) : Prop where
  len : es.length = xs.length
  at_ : ∀ (i : Nat) e x, es[i]? = some e → xs[i]? = some x → Tp K H e (f x)
section
variable {α : Type} {f : α → List V} {K : PySem.W.Frag} {H H1 : Hp} {es : List Addr} {xs : List α}
theorem LstG.nil : LstG f K H [] [] := ⟨rfl, fun i e x h => by cases h⟩
theorem LstG.ex (l : LstG f K H es xs) (e : Ex H H1) : LstG f K H1 es xs := ⟨l.len, fun i a x h1 h2 => (l.at_ i a x h1 h2).ex e⟩
theorem LstG.mut {wr : Addr} {ys zs : List V} (l : LstG f K H es xs) (hw : H wr = some (.lst ys)) : LstG f K (upd H wr (.lst zs)) es xs := ⟨l.len, fun i a x h1 h2 => (l.at_ i a x h1 h2).mut hw⟩
theorem LstG.push {e : Addr} {x : α} (l : LstG f K H es xs) (t : Tp K H e (f x)) : LstG f K H (es ++ [e]) (xs ++ [x]) := by
  refine ⟨by rw [List.length_append, List.length_append, l.len]; rfl, fun i a y h1 h2 => ?_⟩
  by_cases c : i < es.length
  · rw [List.getElem?_append_left c] at h1
    rw [List.getElem?_append_left (by rw [← l.len]; exact c)] at h2
    exact l.at_ i a y h1 h2
  · rw [List.getElem?_append_right (by omega)] at h1
    rw [List.getElem?_append_right (by rw [← l.len]; omega), ← l.len] at h2
    have : i - es.length = 0 := by
      have := (List.getElem?_eq_some_iff.mp h1).1
      simp at this
      omega
    rw [this] at h1 h2
    cases h1
    cases h2
    exact t
theorem LstG.app {es2 : List Addr} {xs2 : List α} (l : LstG f K H es xs) (l2 : LstG f K H es2 xs2) : LstG f K H (es ++ es2) (xs ++ xs2) := by
  refine ⟨by rw [List.length_append, List.length_append, l.len, l2.len], fun i a y h1 h2 => ?_⟩
  by_cases c : i < es.length
  · rw [List.getElem?_append_left c] at h1
    rw [List.getElem?_append_left (by rw [← l.len]; exact c)] at h2
    exact l.at_ i a y h1 h2
  · rw [List.getElem?_append_right (by omega)] at h1
    rw [List.getElem?_append_right (by rw [← l.len]; omega), ← l.len] at h2
    exact l2.at_ _ a y h1 h2
/-- the i-th -/
theorem LstG.get {i : Nat} {v : V} (l : LstG f K H es xs) (h : (es.map V.ref)[i]? = some v) : ∃ e x, v = .ref e ∧ es[i]? = some e ∧ xs[i]? = some x ∧ Tp K H e (f x) := by
  rw [List.getElem?_map] at h
  cases he : es[i]? with
  | none =>
    rw [he] at h
    cases h
  | some e =>
    rw [he] at h
    cases h
    have hi := (List.getElem?_eq_some_iff.mp he).1
    have hx : xs[i]? = some (xs[i]'(by rw [← l.len]; exact hi)) := List.getElem?_eq_getElem _
    exact ⟨e, _, rfl, rfl, hx, l.at_ i e _ he hx⟩
theorem LstG.known {N : Nat} {a l : Addr} {R : Hp} (t : LstG f K H es xs) (d : Deal N H a l) (m : ∀ b o, b ≠ a → b ≠ l → H b = some o → R b = some o) : LstG f K R es xs := ⟨t.len, fun i e x h1 h2 => tp_known (t.at_ i e x h1 h2) d m⟩
end
/-- ints -/
def iL (ns : List Int) : List V := ns.map V.int
end Own

namespace PySem
namespace OwXword
open PySem.W PySem.Calls PyProof.Rows PySem.HandSPX PySem.OwX
/-! ### the text of __init__, for one field -/
def iA (p1 p2 : Pos) : Arguments := { posonlyargs := [], args := [{ arg := "self", annotation := none, pos := p1 }, { arg := "word", annotation := none, pos := p2 }], vararg := none, kwonlyargs := [], kw_defaults := [], kwarg := none, defaults := [] }
def iS : Scope := { kind := .function, names := [(PySem.Str.ofString "self", .local), (PySem.Str.ofString "word", .local), (PySem.Str.ofString "__class__", .free), (PySem.Str.ofString "super", .globalImplicit)], isGenerator := false, isCoroutine := false, more := [] }
def sSup (msg : Str) (p0 p1 p2 p3 p4 p5 : Pos) : Stmt := .Expr (.Call (.Attribute (.Call (.Name "super" p0) [] [] p1) "__init__" p2) [.Constant (.str msg) 0 p3] [] p4) p5
def sStore (q1 q2 q3 q4 : Pos) : Stmt := .Assign [.Attribute (.Name "self" q1) "word" q2] (.Name "word" q3) q4
/-- what the written part says of such a class at C, over the one at M, and of its __init__ at fI -/
structure OexT (P : Program) (K : Frag) (C M fI : Addr) : Prop where
  cls : ∃ nm q N bs sn sub ab col dd k0 k1 k2 k3 k5, K.lookup C = some (excClassObj nm q C N bs (.ref M :: exT) true sn sub ab col dd k0 k1 k2 k3 k5 "Exception.__new__")
  sa : findIn K (.ref C) "__setattr__" = some (some (.builtin "object.__setattr__"))
  ga : findIn K (.ref C) "__getattribute__" = some (some (.builtin "BaseException.__getattribute__"))
  gg : findIn K (.ref C) "__getattr__" = some none
  noN : findIn K (.ref C) "word" = some none
  iC : findIn K (.ref C) "__init__" = some (some (.ref fI))
  tC : typeIn K (.ref fI) = some (.type "function")
  kC : keepIn K (.ref C) = true
  exC : subIn K (.ref C) (.type "BaseException") = some true
  exE : subIn K (.ref C) (.type "Exception") = some true
  tyC : typeIn K (.ref C) = some (.type "type")
  hdC : hasDictIn K C = true
  te : exmOne K (.ref C) (.ref C) = some true
  sI : alongIn K "__init__" (.ref M :: exT) = some (some (.builtin "Exception.__init__"))
  op : nsIn K cStatics "thirdparty.any" = some none
  sup : nsIn K mainGlobals "super" = some none
  top : (P.main.scope.names.lookup ("super" : Str)).isSome = false
  fn : ∃ (qual : Str) (oc : Value) (od : Option Addr) (doc pm : Value) (an : Option Addr) (cda cc : Addr) (ct : Value) (osl : Array (Option Value)) (msg : Str) (p1 p2 r0 r1 r2 r3 r4 r5 q1 q2 q3 q4 : Pos) (ccl cl : Value) (cdd cld : Option Addr) (ccs csl : Array (Option Value)) (vs : Array Value) (tf : Tok),
    K.lookup fI = some ⟨oc, od, .func (ksFn "__init__" qual (iA p1 p2) [sSup msg r0 r1 r2 r3 r4 r5, sStore q1 q2 q3 q4] iS .none .none doc pm an (.ref cda) ct cc), osl⟩ ∧ codeIn K (.ref cda) qual = true ∧
      K.lookup cda = some ⟨ccl, cdd, .fields vs, ccs⟩ ∧ vs[2]? = some (.str P.main.file tf) ∧ K.lookup cc = some ⟨cl, cld, .cell (some (.ref C)), csl⟩ ∧
      (∀ env : Env, ∃ pl : Sem Bool, eval (.Call (.Attribute (.Call (.Name "super" r0) [] [] r1) "__init__" r2) [.Constant (.str msg) 0 r3] [] r4) env = (do
        let ov ← attributeBase (.Call (.Name "super" r0) [] [] r1) "__init__" env (eval (.Call (.Name "super" r0) [] [] r1) env)
        standAt r2.atName
        let (f, first) ← holding [ov] (getMethod ov "__init__" pl)
        callWith r4 f first (backTo r4 (starEach [.Constant (.str msg) 0 r3] env)) [])) ∧
      (∀ env : Env, swapsWith (.Call (.Attribute (.Call (.Name "super" r0) [] [] r1) "__init__" r2) [.Constant (.str msg) 0 r3] [] r4) none r5.line env = pure false) ∧
      (∀ env : Env, swapsWith (.Name "word" q3) (some (.Attribute (.Name "self" q1) "word" q2)) q4.line env = pure false)
/-- what __init__ leaves of a fresh exception at x -/
structure InitEnd (h h' : Heap) (x C dx t1 : Addr) (v : Value) : Prop where
  keep : ∀ b o, b ≠ x → h.get? b = some o → h'.get? b = some o
  obj : h'.get? x = some { cls := .ref C, dict := some dx, data := .fields #[.ref t1, .none, .none, .none, .bool false, .none] }
  dbig : h.objs.size ≤ dx
  dne : dx ≠ x
  ns : h'.Ns1 dx (fun y => if y = "word" then some v else none)
section
variable {prog : Program} {w : World} {A : Around} {E : Value → Shared → Prop} {R : Result → Shared → Prop} {s : Shared} {K : Frag} {mg mb : Str → Option Value} {C M fI : Addr}
theorem inv_init (T : OexT prog K C M fI) {x t0 : Addr} {v : Value} (X : K.In s.heap) (hlim : s.heap.NoLimit) (hg : s.heap.Ns mainGlobals mg) (hb : s.heap.Ns builtinsNs mb) (hbb : ∀ y : Str, y ≠ "__name__" → mb y = bootBuiltins y)
    (hx : s.heap.get? x = some (excO C t0)) (hnx : K.lookup x = none) (hroom : A.depth < recursionLimit)
    (hq : ∀ h' tk dx t1, InitEnd s.heap h' x C dx t1 v → R (.ok (.ret .none)) { s with heap := h', toks := tk }) :
    codeAny (model prog w) A (.call (.ref fI) ⟨[.ref x, v], []⟩) R s := by
  obtain ⟨qual, oc, od, doc, pm, an, cda, cc, ct, osl, msg, p1, p2, r0, r1, r2, r3, r4, r5, q1, q2, q3, q4, ccl, cl, cdd, cld, ccs, csl, vs, tf, ho, hcd, hcda, hvs, hcc, hev, hsw, hsw2⟩ := T.fn
  obtain ⟨nm, q, N, bs, sn, sub, ab, col, dd, k0, k1, k2, k3, k5, hC⟩ := T.cls
  have hcl : clsIn K C = some { name := nm, bases := bs, mro := .ref C :: .ref M :: exT, ns := N, qualname := q, hasDict := true, slotNames := sn, subclasses := sub, abstract := ab, collection := col, hasDel := false } := by unfold clsIn; rw [hC] <;> rfl
  refine ks_codeAny_call_defAt (fd := ksFn "__init__" qual (iA p1 p2) [sSup msg r0 r1 r2 r3 r4 r5, sStore q1 q2 q3 q4] iS .none .none doc pm an (.ref cda) ct cc) (body := [sSup msg r0 r1 r2 r3 r4 r5, sStore q1 q2 q3 q4]) (binds := [("self", .ref x), ("word", v)])
    hroom (X _ _ ho) rfl hlim (codeRec_of X hcd) rfl (BindsTo.of_eq (by first | rfl | with_unfolding_all rfl)) (show ∀ y ∈ iS.names, y.2 ≠ .cell by decide +kernel) (by simp only [List.mem_cons, List.not_mem_nil, or_false]; rintro y (rfl | rfl) <;> rfl) (fun h1 hns hk => ?_) rfl rfl rfl
  have X1 : K.In h1 := X.keeps hk
  have hx1 := hk _ _ hx
  have hD1 : h1.get? C = some (excClassObj nm q C N bs (.ref M :: exT) true sn sub ab col dd k0 k1 k2 k3 k5 "Exception.__new__") := X1 _ _ hC
  have hxC : x ≠ C := fun e => by
    rw [e, hD1] at hx1
    cases hx1
  have hmC : Looks (model prog w) h1 (isSubtype (.ref C) (.ref C)) true := looks_mroIn X1 (OwX.mro2_has hcl rfl (by simp))
  have hmg : mg "super" = none := mg_none_of X hg T.sup
  generalize hen : callEnv (ksFn "__init__" qual (iA p1 p2) [sSup msg r0 r1 r2 r3 r4 r5, sStore q1 q2 q3 q4] iS .none .none doc pm an (.ref cda) ct cc) s.heap.objs.size fI = en
  have en1 : en.scope = iS := by rw [← hen] <;> rfl
  have en2 : en.func = some fI := by rw [← hen] <;> rfl
  have en3 : en.code = .ref cda := by rw [← hen] <;> rfl
  have en4 : en.globals = mainGlobals := by rw [← hen] <;> rfl
  have en5 : en.builtins = builtinsNs := by rw [← hen] <;> rfl
  have en6 : en.cells = [(PySem.Str.ofString "__class__", cc)] := by rw [← hen] <;> rfl
  have en7 : en.locals = s.heap.objs.size := by rw [← hen] <;> rfl
  have kd : ∀ y : Str, en.kindOf y = iS.names.lookup y := fun y => by
    show en.scope.names.lookup y = _
    rw [en1]
  obtain ⟨pl, hev1⟩ := hev en
  -- super()
  refine ks_wpAt_execs_cons (ks_wpAt_Expr_any (ks_wpAt_MethodCall (pl := pl) (ks_wpAt_super_base (hks := by rw [kd]; decide +kernel) (hkc := by rw [kd]; decide +kernel) (hat := by decide) (hfu := en2) (hf := X1 _ _ ho) (hfd := rfl) (hp := rfl) (hco := en3) (hcc := X1 _ _ hcda) (hoc := rfl) (hvs := hvs) (hfile := by simp) (htop := T.top) ?_) hev1) (by unfold interactive; rw [en1]; rfl) (hsw en))
  have kf : en.scope.kind = .function := by rw [en1] <;> rfl
  refine ks_loadName_global kf (by rw [kd]; decide +kernel) (loadGlobal_builtin (by rw [en4]; exact hg.keeps hk) hmg (by rw [en5]; exact hb.keeps hk) ((hbb _ (by decide +kernel)).trans (by decide +kernel)) ⟨rfl, ?_⟩)
  refine wpAny_loadName_free kf (by rw [kd]; decide +kernel) (by rw [en6]; rfl) ⟨_, X1 _ _ hcc, rfl⟩ ?_
  refine wpAny_loadName_local (v := .ref x) kf (show en.kindOf "self" = some .local by rw [kd]; decide +kernel) (by rw [en7]; exact hns) (by rfl) ?_
  refine ks_wpAny_isType_cls hD1 rfl ⟨rfl, ?_⟩
  refine ks_wpAny_call_super hD1 rfl hx1 rfl (fun c e => by cases e) hmC (fun h2 hso k2 => ?_)
  have X2 : K.In h2 := X1.keeps k2
  have hx2 := k2 _ _ hx1
  have I2 : InstAt h2 x (excO C t0) C none := ⟨hx2, rfl, rfl, trivial⟩
  refine ESX.getMethod_super hso (looks_opaque X2 T.op) (l₀ := .ref C :: .ref M :: exT) (l := .ref M :: exT) ?_ (by simp [List.dropWhile_cons]) X2 T.sI hxC (by decide) (I2.type.andThen (looks_subIn X2 T.exE)) ?_
  · exact (looks_clsIn X2 hcl).andThen .now
  refine ESX.callWith_bound (x := x) (first := []) ?_
  refine Calls.spliced_cons (Calls.Constant_str (pos := r3) (k := 0) (Calls.spliced_nil ?_))
  have k3 : ∀ b o, h2.get? b = some o → (h2.push (ESX.bw x)).get? b = some o := fun b o e => Heap.get?_push_of_some _ e
  refine ⟨Heap.get?_push_size _ rfl, ?_⟩
  refine ESX.call_bw (C := C) (e := x) (t0 := t0) (k3 _ _ (k2 _ _ hD1)) (k3 _ _ hx2) (Heap.get?_push_size _ rfl) (by rw [sizeLine_eq]; show (1 : Nat) ≤ 16777216; decide) (fun h4 t1 k4 hx4 => ?_)
  have kk : ∀ b o, b ≠ x → s.heap.get? b = some o → h4.get? b = some o := fun b o hb e => k4 b o hb (k3 b o (k2 b o (hk b o e)))
  have X4 : K.In h4 := fun a o e => kk a o (fun z => by
    rw [z, hnx] at e
    cases e) (X a o e)
  have hns4 : h4.Ns en.locals (fun y => [(PySem.Str.ofString "self", Value.ref x), (PySem.Str.ofString "word", v)].reverse.lookup y) := by
    rw [en7]
    obtain ⟨o, es, ep, e1, e2⟩ := id hns
    exact ⟨o, es, ep, k4 _ _ (fun z => absurd (Heap.lt_size hx) (by rw [← z]; exact Nat.lt_irrefl _)) (k3 _ _ (k2 _ _ e1)), e2⟩
  show wpAt _ _ _ _ _ _ _
  refine wpAt_of_wpAny ?_
  -- self."word" = "word"
  show wpAny _ _ (execs _ _) _ _ _
  refine wpAny_execs_cons (plainObj_wpAny_Assign_Attribute ?_ (hsw2 en))
  refine wpAny_Name (wpAny_loadName_local (v := v) kf (by rw [kd]; decide +kernel) hns4 (by rfl) ?_) (by decide)
  refine wpAny_Name (wpAny_loadName_local (v := .ref x) kf (by rw [kd]; decide +kernel) hns4 (by rfl) ?_) (by decide)
  refine set_plain X4 (ox := excO C t1) (od := none) ⟨hx4, rfl, rfl, trivial⟩ T.sa ?_
  refine OwX.osa_two_new X4 hx4 hcl rfl rfl T.noN (fun h5 tk5 dx k5 dn dne hx5 hn5 => ?_)
  show wpAny _ _ (execs _ _) _ _ _
  refine wpAny_execs_nil (hq h5 tk5 dx t1 ⟨fun b o hb e => k5 b o hb (kk b o hb e), hx5, ?_, dne, hn5⟩)
  obtain ⟨o, es, ep, e1, e2⟩ := hns4
  rw [en7] at e1
  exact Nat.le_trans (Nat.le_of_lt (Heap.lt_size e1)) dn
/-- a made error: what stands at e (its dict at d) -/
structure Made (h h' : Heap) (e C d : Addr) (v : Value) : Prop where
  keep : ∀ b o, h.get? b = some o → h'.get? b = some o
  new : h.objs.size ≤ e
  obj : ∃ oe vs, h'.get? e = some oe ∧ oe.cls = .ref C ∧ oe.dict = some d ∧ oe.data = .fields vs ∧ vs[1]? = some .none
  dbig : h.objs.size ≤ d
  dne : d ≠ e
  ns : h'.Ns1 d (fun y => if y = "word" then some v else none)
theorem inv_made (T : OexT prog K C M fI) {v : Value} (X : K.In s.heap) (hlim : s.heap.NoLimit) (hg : s.heap.Ns mainGlobals mg) (hb : s.heap.Ns builtinsNs mb) (hbb : ∀ y : Str, y ≠ "__name__" → mb y = bootBuiltins y) (hroom : A.depth + 1 < recursionLimit)
    (hq : ∀ h' tk e d, Made s.heap h' e C d v → R (.ok (.ret (.ref e))) { s with heap := h', toks := tk }) :
    codeAny (model prog w) A (.call (.ref C) ⟨[v], []⟩) R s := by
  obtain ⟨nm, q, N, bs, sn, sub, ab, col, dd, k0, k1, k2, k3, k5, hC⟩ := T.cls
  obtain ⟨hp, g, dr, tk, os⟩ := s
  have k : ∀ b o, hp.get? b = some o → ((hp.push (kdv_tup [v])).push (excO C hp.objs.size)).get? b = some o := fun b o e => Heap.get?_push_of_some _ (Heap.get?_push_of_some _ e)
  have hget : ((hp.push (kdv_tup [v])).push (excO C hp.objs.size)).get? (hp.objs.size + 1) = some (excO C hp.objs.size) := by heap_get
  have hnx : K.lookup (hp.objs.size + 1) = none := by
    cases e : K.lookup (hp.objs.size + 1) with
    | none => rfl
    | some o =>
      have z : hp.get? (hp.objs.size + 1) = some o := X _ _ e
      exact absurd (Nat.lt_of_succ_lt (Heap.lt_size z)) (Nat.lt_irrefl _)
  refine call_own F.excBase_Exception (bm := .ref M :: exT) (fun Y => by rw [List.contains_cons]; rfl) (X _ _ hC) (looks_findIn X T.iC) (fun self => bind_fn X self T.tC) (by rw [sizeLine_eq]; show (1 : Nat) ≤ 16777216; decide) ?_
  refine inv_init (s := ⟨(hp.push (kdv_tup [v])).push (excO C hp.objs.size), g, dr, tk, os⟩) T (X.keeps k) (hlim.keeps k) (hg.keeps k) (hb.keeps k) hbb hget hnx ?_ fun h' tk' dx t1 ⟨k', hx, dn, dne, hns⟩ => ?_
  · show A.depth + 1 < recursionLimit
    exact hroom
  · have old : ∀ b o, hp.get? b = some o → h'.get? b = some o := fun b o e => k' b o (Nat.ne_of_lt (Nat.lt_succ_of_lt (Heap.lt_size e))) (k b o e)
    have z : hp.objs.size + 1 + 1 ≤ dx := by
      have q := dn
      rw [Heap.size_push, Heap.size_push] at q
      exact q
    exact ⟨rfl, hq h' tk' (hp.objs.size + 1) dx ⟨old, Nat.le_succ _, ⟨_, _, hx, rfl, rfl, rfl, rfl⟩, Nat.le_trans (Nat.le_trans (Nat.le_succ _) (Nat.le_succ _)) z, dne, hns⟩⟩
end
end OwXword
end PySem

namespace Own
open PySem PySem.Spec PyProof.Rows L2
theorem relO_word {v : V} {v' : Value} (r : RelV v v') (f : Str) : RelO (List.lookup f [(("word" : Str), v)]) (if f = "word" then some v' else none) := by
  by_cases hw : f = "word"
  · subst hw
    rw [if_pos rfl]
    have q : List.lookup ("word" : Str) [(("word" : Str), v)] = some v := by simp [List.lookup]
    rw [q]
    exact r
  · rw [if_neg hw]
    have qw : (f == ("word" : Str)) = false := by simpa using hw
    have q2 : List.lookup f [(("word" : Str), v)] = none := by simp [List.lookup, qw]
    rw [q2]
    trivial
/-- C(e) -/
def tMk_word (C : Addr) (ta : TA) : L2.St → Hp → XK → Prop := fun σ H Q => ta σ H fun vs H1 => ∃ v, vs = [v] ∧ ∀ d, H1 d = none → Q (.ref C) (some d) (upd H1 d (.xd [(("word" : Str), v)]))
section
variable {X : Cx} {C M fI : Addr} {nm : Str}
theorem pmk_word {a : Expr} {ta : TA} {p pos : Pos} {k : Nat} (T : PySem.OwXword.OexT X.prog X.K C M fI) (gC : X.mg nm = some (.ref C)) (hr : Room k X.A) (ha : PA X [a] ta) (hg : Gl X nm) (hdb : (nm == ("__debug__" : Str)) = false := by decide)
    (he : starEach (a :: []) X.env = (false, eval a X.env) :: starEach [] X.env := by rfl) (hpl : (backTo pos (starEach [] X.env)).any (·.1) = false := by rfl) :
    PMk X (.Call (.Name nm p) [a] [] pos) (tMk_word C ta) := by
  intro pins s σ H Q I h
  refine wpAny_Call_Name_kw (ld_glob I hg gC ?_ hdb)
  refine PySem.W.callWith_K (h₀ := X.base) I.ok.mod.kin T.kC (thn (ha.run pos pins s σ H _ I h) fun us s1 hh => ?_) he hpl
  obtain ⟨vs, H1, I1, r1, v, ev, q1⟩ := hh
  subst ev
  refine ⟨I1.kIn, ?_⟩
  cases r1 with
  | cons rv rn =>
    rename_i v' us'
    cases rn
    show wpAny _ _ (call (.ref C) [v']) _ _ _
    have hlim := I1.nolimit
    obtain ⟨mb, hb, hbb⟩ := I1.ok.mod.blt
    have hg1 := I1.ok.mod.glob.keeps I1.bk
    have hb1 := hb.keeps I1.bk
    obtain ⟨hp, g, dr, tk, os⟩ := s1
    refine wpAny_call (PySem.OwXword.inv_made T I1.kIn hlim hg1 hb1 hbb (by have := hr.dp; omega) fun h' tk' e d M => ?_)
    show MkP X pins σ Q (.ref e) ⟨h', g, dr, tk', os⟩
    obtain ⟨oe, fv, hoe, hc, hd, hdat, h1⟩ := M.obj
    have hns := M.ns
    obtain ⟨G', g1, g2⟩ := restrict h' fun b => decide (b ≠ e)
    have gk : ∀ b, b ≠ e → G'.get? b = h'.get? b := fun b hb => g1 b (decide_eq_true hb)
    have ge : G'.get? e = none := g2 e (by simp)
    have old : ∀ b o, hp.get? b = some o → G'.get? b = some o := fun b o q => (gk b (Nat.ne_of_lt (Nat.lt_of_lt_of_le (Heap.lt_size q) M.new))).trans (M.keep b o q)
    have ob : ObjOk X.prog X.w (upd H1 d (.xd [(("word" : Str), v)])) G' d (.xd [(("word" : Str), v)]) :=
      ⟨_, hns.at (fun o q => (gk d M.dne).trans q), fun f => relO_word rv f⟩
    have J : Inv X pins σ (upd H1 d (.xd [(("word" : Str), v)])) ⟨G', g, dr, tk', os⟩ := I1.laid (t' := tk') old M.dbig ob
    refine ⟨e, oe, fv, ⟨G', g, dr, tk', os⟩, _, .ref C, some d, rfl, J, fun b o q => ?_, ge, hoe, ⟨hc, hd⟩, hdat, h1, ?_, rfl, I1.bare, raises_own T.exC T.tyC, q1 d (I1.hok.fresh M.dbig)⟩
    · by_cases hb : b = e
      · have q' : G'.get? b = some o := q
        rw [hb, ge] at q'
        cases q'
      · exact (gk b hb).symm.trans q
    · rw [upd_ne (Ne.symm M.dne)]
      exact I1.hok.fresh M.new
/-- e."word" of the exception that the suite holds -/
def tBy_word (C : Addr) (a : Addr) (cls : Value) (d : Option Addr) (te : TE) : TE := fun σ H Q => te σ H fun x H1 => x = .ref a ∧ cls = .ref C ∧ ∃ (dd : Addr) (v : V), d = some dd ∧ H1 dd = some (.xd [(("word" : Str), v)]) ∧ Q v H1
theorem pe_by_word {a : Addr} {oe : Obj} {cls : Value} {d : Option Addr} {pn : List (Addr × Obj)} {e : Expr} {te : TE} {pos : Pos} (T : PySem.OwXword.OexT X.prog X.K C M fI) (hz : Zc cls d oe) (hf : ∃ vs, oe.data = .fields vs) (he : PE (X.suite a ((a, oe) :: pn)) e te)
    (hb : attributeBase e "word" X.env (eval e X.env) = eval e X.env := by rfl) :
    PE (X.suite a ((a, oe) :: pn)) (.Attribute e "word" pos) (tBy_word C a cls d te) := by
  refine ⟨fun pins s σ H Q I h => ?_⟩
  refine attr_of hb (thn (he.run pins s σ H _ I h) fun u s1 hh => ?_)
  obtain ⟨x, H1, I1, rx, ex, ec, dd, v, ed, ea, q⟩ := hh
  subst ex
  obtain rfl : u = Value.ref a := rx
  subst ec
  subst ed
  obtain ⟨ha, _⟩ := I1.pin (a, oe) (List.mem_append_left _ List.mem_cons_self)
  obtain ⟨vs, hd⟩ := hf
  have hx : ObjOk X.prog X.w H1 s1.heap dd (.xd [(("word" : Str), v)]) := I1.hok dd _ ea
  obtain ⟨mA, hns, hr⟩ := hx
  obtain ⟨od, ho, hl⟩ := lookIn_ns hns
  have l : List.lookup ("word" : Str) [(("word" : Str), v)] = some v := by simp [List.lookup]
  obtain ⟨u, hu, ru⟩ := RelO.some_of (v := v) (o := mA "word") (by rw [← l]; exact hr "word")
  have J : PySem.W.InstAt s1.heap a oe C (some od) := ⟨ha, hz.1, by unfold PySem.W.notCls; rw [hd] <;> rfl, by rw [hz.2]; exact ho⟩
  exact PySem.HandSPX.exc_get I1.kIn J T.ga T.gg T.exC (PySem.W.findObj_own T.hdC T.noN rfl (by rw [hl, hu])) (handed_of ru) ⟨v, H1, I1.tok _, ru, q⟩
end
end Own

/-! Errors with a word; texts in tables; a box of draws: one list [cell, mix, count]. -/
namespace Own
open PySem PySem.Spec PyProof.Rows L2 Evl
open He (ga ma fAd eqO eqO_ok ba)
section
variable {file : Str} {K : PySem.W.Frag}
/-- one of word -/
def exWord (nm base msg qual : Str) (p1 p2 r0 r1 r2 r3 r4 r5 q1 q2 q3 q4 : Pos) : ExD := ⟨nm, base, "word", qual, PySem.OwXword.iA p1 p2, [PySem.OwXword.sSup msg r0 r1 r2 r3 r4 r5, PySem.OwXword.sStore q1 q2 q3 q4], PySem.OwXword.iS⟩
theorem oex_word {P : Program} {nm base msg qual : Str} {p1 p2 r0 r1 r2 r3 r4 r5 q1 q2 q3 q4 : Pos} (st : statB K = true) (c : (exWord nm base msg qual p1 p2 r0 r1 r2 r3 r4 r5 q1 q2 q3 q4).ok P.main.file K = true ∧ exW K nm = (exWord nm base msg qual p1 p2 r0 r1 r2 r3 r4 r5 q1 q2 q3 q4).val)
    (top : (P.main.scope.names.lookup ("super" : Str)).isSome = false)
    (h1 : ∀ env : Env, ∃ pl : Sem Bool, eval (.Call (.Attribute (.Call (.Name "super" r0) [] [] r1) "__init__" r2) [.Constant (.str msg) 0 r3] [] r4) env = (do
        let ov ← attributeBase (.Call (.Name "super" r0) [] [] r1) "__init__" env (eval (.Call (.Name "super" r0) [] [] r1) env)
        standAt r2.atName
        let (f, first) ← holding [ov] (getMethod ov "__init__" pl)
        callWith r4 f first (backTo r4 (starEach [.Constant (.str msg) 0 r3] env)) []))
    (h2 : ∀ env : Env, swapsWith (.Call (.Attribute (.Call (.Name "super" r0) [] [] r1) "__init__" r2) [.Constant (.str msg) 0 r3] [] r4) none r5.line env = pure false)
    (h3 : ∀ env : Env, swapsWith (.Name "word" q3) (some (.Attribute (.Name "self" q1) "word" q2)) q4.line env = pure false) :
    PySem.OwXword.OexT P K (ga K nm) (ga K base) (ma K (ga K nm) "__init__") := by
  obtain ⟨c, w⟩ := c
  obtain ⟨c1, c⟩ := ba c
  obtain ⟨c2, c⟩ := ba c
  obtain ⟨c3, c⟩ := ba c
  obtain ⟨c4, c⟩ := ba c
  obtain ⟨c5, c⟩ := ba c
  obtain ⟨c6, c⟩ := ba c
  obtain ⟨c7, c⟩ := ba c
  obtain ⟨c8, c⟩ := ba c
  obtain ⟨c9, c⟩ := ba c
  obtain ⟨c10, c⟩ := ba c
  obtain ⟨c11, c⟩ := ba c
  obtain ⟨c12, c⟩ := ba c
  obtain ⟨c13, c⟩ := ba c
  obtain ⟨c14, c⟩ := ba c
  obtain ⟨c15, c16⟩ := ba c
  refine ⟨clsB_ok c1, eqO_ok c3, eqO_ok c4, eqO_ok c5, eqO_ok c6, eqO_ok c7, of_decide_eq_true c8, c9, of_decide_eq_true c10, of_decide_eq_true c11, of_decide_eq_true c12, c13, of_decide_eq_true c14, eqO_ok c15, eqO_ok (ba st).2, eqO_ok c16, top, ?_⟩
  obtain ⟨oc, od, doc, pm, an, cda, cc, ct, osl, ccl, cl, cdd, cld, ccs, csl, vs, tf, g1, g2, g3, g4, g5⟩ := initB_ok c2 w
  exact ⟨_, oc, od, doc, pm, an, cda, cc, ct, osl, msg, p1, p2, r0, r1, r2, r3, r4, r5, q1, q2, q3, q4, ccl, cl, cdd, cld, ccs, csl, vs, tf, g1, g2, g3, g4, g5, h1, h2, h3⟩
end
/-! ### a text in a table of the module -/
theorem nsIn_in {K : PySem.W.Frag} {P : Params} {a : Addr} {ks : List Str} (h : He.dicW K a = some (He.keysIn P ks)) (z : Str) : ∃ r, PySem.W.nsIn K a z = some r ∧ r.isSome = decide (z ∈ ks) := by
  unfold He.dicW at h
  unfold PySem.W.nsIn
  cases q : K.lookup a with
  | none =>
    rw [q] at h
    cases h
  | some o =>
    obtain ⟨oc, od, dt, osl⟩ := o
    rw [q] at h
    cases dt with
    | dict es n =>
      have h1 : es.toList.map He.keyOf = He.keysIn P ks := by
        cases oc with
        | type c =>
          cases od with
          | none =>
            have h1 : (match decide (c = "dict") && (osl.isEmpty && !(a == sysModules)) with
              | true => some (es.toList.map He.keyOf)
              | false => none) = some (He.keysIn P ks) := h
            cases z : decide (c = "dict") && (osl.isEmpty && !(a == sysModules)) with
            | false =>
              rw [z] at h1
              cases h1
            | true =>
              rw [z] at h1
              exact Option.some.inj h1
          | some d => cases h
        | _ => cases h
      have key : ∀ (l : List DictEntry) (ks : List Str), l.map He.keyOf = He.keysIn P ks → (l.any (·.refKey)) = false ∧ ((l.find? (·.key.isStr z)).isSome = decide (z ∈ ks)) := by
        intro l
        induction l with
        | nil =>
          intro ks h
          cases ks with
          | nil => exact ⟨rfl, rfl⟩
          | cons k r => cases h
        | cons e r ih =>
          intro ks h
          cases ks with
          | nil => cases h
          | cons k ks =>
            have h1 : He.keyOf e :: r.map He.keyOf = some (k, PyData.keyHash P k) :: He.keysIn P ks := h
            injection h1 with h2 h3
            obtain ⟨i1, i2⟩ := ih ks h3
            unfold He.keyOf at h2
            split at h2
            · rename_i x t q
              have h4 := Option.some.inj h2
              obtain ⟨rfl, h6⟩ := Prod.mk.inj h4
              refine ⟨?_, ?_⟩
              · rw [List.any_cons, i1, Bool.or_false]
                unfold DictEntry.refKey
                rw [q]
              · rw [List.find?_cons]
                by_cases c : x = z
                · subst c
                  have : e.key.isStr x = true := by rw [q]; simp [Value.isStr]
                  rw [this]
                  simp
                · have : e.key.isStr z = false := by rw [q]; simp [Value.isStr, c]
                  rw [this]
                  show (List.find? _ r).isSome = _
                  rw [i2]
                  simp [Ne.symm c]
            · cases h2
      obtain ⟨k1, k2⟩ := key _ _ h1
      show ∃ r, (match es.toList.find? (·.key.isStr z) with
        | some e => some (some e.val)
        | none => if es.toList.any (·.refKey) then none else some none) = some r ∧ _
      cases c : es.toList.find? (·.key.isStr z) with
      | none =>
        rw [c] at k2
        rw [k1]
        exact ⟨none, rfl, k2⟩
      | some e =>
        rw [c] at k2
        exact ⟨some e.val, rfl, k2⟩
    | _ =>
      cases oc with
      | type c =>
        cases od with
        | none => cases h
        | some d => cases h
      | _ => cases h
/-- the keys of a table -/
def DicN (K : PySem.W.Frag) (w : World) (mg : Str → Option Value) (x : Str) (ks : List Str) : Prop := ∃ a es n, mg x = some (.ref a) ∧ KDict K w a es n ∧ ∀ z, ∃ r, PySem.W.nsIn K a z = some r ∧ r.isSome = decide (z ∈ ks)
theorem SaysK.dicN {file : Str} {k : KoD} {fa : List He.Fa} {fn : List He.DefD} {ex : List ExD} {w : World} {K : PySem.W.Frag} {h : Heap} {mg : Str → Option Value} (c : SaysK file k fa fn ex w K) (X : K.In h) (G : h.Ns mainGlobals mg) (i : Nat) {x : Str} {kvs : List (Str × Dat)} (e : k.dics[i]? = some (x, kvs) := by rfl) : DicN K w mg x (kvs.map (·.1)) := by
  obtain ⟨c1, c2⟩ := ba (List.all_eq_true.mp (ba (ba c.ko).2).1 (x, kvs) (List.mem_of_getElem? e))
  have t1 : k.dics.map (fun d => He.dicW K (ga K d.1)) = k.dics.map fun d => some (He.keysIn w.params (d.2.map (·.1))) := congrArg (fun z : AlK => z.2.2) c
  have t2 : (k.dics.map fun d => He.dicW K (ga K d.1))[i]? = (k.dics.map fun d => some (He.keysIn w.params (d.2.map (·.1))))[i]? := by rw [t1]
  rw [List.getElem?_map, List.getElem?_map, e] at t2
  obtain ⟨es, n, D⟩ := He.dicW_ok (Option.some.inj t2)
  exact ⟨_, es, n, PySem.W.mg_of X G (eqO_ok c1), D, nsIn_in (Option.some.inj t2)⟩
/-- e in NAME -/
def tInKD (ks : List Str) (te : TE) : TE := fun σ H Q => te σ H fun y H1 => ∃ z, y = .str z ∧ Q (.bl (decide (z ∈ ks))) H1
section
variable {X : Cx} {K : PySem.W.Frag} {w : World}
theorem pe_inKD {x : Str} {ks : List Str} {e : Expr} {te : TE} {p pos : Pos} (D : DicN K w X.mg x ks) (hg : Gl X x) (he : PE X e te) (hK : X.K = K := by rfl) (hw : X.w = w := by rfl)
    (hm : behindInMarks .In (.Name x p) = false := by rfl) (hd : (x == ("__debug__" : Str)) = false := by decide) : PE X (.Compare e [.In] [.Name x p] pos) (tInKD ks te) := by
  subst hK hw
  obtain ⟨a, es, n, ha, hv, hn⟩ := D
  refine ⟨fun pins s σ H Q I h => ?_⟩
  refine wpAny_Compare1 (thn (he.run pins s σ H _ I h) fun v s1 hh => ?_) hm
  obtain ⟨y, H1, I1, ry, z, rfl, q⟩ := hh
  refine ld_glob I1 hg ha ?_ hd
  obtain ⟨r, hr, hs⟩ := hn z
  exact op_in_kd hv pins _ σ H1 (.str z) (.ref a) v (.ref a) Q I1 ry rfl ⟨z, r, rfl, rfl, hr, by rw [hs]; exact q⟩
/-! ### texts -/
/-- a written text ahead: a token is out -/
theorem pa_strT {c : Str} {j : Nat} {cpos : Pos} {es : List Expr} {ta : TA} (h : PAT X es ta)
    (hs : starEach (.Constant (.str c) j cpos :: es) X.env = (false, eval (.Constant (.str c) j cpos) X.env) :: starEach es X.env := by rfl) : PA X (.Constant (.str c) j cpos :: es) (tCons (tC (.str c)) ta) := by
  refine ⟨fun pos pins s σ H Q I q => ?_⟩
  rw [hs]
  show wpAny _ _ (spliced ((false, eval (.Constant (.str c) j cpos) X.env) :: backTo pos (starEach es X.env))) _ _ s
  refine Calls.spliced_cons (Calls.Constant_str ?_)
  exact thn (h pos pins { s with toks := s.toks + 1 } σ H _ (Nat.succ_le_succ (Nat.zero_le _)) (I.tok _) q) fun us s2 ⟨xs, H2, I2, r2, q2⟩ => ⟨.str c :: xs, H2, I2, .cons ⟨s.toks, rfl⟩ r2, q2⟩
end
/-! ### a box of draws -/
structure Bx (a : Addr) (R H : Hp) : Prop where
  ex : Ex R H
  na : R a = none
  box : ∃ c m k : Int, H a = some (.lst [.int c, .int m, .int k]) ∧ 0 ≤ c
section
variable {a p : Addr} {R R1 H H1 : Hp} {o o' : HO} {K : PySem.W.Frag} {xs : List V} {Q : VK}
theorem Bx.ne (w : Bx a R H) : H a ≠ none := by
  obtain ⟨c, m, k, h, _⟩ := w.box
  rw [h]
  exact fun z => by cases z
theorem Bx.keep (w : Bx a R H) (e : Ex H H1) : Bx a R H1 := by
  obtain ⟨c, m, k, h, h0⟩ := w.box
  exact ⟨w.ex.trans e, w.na, c, m, k, e _ _ h, h0⟩
theorem Bx.new (w : Bx a R H) (h : H p = none) : Bx a (upd R p o) (upd H p o) := by
  have h1 : p ≠ a := fun e => w.ne (e ▸ h)
  obtain ⟨c, m, k, hb, h0⟩ := w.box
  refine ⟨fun b u e => ?_, by rw [upd_ne h1.symm]; exact w.na, c, m, k, by rw [upd_ne h1.symm]; exact hb, h0⟩
  by_cases hb : b = p
  · subst hb
    rw [upd_same] at e ⊢
    exact e
  · rw [upd_ne hb] at e ⊢
    exact w.ex b u e
theorem Bx.mut (w : Bx a R H) (h : R p = some o) : Bx a (upd R p o') (upd H p o') := by
  have h1 : p ≠ a := fun e => by
    rw [e, w.na] at h
    cases h
  obtain ⟨c, m, k, hb, h0⟩ := w.box
  refine ⟨fun b u e => ?_, by rw [upd_ne h1.symm]; exact w.na, c, m, k, by rw [upd_ne h1.symm]; exact hb, h0⟩
  by_cases hb : b = p
  · subst hb
    rw [upd_same] at e ⊢
    exact e
  · rw [upd_ne hb] at e ⊢
    exact w.ex b u e
theorem Bx.free (w : Bx a R H) (h : H p = none) : R p = none := fresh_back w.ex h
theorem Bx.more (w : Bx a R H) (e : Ex H H1) : ∃ R1, Ex R R1 ∧ Bx a R1 H1 ∧ ∀ b o, b ≠ a → H1 b = some o → R1 b = some o := by
  have k := w.keep e
  refine ⟨fun b => if b = a then none else H1 b, fun b o h => ?_, ⟨fun b o h => ?_, if_pos rfl, k.box⟩, fun b o h1 h => ?_⟩
  · have h1 : b ≠ a := fun z => by
      rw [z, w.na] at h
      cases h
    show (if b = a then none else H1 b) = some o
    rw [if_neg h1]
    exact e _ _ (w.ex _ _ h)
  · have h' : (if b = a then none else H1 b) = some o := h
    by_cases z : b = a
    · rw [if_pos z] at h'
      cases h'
    · rw [if_neg z] at h'
      exact h'
  · show (if b = a then none else H1 b) = some o
    rw [if_neg h1]
    exact h
theorem Bx.weak (w : Bx a R1 H) (e : Ex R R1) : Bx a R H := ⟨e.trans w.ex, fresh_back e w.na, w.box⟩
/-- the box itself is changed -/
theorem Bx.set (w : Bx a R H) {c m k : Int} (h : 0 ≤ c) : Bx a R (upd H a (.lst [.int c, .int m, .int k])) := by
  refine ⟨fun b u e => ?_, w.na, c, m, k, upd_same, h⟩
  have h1 : b ≠ a := fun z => by
    rw [z, w.na] at e
    cases e
  rw [upd_ne h1]
  exact w.ex b u e
theorem Bx.know (w : Bx a R H) (m : ∀ b o, b ≠ a → H b = some o → R b = some o) (h : Tp K H p xs) : Tp K R p xs := by
  rcases h with ⟨o, h1, h2⟩ | h
  · refine .inl ⟨o, h1, m _ _ (fun e => ?_) h2⟩
    obtain ⟨c, mm, k, hb, _⟩ := w.box
    rw [e, hb] at h2
    cases h2
  · exact .inr h
theorem Bx.tp (w : Bx a R H) (e : Ex H H1) (h : Tp K H1 p xs) : ∃ R1, Ex R R1 ∧ Bx a R1 H1 ∧ Tp K R1 p xs := by
  obtain ⟨R1, e1, w1, m⟩ := w.more e
  exact ⟨R1, e1, w1, w1.know m h⟩
/-- a new tuple, and what was known stays -/
def RetB (K : PySem.W.Frag) (a : Addr) (R : Hp) (xs : List V) (Q : VK) : Prop := ∀ p R1 H1, Ex R R1 → Bx a R1 H1 → Tp K R1 p xs → Q (.ref p) H1
theorem RetB.ret (k : RetB K a R xs Q) (w : Bx a R H) : RetU K xs H Q := fun p H2 e h => by
  obtain ⟨R1, e1, w1, t⟩ := w.tp e h
  exact k p R1 H2 e1 w1 t
end
section
variable {a : Addr} {R H : Hp} {J : It} {n : Nat} {G : Hp → Prop} {Y : Nat → Hp → V → Hp → Prop} {g : TG} {tt : TT} {te : TE} {vs : List Nat} {σ : L2.St}
/-- a comprehension within which draws are made -/
theorem lcB {Q : Addr → Hp → Prop} (S : Nat → List V → Hp → Prop) (w : Walk J n G Y) (hw : Bx a R H) (h0 : ∀ D, R D = none → S 0 [] (upd R D (.lst []))) (hG : ∀ Rd H', Ex R Rd → Bx a Rd H' → G H') (lenb : ∀ i acc Rd, S i acc Rd → acc.length ≤ 40000)
    (turn : ∀ i D acc Rd H1 x H2, i < n → Ex R Rd → Bx a Rd H1 → R D = none → Rd D = some (.lst acc) → S i acc Rd → Y i H1 x H2 → ∀ (K1 : VK) (K0 : Hp → Prop),
      (∀ y R5 H5, Ex R R5 → Bx a R5 H5 → R5 D = some (.lst acc) → S (i + 1) (acc ++ [y]) (upd R5 D (.lst (acc ++ [y]))) → K1 y H5) → (∀ R5 H5, Ex R R5 → Bx a R5 H5 → R5 D = some (.lst acc) → S (i + 1) acc R5 → K0 H5) →
      g x (wipe σ vs) H2 fun σ2 H3 => wipe σ2 vs = wipe σ vs ∧ tt σ2 H3 fun b H4 => if b = true then te σ2 H4 K1 else K0 H4)
    (q : ∀ D acc Rd H2, R D = none → Ex R Rd → Bx a Rd H2 → Rd D = some (.lst acc) → S n acc Rd → Q D H2) :
    ∀ D, H D = none → ∃ W : Nat → Nat → Hp → Prop, (∃ m, W 0 m (upd H D (.lst []))) ∧ ∀ i m H, W i m H →
      (J.stop i H ∧ Q D H) ∨ (J.go i H ∧ ∃ Nx : Hp → Prop, (∀ H', Nx H' → ∃ m', m' < m ∧ W (i + 1) m' H') ∧ ∀ x H', J.yld i H x H' → g x (wipe σ vs) H' fun σ2 H2 => wipe σ2 vs = wipe σ vs ∧ tt σ2 H2 fun b H3 =>
        if b = true then te σ2 H3 fun y H4 => ∃ acc, H4 D = some (.lst acc) ∧ acc.length < sizeLine ∧ Nx (upd H4 D (.lst (acc ++ [y]))) else Nx H3) := fun D hD => by
  have hR := hw.free hD
  refine lc_it w (fun i H' => ∃ acc Rd, Ex R Rd ∧ Bx a Rd H' ∧ Rd D = some (.lst acc) ∧ S i acc Rd) ⟨[], _, Ex.new hR, hw.new hD, upd_same, h0 D hR⟩ (fun i H' _ p => ?_) (fun i x H1 H2 hi p y => ?_) (fun H' p => ?_)
  · obtain ⟨acc, Rd, p1, p2, _⟩ := p
    exact hG Rd H' p1 p2
  · obtain ⟨acc, Rd, p1, p2, p3, p4⟩ := p
    refine turn i D acc Rd H1 x H2 hi p1 p2 hR p3 p4 y _ _ (fun z R5 H5 e5 w5 k5 s5 => ?_) (fun R5 H5 e5 w5 k5 s5 => ?_)
    · exact ⟨acc, w5.ex _ _ k5, sz_lt (by have := lenb _ _ _ p4; omega), acc ++ [z], _, ex_side e5 hR, w5.mut k5, upd_same, s5⟩
    · exact ⟨acc, R5, e5, w5, k5, s5⟩
  · obtain ⟨acc, Rd, p1, p2, p3, p4⟩ := p
    exact q D acc Rd H' hR p1 p2 p3 p4
end
/-- the promise of a new box; of a drawn number below a bound; of one of some things, that stand in a list or tuple -/
def spBox (K : PySem.W.Frag) : Sp := fun vs H Q _ => ∃ (a : Addr) (ns : List Int) (k : Nat), vs = [.ref a, .int (k : Int)] ∧ SqL K H a (ns.map V.int) ∧ k ≤ 1000 ∧ ns.length ≤ 1000 ∧ ∀ (d : Addr) (H' : Hp), Bx d H H' → Q (.ref d) H'
def spTake : Sp := fun vs H Q _ => ∃ (a : Addr) (R : Hp) (b : Int), vs = [.ref a, .int b] ∧ Bx a R H ∧ 0 < b ∧ b.natAbs.log2 < 9000 ∧ ∀ (r : Int) (H' : Hp), 0 ≤ r → r < b → Bx a R H' → Q (.int r) H'
def spPick (K : PySem.W.Frag) : Sp := fun vs H Q _ => ∃ (a p : Addr) (b : Bool) (R : Hp) (xs : List V), vs = [.ref a, .ref p] ∧ Bx a R H ∧ SqB K b R p xs ∧ xs ≠ [] ∧ xs.length ≤ 100 ∧ ∀ (i : Nat) (v : V) (H' : Hp), xs[i]? = some v → Bx a R H' → Q v H'
end Own

/-! Sorts; tuples of tuples; some rules with K named apart. -/
namespace Own
open PySem PySem.Spec PyProof.Rows L2 Evl
section
variable {X : Cx} {K : PySem.W.Frag}
theorem kc_all (hc : X.calm = true) (h : X.K = K := by rfl) : CallR X (.builtin "all") (rAll K) := by subst h; exact cr_all hc
theorem kc_any (hc : X.calm = true) (h : X.K = K := by rfl) : CallR X (.builtin "any") (rAny K) := by subst h; exact cr_any hc
theorem kc_sortedI (h : X.K = K := by rfl) : CallR X (.builtin "sorted") (rSortedI K) := by subst h; exact cr_sortedI
/-- xs[i], a list or a tuple -/
def rIxB (K : PySem.W.Frag) : R2 := fun x y H Q => ∃ (p : Addr) (b : Bool) (xs : List V) (i : Int) (z : V), x = .ref p ∧ y = .int i ∧ SqB K b H p xs ∧ atI xs i = some z ∧ Q z H
theorem kx_seqB (h : X.K = K := by rfl) : IxR X (rIxB K) := by
  subst h
  intro value slice pins s σ H x y v u Q I rx ry h hs
  obtain ⟨p, b, xs, i, z, rfl, rfl, hq, he, q⟩ := h
  cases b with
  | false => exact ix_list value slice pins s σ H (.ref p) (.int i) v u Q I rx ry ⟨p, xs, i, z, rfl, rfl, hq, he, q⟩ hs
  | true => exact ix_tup value slice pins s σ H (.ref p) (.int i) v u Q I rx ry ⟨p, xs, i, z, rfl, rfl, hq, he, q⟩ hs
/-- // where the long way is not taken -/
def CDivP (i j : Int) : Prop := 0 < j ∧ Builtin.divisionGoesByPylong i j = false
theorem op_fdivP : OpR X (binaryOp .FloorDiv) (rI CDivP fun i j => .int (i / j)) := opI fun i j _ _ _ _ _ hc q => by
  have h1 : (0 : Int) < j := hc.1
  exact floordiv_int (by omega) (by rw [Int.fdiv_eq_ediv_of_nonneg i (by omega)]; exact q) (.inl hc.2)
end
/-! ### sorts -/
inductive Srt | two | twice | three
  deriving DecidableEq
namespace Srt
def s : Srt → Str | two => "two" | twice => "twice" | three => "three"
/-- letters -/
def q : Srt → Nat | two => 2 | twice => 2 | three => 3
def step : Srt → Nat | two => 2 | twice => 8 | three => 4
/-- what divides the weights -/
def by_ : Srt → Nat | two => 2 | twice => 4 | three => 3
def bound : Srt → Nat | two => 24 | twice => 24 | three => 16
def pieces : Srt → List (List Int)
  | two => [[1, 1]]
  | twice => [[1, 0, 0, 0, 0, 1, 1, 1], [0, 1, 0, 0, 1, 0, 1, 1], [0, 0, 1, 0, 1, 1, 0, 1], [0, 0, 0, 1, 1, 1, 1, 0]]
  | three => [[1, 0, 1, 1], [0, 1, 1, 2]]
theorem step_pos (s : Srt) : 0 < s.step ∧ s.step ≤ 8 := by cases s <;> decide
theorem q_le (s : Srt) : 2 ≤ s.q ∧ s.q ≤ 3 := by cases s <;> decide
theorem bound_le (s : Srt) : s.bound ≤ 24 := by cases s <;> decide
end Srt
def sorts : List Srt := [.two, .twice, .three]
def dI (n : Int) : Dat := .int n
def tI (ns : List Int) : Dat := .tup (ns.map .int)
def tII (nss : List (List Int)) : Dat := .tup (nss.map tI)
def dSTEPS : List (Str × Dat) := [("two", .int 2), ("twice", .int 8), ("three", .int 4)]
def dLETTERS : List (Str × Dat) := [("two", .int 2), ("twice", .int 2), ("three", .int 3)]
def dPIECES : List (Str × Dat) := [("two", tII (Srt.pieces .two)), ("twice", tII (Srt.pieces .twice)), ("three", tII (Srt.pieces .three))]
namespace Srt
theorem inSTEPS (s : Srt) : (s.s, Dat.int s.step) ∈ dSTEPS := by cases s <;> simp [dSTEPS, Srt.s, step]
theorem inLETTERS (s : Srt) : (s.s, Dat.int s.q) ∈ dLETTERS := by cases s <;> simp [dLETTERS, Srt.s, q]
theorem inPIECES (s : Srt) : (s.s, tII s.pieces) ∈ dPIECES := by cases s <;> simp [dPIECES, Srt.s]
theorem inKeys (s : Srt) : s.s ∈ dSTEPS.map (·.1) := List.mem_map.mpr ⟨_, s.inSTEPS, rfl⟩
end Srt
/-- a tuple of tuples of ints -/
def TpR (K : PySem.W.Frag) (H : Hp) (p : Addr) (rows : List (List Int)) : Prop := ∃ es : List Addr, Tp K H p (es.map V.ref) ∧ LstG iL K H es rows
theorem TpR.ex {K : PySem.W.Frag} {H H1 : Hp} {p : Addr} {rows : List (List Int)} (t : TpR K H p rows) (e : Ex H H1) : TpR K H1 p rows := by
  obtain ⟨es, h1, h2⟩ := t
  exact ⟨es, h1.ex e, h2.ex e⟩
theorem TpR.mut {K : PySem.W.Frag} {H : Hp} {p wr : Addr} {rows : List (List Int)} {ys zs : List V} (t : TpR K H p rows) (hw : H wr = some (.lst ys)) : TpR K (upd H wr (.lst zs)) p rows := by
  obtain ⟨es, h1, h2⟩ := t
  exact ⟨es, h1.mut hw, h2.mut hw⟩
theorem allDat_ints {K : PySem.W.Frag} : ∀ {nss : List (List Int)} {xs : List V}, AllDat K (nss.map tI) xs → ∃ es : List Addr, xs = es.map V.ref ∧ ∀ H : Hp, LstG iL K H es nss
  | [], xs, h => by
    unfold AllDat at h
    exact ⟨[], h, fun H => LstG.nil⟩
  | ns :: r, xs, h => by
    unfold AllDat at h
    obtain ⟨x, r', rfl, g1, g2⟩ := h
    obtain ⟨p, rfl, tp⟩ := IsDat.ints g1
    obtain ⟨es, rfl, l⟩ := allDat_ints g2
    exact ⟨p :: es, rfl, fun H => (LstG.nil.push (x := ns) (f := iL) (tp H)).app (l H)⟩
theorem IsDat.rows {K : PySem.W.Frag} {nss : List (List Int)} {v : V} (h : IsDat K (tII nss) v) : ∃ p, v = .ref p ∧ ∀ H : Hp, TpR K H p nss := by
  unfold tII IsDat at h
  obtain ⟨p, xs, rfl, h1, h2⟩ := h
  obtain ⟨es, rfl, l⟩ := allDat_ints h2
  exact ⟨p, rfl, fun H => ⟨es, h1 H, l H⟩⟩
theorem TpR.sq {K : PySem.W.Frag} {H : Hp} {p : Addr} {rows : List (List Int)} (t : TpR K H p rows) : ∃ es : List Addr, es.length = rows.length ∧ SqT K H p (es.map V.ref) ∧ LstG iL K H es rows := by
  obtain ⟨es, h1, h2⟩ := t
  exact ⟨es, h2.len, h1.sq, h2⟩
end Own

namespace K45
open PySem PySem.Spec PyProof.Rows L2 Evl Own
/-! ### the text -/
def topS (i : Nat) : Stmt := PySem.Challenge.pw_ownmirrors_k45_whole_how_many_are_the_sh.main.body.getD i (.Pass ⟨0, 0, 0, 0⟩)
abbrev s_power_of : Stmt := topS 4
theorem sc_power_of : FnScope ["base", "times", "found", "square", "rest"] ["base", "times"] (defScope s_power_of) := ⟨rfl, rfl, rfl, by decide +kernel, rfl, by decide +kernel, by decide +kernel⟩
abbrev s_is_sort : Stmt := topS 9
theorem sc_is_sort : FnScope ["value"] ["value"] (defScope s_is_sort) := ⟨rfl, rfl, rfl, by decide +kernel, rfl, by decide +kernel, by decide +kernel⟩
abbrev s_has_codes : Stmt := topS 10
theorem sc_has_codes : FnScope ["sort", "length"] ["sort", "length"] (defScope s_has_codes) := ⟨rfl, rfl, rfl, by decide +kernel, rfl, by decide +kernel, by decide +kernel⟩
abbrev s_product_from : Stmt := topS 11
theorem sc_product_from : FnScope ["base", "first", "last", "found", "at", "turn"] ["base", "first", "last"] (defScope s_product_from) := ⟨rfl, rfl, rfl, by decide +kernel, rfl, by decide +kernel, by decide +kernel⟩
abbrev s_how_many : Stmt := topS 12
theorem sc_how_many : FnScope ["sort", "length", "half"] ["sort", "length"] (defScope s_how_many) := ⟨rfl, rfl, rfl, by decide +kernel, rfl, by decide +kernel, by decide +kernel⟩
abbrev s_some_own : Stmt := topS 13
theorem sc_some_own : FnScope ["sort", "length", "size", "rows", "ahead", "row"] ["sort", "length"] (defScope s_some_own) := ⟨rfl, rfl, rfl, by decide +kernel, rfl, by decide +kernel, by decide +kernel⟩
abbrev s_gauss : Stmt := topS 15
theorem sc_gauss : FnScope ["q", "n", "k", "top", "bottom", "high", "low", "turn"] ["q", "n", "k"] (defScope s_gauss) := ⟨rfl, rfl, rfl, by decide +kernel, rfl, by decide +kernel, by decide +kernel⟩
abbrev s_so_far : Stmt := topS 16
theorem sc_so_far : FnScope ["sort", "length", "k", "half"] ["sort", "length", "k"] (defScope s_so_far) := ⟨rfl, rfl, rfl, by decide +kernel, rfl, by decide +kernel, by decide +kernel⟩
abbrev s__law_box : Stmt := topS 18
theorem sc__law_box : FnScope ["script", "k", "cell"] ["script", "k"] (defScope s__law_box) := ⟨rfl, rfl, rfl, by decide +kernel, rfl, by decide +kernel, by decide +kernel⟩
abbrev s__law_take : Stmt := topS 19
theorem sc__law_take : FnScope ["box", "many", "digit", "raw"] ["box", "many"] (defScope s__law_take) := ⟨rfl, rfl, rfl, by decide +kernel, rfl, by decide +kernel, by decide +kernel⟩
abbrev s__law_pick : Stmt := topS 20
theorem sc__law_pick : FnScope ["box", "some"] ["box", "some"] (defScope s__law_pick) := ⟨rfl, rfl, rfl, by decide +kernel, rfl, by decide +kernel, by decide +kernel⟩
abbrev s__law_plain : Stmt := topS 21
theorem sc__law_plain : FnScope ["value", "one"] ["value"] (defScope s__law_plain) := ⟨rfl, rfl, rfl, by decide +kernel, rfl, by decide +kernel, by decide +kernel⟩
abbrev s__law_first : Stmt := topS 22
theorem sc__law_first : FnScope ["row", "place"] ["row"] (defScope s__law_first) := ⟨rfl, rfl, rfl, by decide +kernel, rfl, by decide +kernel, by decide +kernel⟩
abbrev s__law_worth : Stmt := topS 23
theorem sc__law_worth : FnScope ["letters", "one", "other", "at"] ["letters", "one", "other"] (defScope s__law_worth) := ⟨rfl, rfl, rfl, by decide +kernel, rfl, by decide +kernel, by decide +kernel⟩
abbrev s__law_weight : Stmt := topS 24
theorem sc__law_weight : FnScope ["row"] ["row"] (defScope s__law_weight) := ⟨rfl, rfl, rfl, by decide +kernel, rfl, by decide +kernel, by decide +kernel⟩
abbrev s__law_by : Stmt := topS 25
theorem sc__law_by : FnScope ["sort"] ["sort"] (defScope s__law_by) := ⟨rfl, rfl, rfl, by decide +kernel, rfl, by decide +kernel, by decide +kernel⟩
abbrev s__law_letters : Stmt := topS 26
theorem sc__law_letters : FnScope ["sort"] ["sort"] (defScope s__law_letters) := ⟨rfl, rfl, rfl, by decide +kernel, rfl, by decide +kernel, by decide +kernel⟩
abbrev s__law_room : Stmt := topS 27
theorem sc__law_room : FnScope ["box", "sort", "lengths"] ["box", "sort"] (defScope s__law_room) := ⟨rfl, rfl, rfl, by decide +kernel, rfl, by decide +kernel, by decide +kernel⟩
abbrev s__law_inside : Stmt := topS 28
theorem sc__law_inside : FnScope ["letters", "rows", "at", "other"] ["letters", "rows"] (defScope s__law_inside) := ⟨rfl, rfl, rfl, by decide +kernel, rfl, by decide +kernel, by decide +kernel⟩
abbrev s__law_is_one : Stmt := topS 29
theorem sc__law_is_one : FnScope ["sort", "length", "value", "letters", "rows", "places", "row", "one", "at", "place", "other"] ["sort", "length", "value"] (defScope s__law_is_one) := ⟨rfl, rfl, rfl, by decide +kernel, rfl, by decide +kernel, by decide +kernel⟩
abbrev s__law_no_sort : Stmt := topS 30
theorem sc__law_no_sort : FnScope ["box", "word", "changed"] ["box"] (defScope s__law_no_sort) := ⟨rfl, rfl, rfl, by decide +kernel, rfl, by decide +kernel, by decide +kernel⟩
abbrev s__law_is_number : Stmt := topS 31
theorem sc__law_is_number : FnScope ["value"] ["value"] (defScope s__law_is_number) := ⟨rfl, rfl, rfl, by decide +kernel, rfl, by decide +kernel, by decide +kernel⟩
abbrev s__law_rooms : Stmt := topS 32
theorem sc__law_rooms : FnScope ["q", "n", "row", "turn", "longer", "power", "k"] ["q", "n"] (defScope s__law_rooms) := ⟨rfl, rfl, rfl, by decide +kernel, rfl, by decide +kernel, by decide +kernel⟩
abbrev s__law_shells : Stmt := topS 33
theorem sc__law_shells : FnScope ["sort", "length", "half", "letters", "rooms", "found", "factor", "step", "k"] ["sort", "length"] (defScope s__law_shells) := ⟨rfl, rfl, rfl, by decide +kernel, rfl, by decide +kernel, by decide +kernel⟩
abbrev s__law_far : Stmt := topS 34
theorem sc__law_far : FnScope ["sort", "length", "k", "e"] ["sort", "length", "k"] (defScope s__law_far) := ⟨rfl, rfl, rfl, by decide +kernel, rfl, by decide +kernel, by decide +kernel⟩
abbrev s__law_product : Stmt := topS 35
theorem sc__law_product : FnScope ["q", "n", "k", "told", "top", "bottom", "power", "high", "turn"] ["q", "n", "k"] (defScope s__law_product) := ⟨rfl, rfl, rfl, by decide +kernel, rfl, by decide +kernel, by decide +kernel⟩
abbrev s__law_shell_by_shell : Stmt := topS 36
theorem sc__law_shell_by_shell : FnScope ["box", "sort", "length", "shells", "k", "told", "behind"] ["box", "sort", "length"] (defScope s__law_shell_by_shell) := ⟨rfl, rfl, rfl, by decide +kernel, rfl, by decide +kernel, by decide +kernel⟩
abbrev s_law : Stmt := topS 37
theorem sc_law : FnScope ["script", "k", "box", "sort", "length", "code", "told", "q", "n"] ["script"] (defScope s_law) := ⟨rfl, rfl, rfl, by decide +kernel, rfl, by decide +kernel, by decide +kernel⟩
/-- what the module leaves to the built-ins -/
structure Zs (mg : Str → Option Value) : Prop where
  abs : mg "abs" = none
  all : mg "all" = none
  bool : mg "bool" = none
  int : mg "int" = none
  isinstance : mg "isinstance" = none
  len : mg "len" = none
  range : mg "range" = none
  sorted : mg "sorted" = none
  str : mg "str" = none
  sum : mg "sum" = none
  tuple : mg "tuple" = none
structure Cs (K : PySem.W.Frag) (w : World) (mg : Str → Option Value) : Prop where
  STEPS : DicK K w mg "STEPS" dSTEPS
  STEPSn : DicN K w mg "STEPS" (dSTEPS.map (·.1))
  LETTERS : DicK K w mg "LETTERS" dLETTERS
  PIECES : DicK K w mg "PIECES" dPIECES
end K45

namespace K45
open PySem Own
/-! ### rooms of each dimension: plain laws -/
/-- how many rooms of k dimensions there are in one of n -/
def gb (q : Int) : Nat → Nat → Int
  | _, 0 => 1
  | 0, _ + 1 => 0
  | n + 1, k + 1 => gb q n k + q ^ (k + 1) * gb q n (k + 1)
def topF (q : Int) (n : Nat) : Nat → Int
  | 0 => 1
  | k + 1 => topF q n k * (q ^ (n - k) - 1)
def botF (q : Int) : Nat → Int
  | 0 => 1
  | k + 1 => botF q k * (q ^ (k + 1) - 1)
theorem gb_over (q : Int) : ∀ n k, n < k → gb q n k = 0
  | 0, k + 1, _ => rfl
  | n + 1, k + 1, h => by
    show gb q n k + q ^ (k + 1) * gb q n (k + 1) = 0
    rw [gb_over q n k (by omega), gb_over q n (k + 1) (by omega), Int.mul_zero, Int.add_zero]
theorem topF_succ (q : Int) (n : Nat) : ∀ k, topF q (n + 1) (k + 1) = (q ^ (n + 1) - 1) * topF q n k
  | 0 => by
    show 1 * (q ^ (n + 1 - 0) - 1) = _ * 1
    rw [Int.one_mul, Int.mul_one, Nat.sub_zero]
  | k + 1 => by
    show topF q (n + 1) (k + 1) * (q ^ (n + 1 - (k + 1)) - 1) = _ * (topF q n k * (q ^ (n - k) - 1))
    rw [topF_succ q n k, Nat.add_sub_add_right, Int.mul_assoc]
theorem gb_bot (q : Int) : ∀ n k, k ≤ n → gb q n k * botF q k = topF q n k
  | n, 0, _ => by
    cases n <;> rfl
  | n + 1, k + 1, h => by
    have i1 := gb_bot q n k (by omega)
    have i2 : gb q n (k + 1) * botF q (k + 1) = topF q n (k + 1) := by
      by_cases c : k + 1 ≤ n
      · exact gb_bot q n (k + 1) c
      · have e : n = k := by omega
        subst e
        rw [gb_over q n (n + 1) (by omega), Int.zero_mul]
        show 0 = topF q n n * (q ^ (n - n) - 1)
        rw [Nat.sub_self, Int.pow_zero, Int.sub_self, Int.mul_zero]
    show (gb q n k + q ^ (k + 1) * gb q n (k + 1)) * (botF q k * (q ^ (k + 1) - 1)) = _
    have e1 : (gb q n k + q ^ (k + 1) * gb q n (k + 1)) * (botF q k * (q ^ (k + 1) - 1)) = (gb q n k * botF q k) * (q ^ (k + 1) - 1) + q ^ (k + 1) * (gb q n (k + 1) * (botF q k * (q ^ (k + 1) - 1))) := by
      rw [Int.add_mul, Int.mul_assoc (gb q n k), Int.mul_assoc (q ^ (k + 1))]
    have i2' : gb q n (k + 1) * (botF q k * (q ^ (k + 1) - 1)) = topF q n (k + 1) := i2
    rw [e1, i1, i2', topF_succ]
    show topF q n k * (q ^ (k + 1) - 1) + q ^ (k + 1) * (topF q n k * (q ^ (n - k) - 1)) = _
    have e2 : q ^ (n + 1) = q ^ (k + 1) * q ^ (n - k) := by rw [← Int.pow_add]; congr 1; omega
    rw [e2]
    generalize topF q n k = t
    generalize q ^ (k + 1) = x
    generalize q ^ (n - k) = y
    grind
theorem gb_nn {q : Int} (h : 0 ≤ q) : ∀ n k, 0 ≤ gb q n k
  | n, 0 => by
    cases n <;> exact Int.one_nonneg
  | 0, k + 1 => Int.le_refl 0
  | n + 1, k + 1 => Int.add_nonneg (gb_nn h n k) (Int.mul_nonneg (Int.pow_nonneg h) (gb_nn h n (k + 1)))
theorem botF_pos {q : Int} (h : 2 ≤ q) : ∀ k, 0 < botF q k
  | 0 => Int.one_pos
  | k + 1 => by
    refine Int.mul_pos (botF_pos h k) ?_
    have : q ^ (k + 1) = q ^ k * q := Int.pow_succ ..
    have p : 0 < q ^ k := Int.pow_pos (by omega)
    have : q ^ k * 2 ≤ q ^ k * q := Int.mul_le_mul_of_nonneg_left h (by omega)
    omega
theorem top_div {q : Int} (h : 2 ≤ q) {n k : Nat} (hk : k ≤ n) : topF q n k / botF q k = gb q n k := by
  rw [← gb_bot q n k hk]
  exact Int.mul_ediv_cancel _ (by have := botF_pos h k; omega)
/-- a bound -/
theorem gb_le {q : Nat} (h : 1 ≤ q) : ∀ n k, k ≤ n → (gb (q : Int) n k).natAbs ≤ 2 ^ n * q ^ (k * (n - k))
  | n, 0, _ => by
    have : gb (q : Int) n 0 = 1 := by cases n <;> rfl
    rw [this, Nat.zero_mul, Nat.pow_zero, Nat.mul_one]
    exact Nat.one_le_two_pow
  | n + 1, k + 1, hk => by
    show (gb (q : Int) n k + (q : Int) ^ (k + 1) * gb (q : Int) n (k + 1)).natAbs ≤ _
    refine Nat.le_trans (Int.natAbs_add_le _ _) ?_
    have i1 := gb_le h n k (by omega)
    have m1 : 2 ^ n * q ^ (k * (n - k)) ≤ 2 ^ n * q ^ ((k + 1) * (n - k)) := Nat.mul_le_mul_left _ (Nat.pow_le_pow_right h (Nat.mul_le_mul_right _ (by omega)))
    have i2 : ((q : Int) ^ (k + 1) * gb (q : Int) n (k + 1)).natAbs ≤ 2 ^ n * q ^ ((k + 1) * (n - k)) := by
      by_cases c : k + 1 ≤ n
      · have i3 := gb_le h n (k + 1) c
        rw [Int.natAbs_mul, Int.natAbs_pow, Int.natAbs_natCast]
        refine Nat.le_trans (Nat.mul_le_mul_left _ i3) ?_
        rw [Nat.mul_left_comm, ← Nat.pow_add]
        have : k + 1 + (k + 1) * (n - (k + 1)) = (k + 1) * (n - k) := by
          have : n - k = (n - (k + 1)) + 1 := by omega
          rw [this, Nat.mul_add, Nat.mul_one, Nat.add_comm]
        rw [this]
        exact Nat.le_refl _
      · rw [gb_over _ n (k + 1) (by omega), Int.mul_zero]
        exact Nat.zero_le _
    have e : (k + 1) * (n + 1 - (k + 1)) = (k + 1) * (n - k) := by rw [Nat.add_sub_add_right]
    rw [e, Nat.pow_succ, Nat.mul_right_comm]
    generalize 2 ^ n * q ^ ((k + 1) * (n - k)) = z at *
    omega
theorem bot_le {q : Nat} (h : 1 ≤ q) : ∀ k, (botF (q : Int) k).natAbs ≤ q ^ (k * (k + 1) / 2)
  | 0 => by
    show (1 : Int).natAbs ≤ q ^ 0
    simp
  | k + 1 => by
    show (botF (q : Int) k * ((q : Int) ^ (k + 1) - 1)).natAbs ≤ _
    rw [Int.natAbs_mul]
    have i1 := bot_le h k
    have i2 : ((q : Int) ^ (k + 1) - 1).natAbs ≤ q ^ (k + 1) := by
      have : (1 : Int) ≤ ((q ^ (k + 1) : Nat) : Int) := Int.ofNat_le.mpr (Nat.pow_pos (by omega))
      rw [Int.natCast_pow] at this
      have e : (((q : Int) ^ (k + 1)).natAbs) = q ^ (k + 1) := by rw [Int.natAbs_pow, Int.natAbs_natCast]
      omega
    refine Nat.le_trans (Nat.mul_le_mul i1 i2) ?_
    rw [← Nat.pow_add]
    have : k * (k + 1) / 2 + (k + 1) = (k + 1) * (k + 1 + 1) / 2 := by
      have : (k + 1) * (k + 1 + 1) = k * (k + 1) + 2 * (k + 1) := by
        rw [Nat.add_mul, Nat.mul_add, Nat.mul_add]
        omega
      omega
    rw [this]
    exact Nat.le_refl _
theorem lg_le {x b : Nat} (h : x ≤ 2 ^ b) : x.log2 ≤ b := by
  by_cases e : x = 0
  · subst e
    have : (0 : Nat).log2 = 0 := by decide
    omega
  · have h1 := Nat.log2_self_le e
    have h2 := Nat.le_trans h1 h
    exact (Nat.pow_le_pow_iff_right (by decide)).mp h2
theorem q_pow {q m : Nat} (h : q ≤ 64) : q ^ m ≤ 2 ^ (6 * m) := by
  rw [Nat.pow_mul]
  exact Nat.pow_le_pow_left h m
theorem log_mul {x y : Nat} (hx : x ≠ 0) (hy : y ≠ 0) : (x * y).log2 ≤ x.log2 + y.log2 + 1 := by
  have h1 := (Nat.log2_lt hx).mp (Nat.lt_succ_self x.log2)
  have h2 := (Nat.log2_lt hy).mp (Nat.lt_succ_self y.log2)
  have h3 : x * y < 2 ^ (x.log2 + 1) * 2 ^ (y.log2 + 1) := Nat.mul_lt_mul'' h1 h2
  rw [← Nat.pow_add] at h3
  have := (Nat.log2_lt (Nat.mul_ne_zero hx hy)).mpr h3
  omega
theorem no_long {q : Nat} (q0 : 2 ≤ q) (q1 : q ≤ 64) {n k : Nat} (hn : n ≤ 61) (hk : k ≤ n) : Builtin.divisionGoesByPylong (topF (q : Int) n k) (botF (q : Int) k) = false := by
  by_cases c : (botF (q : Int) k).natAbs.log2 < 9000
  · exact PyProof.noPylong_of_log2 c
  · have b0 := botF_pos (q := (q : Int)) (by omega) k
    have bl : (botF (q : Int) k).natAbs.log2 ≤ 6 * (k * (k + 1) / 2) := lg_le (Nat.le_trans (bot_le (by omega) k) (q_pow q1))
    have k54 : 54 ≤ k := by
      refine Nat.le_of_not_lt fun z => ?_
      have : k * (k + 1) ≤ 53 * 54 := Nat.mul_le_mul (by omega) (by omega)
      omega
    have g := gb_le (q := q) (by omega) n k hk
    have km : k * (n - k) ≤ 61 * 7 := Nat.mul_le_mul (by omega) (by omega)
    have gl : (gb (q : Int) n k).natAbs.log2 ≤ n + 6 * (k * (n - k)) := by
      refine lg_le (Nat.le_trans g ?_)
      rw [Nat.pow_add]
      exact Nat.mul_le_mul_left _ (q_pow q1)
    have tl : (topF (q : Int) n k).natAbs.log2 ≤ (botF (q : Int) k).natAbs.log2 + 2700 := by
      rw [← gb_bot (q : Int) n k hk, Int.natAbs_mul]
      by_cases z : (gb (q : Int) n k).natAbs = 0
      · rw [z, Nat.zero_mul]
        have : (0 : Nat).log2 = 0 := by decide
        omega
      · have := log_mul z (show (botF (q : Int) k).natAbs ≠ 0 by omega)
        omega
    unfold Builtin.divisionGoesByPylong
    have yn : (botF (q : Int) k == 0) = false := beq_eq_false_iff_ne.mpr (by omega)
    simp only [yn]
    generalize (botF (q : Int) k).natAbs.log2 = y at tl c
    have : ¬ ((if (topF (q : Int) n k == 0) = true then 0 else (topF (q : Int) n k).natAbs.log2 / 30 + 1) > y / 30 + 1 + 150) := by
      split <;> omega
    simp only [Bool.false_eq_true, if_false, decide_eq_false this, Bool.and_false]
end K45

namespace K45
open PySem PySem.Spec PyProof.Rows L2 Evl Own
def spPower : Sp := fun vs H Q _ => ∃ (b : Int) (n : Nat), vs = [.int b, .int (n : Int)] ∧ 0 ≤ b ∧ b ≤ 64 ∧ n ≤ 100 ∧ Q (.int (b ^ n)) H
def spIsSort : Sp := fun vs H Q _ => ∃ z : Str, vs = [.str z] ∧ Q (.bl (decide (z ∈ dSTEPS.map (·.1)))) H
def spHas : Sp := fun vs H Q _ => ∃ (s : Srt) (n : Nat), vs = [.str s.s, .int (n : Int)] ∧ Q (.bl (decide (n % s.step = 0))) H
/-- the product of base ^ i + 1, k of them from i = a on -/
def prodF (b : Int) (a : Nat) : Nat → Int
  | 0 => 1
  | k + 1 => prodF b a k * (b ^ (a + k) + 1)
def spProd : Sp := fun vs H Q _ => ∃ (b : Int) (a : Nat) (l : Int), vs = [.int b, .int (a : Int), .int l] ∧ 0 ≤ b ∧ b ≤ 3 ∧ a ≤ 10 ∧ -5 ≤ l ∧ l ≤ 15 ∧ Q (.int (prodF b a (l + 1 - (a : Int)).toNat)) H
def howF (s : Srt) (n : Nat) : Int := if n % s.step = 0 then (match s with
  | .two => prodF 2 1 (n / 2 - 1)
  | .twice => prodF 2 0 (n / 2 - 1)
  | .three => prodF 3 0 (n / 2)) else 0
def spHow : Sp := fun vs H Q _ => ∃ (s : Srt) (n : Nat), vs = [.str s.s, .int (n : Int)] ∧ n ≤ 24 ∧ Q (.int (howF s n)) H
section
variable {P : Program} {w : World} {K : PySem.W.Frag} {mg : Str → Option Value} {base : Heap} {f : Addr} {fd : FuncData}
theorem pow_log {b : Int} {n : Nat} (h0 : 0 ≤ b) (h1 : b ≤ 64) (hn : n ≤ 101) : (b ^ n).natAbs.log2 < 700 := by
  have e : (b ^ n).natAbs = b.natAbs ^ n := Int.natAbs_pow b n
  rw [e]
  have h2 : b.natAbs ^ n ≤ 64 ^ n := Nat.pow_le_pow_left (by omega) n
  have h3 : 64 ^ n ≤ 64 ^ 101 := Nat.pow_le_pow_right (by decide) hn
  have h4 : (64 : Nat) ^ 101 < 2 ^ 700 := by decide +kernel
  by_cases z : b.natAbs ^ n = 0
  · rw [z]
    decide
  · exact (Nat.log2_lt z).mpr (Nat.lt_of_le_of_lt (Nat.le_trans h2 h3) h4)
theorem ok_power_of (F : FnP K "power_of" s_power_of f fd) (Z : Zs mg) : FnOk P w K mg base CX0 1 f fd ["base", "times"] spPower := by
  refine F.ok sc_power_of (fun vs H Q E h => ?_) (fun cdv A outer s H vs Q E hr h => ⟨_, PSs.nox (pss_cons (ps_par3 (i := 2) (j := 3) (l := 4) rfl sc_power_of.nd rfl rfl rfl (by decide) (by decide) (by decide) rfl rfl rfl (pa_cons pe_int (pa_cons (pv 0) (pa_cons (pv 1) pa_nil))) (by rfl))
  (pss_cons (ps_while PassesOwn.never (pt_cmpR op_gt (pv 4) pe_int (nomark _)) (pss_cons (ps_if (pt_cmpR op_eq (pe_op op_mod (pv 4) pe_int) pe_int (nomark _)) (pss_one (ps_set (i := 2) sc_power_of.nd rfl (by first | exact Or.inl rfl | exact Or.inr rfl) (pe_op op_mulW (pv 2) (pv 3)))) pss_nil)
  (pss_cons (ps_set (i := 4) sc_power_of.nd rfl (by first | exact Or.inl rfl | exact Or.inr rfl) (pe_op op_fdivW (pv 4) pe_int))
  (pss_one (ps_if (pt_cmpR op_gt (pv 4) pe_int (nomark _)) (pss_one (ps_set (i := 3) sc_power_of.nd rfl (by first | exact Or.inl rfl | exact Or.inr rfl) (pe_op op_mulW (pv 3) (pv 3)))) pss_nil)))))
  (pss_one (ps_ret (pv 2))))), ?_⟩)
  · obtain ⟨b, n, rfl, _⟩ := h
    rfl
  · obtain ⟨b, n, rfl, b0, b1, hn, k⟩ := h
    refine ⟨_, rfl, _, rfl, _, _, _, rfl, ?_⟩
    refine while_split (fun m σ H' => H' = H ∧ ∃ u v, u + v * m = n ∧ v ≤ 101 ∧ u ≤ 100 ∧ σ = [some (.int b), some (.int (n : Int)), some (.int (b ^ u)), some (.int (b ^ v)), some (.int (m : Int))]) (fun σ H' => H' = H ∧ ∃ v1 v2, σ = [some (.int b), some (.int (n : Int)), some (.int (b ^ n)), v1, v2]) ?_ ?_ ?_
    · refine ⟨n, rfl, 0, 1, by omega, by omega, by omega, ?_⟩
      rw [Int.pow_zero, Int.pow_one]
      rfl
    · rintro σ H' ⟨rfl, v1, v2, rfl⟩
      exact ⟨_, rfl, k⟩
    · rintro nx hnx m σ H' ⟨rfl, u, v, e, v1, u1, rfl⟩
      refine ⟨_, rfl, _, _, rfl, rfl, _, rfl, ?_⟩
      by_cases m0 : m = 0
      · subst m0
        rw [decide_eq_false (by omega)]
        have : u = n := by omega
        subst this
        exact iteF (hnx _ _ ⟨rfl, _, _, rfl⟩)
      · rw [decide_eq_true (show (0 : Int) < (m : Int) by omega)]
        have hdiv : m = 2 * (m / 2) + m % 2 := by omega
        have hv : v ≤ n := by
          have : v * 1 ≤ v * m := Nat.mul_le_mul_left v (by omega)
          omega
        refine iteT ⟨_, fun σ' H' h => h, ?_⟩
        refine if_join (fun σ' H2 => H2 = H' ∧ σ' = [some (.int b), some (.int (n : Int)), some (.int (b ^ (u + v * (m % 2)))), some (.int (b ^ v)), some (.int (m : Int))]) ?_ ?_
        · rintro σ' H2 ⟨rfl, rfl⟩
          have hd : ((m : Int) / 2) = ((m / 2 : Nat) : Int) := by omega
          have eq2 : u + v * (m % 2) + 2 * v * (m / 2) = n := by
            have : v * m = v * (m % 2) + 2 * v * (m / 2) := by
              conv => lhs; rw [hdiv]
              rw [Nat.mul_add, Nat.mul_comm 2 v, Nat.mul_assoc]
              omega
            omega
          refine ⟨_, rfl, _, _, rfl, rfl, ⟨by decide, by decide⟩, ?_⟩
          show gName 4 (V.int ((m : Int) / 2)) _ _ _
          rw [hd]
          dsimp only [gName]
          refine if_join (fun σ' H3 => H3 = H2 ∧ ∃ v', (u + v * (m % 2)) + v' * (m / 2) = n ∧ v' ≤ 101 ∧ σ' = [some (.int b), some (.int (n : Int)), some (.int (b ^ (u + v * (m % 2)))), some (.int (b ^ v')), some (.int ((m / 2 : Nat) : Int))]) ?_ ?_
          · rintro σ' H3 ⟨rfl, v', e', v1', rfl⟩
            exact ⟨m / 2, by omega, rfl, _, v', e', v1', by omega, rfl⟩
          · intro nx2 hn2
            refine ⟨_, rfl, _, _, rfl, rfl, _, rfl, ?_⟩
            by_cases h2 : 0 < m / 2
            · rw [decide_eq_true (show (0 : Int) < ((m / 2 : Nat) : Int) by omega)]
              have hv2 : 2 * v ≤ n := by
                have : 2 * v * 1 ≤ 2 * v * (m / 2) := Nat.mul_le_mul_left _ h2
                omega
              have l1 := pow_log b0 b1 (show v ≤ 101 by omega)
              refine iteT ⟨_, rfl, _, rfl, _, _, rfl, rfl, by show _ + _ < 1000000; omega, hn2 _ _ ⟨rfl, 2 * v, eq2, by omega, ?_⟩⟩
              have e : b ^ (2 * v) = b ^ v * b ^ v := by rw [Nat.two_mul, Int.pow_add]
              rw [e]
              rfl
            · rw [decide_eq_false (show ¬ (0 : Int) < ((m / 2 : Nat) : Int) by omega)]
              refine iteF (hn2 _ _ ⟨rfl, v, ?_, v1, rfl⟩)
              have : m / 2 = 0 := by omega
              rw [this] at eq2 ⊢
              omega
        · intro nx2 hn2
          have hm : ((m : Int) % 2) = ((m % 2 : Nat) : Int) := by omega
          refine ⟨_, rfl, _, _, rfl, rfl, (show (0 : Int) < 2 by decide), rfl, _, rfl, ?_⟩
          rw [dec_int, hm]
          have l1 := pow_log b0 b1 (show v ≤ 101 by omega)
          have l2 := pow_log b0 b1 (show u ≤ 101 by omega)
          by_cases o : m % 2 = 1
          · rw [o] at hn2 ⊢
            refine iteT ⟨_, rfl, _, rfl, _, _, rfl, rfl, by show _ + _ < 1000000; omega, hn2 _ _ ⟨rfl, ?_⟩⟩
            rw [Nat.mul_one, Int.pow_add]
            rfl
          · have o0 : m % 2 = 0 := by omega
            rw [o0] at hn2 ⊢
            refine iteF (hn2 _ _ ⟨rfl, ?_⟩)
            rw [Nat.mul_zero, Nat.add_zero]
theorem ok_is_sort (F : FnP K "is_sort" s_is_sort f fd) (Z : Zs mg) (C : Cs K w mg) : FnOk P w K mg base CX0 1 f fd ["value"] spIsSort := by
  refine F.ok sc_is_sort (fun vs H Q E h => ?_) (fun cdv A outer s H vs Q E hr h => ⟨_, PSs.nox (pss_one (ps_ret (pe_and (pe_callB (kc_isi (K := K)) (by rfl) Z.isinstance (by decide +kernel) (pa_cons (pv 0) (pa_cons (pe_bltn (v := .ty "str") (u := .type "str") (by rfl) Z.str (by decide +kernel) rfl) pa_nil))) (pe_one (pe_inKD C.STEPSn rfl (pv 0)))))), ?_⟩)
  · obtain ⟨z, rfl, _⟩ := h
    rfl
  · obtain ⟨z, rfl, k⟩ := h
    exact ⟨_, rfl, _, .ty "str", _, .type "str", _, rfl, .ty _, ((Vk.str z : Vk K H _ _)).ty, kit_vk ((Vk.str z : Vk K H _ _)) "str", _, rfl, iteT ⟨_, rfl, z, rfl, k⟩⟩
theorem ok_has_codes (F : FnP K "has_codes" s_has_codes f fd) (Z : Zs mg) (C : Cs K w mg) : FnOk P w K mg base CX0 1 f fd ["sort", "length"] spHas := by
  refine F.ok sc_has_codes (fun vs H Q E h => ?_) (fun cdv A outer s H vs Q E hr h => ⟨_, PSs.nox (pss_one (ps_ret (pe_cmpR op_eq (pe_op op_mod (pv 1) (pe_kd C.STEPS rfl (pv 0) (fun _ _ => rfl))) pe_int (nomark _)))), ?_⟩)
  · obtain ⟨s, n, rfl, _⟩ := h
    rfl
  · obtain ⟨s, n, rfl, k⟩ := h
    have sp := s.step_pos
    refine ⟨_, rfl, _, rfl, s.s, _, rfl, s.inSTEPS, fun v iv => ?_⟩
    obtain rfl : v = .int (s.step : Int) := iv
    refine ⟨_, _, rfl, rfl, by omega, rfl, ?_⟩
    rw [dec_int]
    have e : (((n : Int) % (s.step : Int)) == 0) = decide (n % s.step = 0) := by
      by_cases c : n % s.step = 0
      · rw [decide_eq_true c, beq_iff_eq]
        omega
      · rw [decide_eq_false c, beq_eq_false_iff_ne]
        omega
    rw [e]
    exact k
theorem prod_log {b : Int} (h0 : 0 ≤ b) (h1 : b ≤ 3) {a : Nat} (ha : a ≤ 10) : ∀ k, k ≤ 20 → (prodF b a k).natAbs ≤ 2 ^ (61 * k)
  | 0, _ => by
    show (1 : Int).natAbs ≤ 2 ^ (61 * 0)
    decide
  | k + 1, hk => by
    show (prodF b a k * (b ^ (a + k) + 1)).natAbs ≤ _
    rw [Int.natAbs_mul]
    have i := prod_log h0 h1 ha k (by omega)
    have p : (b ^ (a + k)).natAbs ≤ 3 ^ 30 := by
      rw [Int.natAbs_pow]
      exact Nat.le_trans (Nat.pow_le_pow_left (show b.natAbs ≤ 3 by omega) _) (Nat.pow_le_pow_right (by decide) (by omega))
    have e : (3 : Nat) ^ 30 + 1 ≤ 2 ^ 61 := by decide +kernel
    have j := Int.natAbs_add_le (b ^ (a + k)) 1
    have j1 : (1 : Int).natAbs = 1 := rfl
    have : 61 * (k + 1) = 61 * k + 61 := by omega
    rw [this, Nat.pow_add]
    exact Nat.mul_le_mul i (by omega)
theorem ok_product_from (F : FnP K "product_from" s_product_from f fd) (Z : Zs mg) (G_power_of : Fn P w K mg base CX0 1 "power_of" s_power_of ["base", "times"] spPower) : FnOk P w K mg base CX0 2 f fd ["base", "first", "last"] spProd := by
  refine F.ok sc_product_from (fun vs H Q E h => ?_) (fun cdv A outer s H vs Q E hr h => ⟨_, PSs.nox (pss_cons (ps_par (i := 3) (j := 4) rfl sc_product_from.nd rfl rfl (by decide) rfl rfl (pa_cons pe_int (pa_cons (pe_callF G_power_of (hr.mono (by decide)) rfl pass0 (pa_cons (pv 0) (pa_cons (pv 1) pa_nil))) pa_nil)) (by rfl))
  (pss_cons (ps_for PassesOwn.never rfl (pi_range2 (by rfl) Z.range (pa_cons (pv 1) (pa_cons (pe_op op_add (pv 2) pe_int) pa_nil))) (pg_name (i := 5) sc_product_from.nd rfl (by first | exact Or.inl rfl | exact Or.inr rfl)) (pss_cons (ps_set (i := 3) sc_product_from.nd rfl (by first | exact Or.inl rfl | exact Or.inr rfl) (pe_op op_mulW (pv 3) (pe_op op_add (pv 4) pe_int)))
  (pss_one (ps_set (i := 4) sc_product_from.nd rfl (by first | exact Or.inl rfl | exact Or.inr rfl) (pe_op op_mulW (pv 4) (pv 0))))))
  (pss_one (ps_ret (pv 3))))), ?_⟩)
  · obtain ⟨b, a, l, rfl, _⟩ := h
    rfl
  · obtain ⟨b, a, l, rfl, b0, b1, ha, l0, l1, q⟩ := h
    refine ⟨_, rfl, _, rfl, b, a, rfl, b0, by omega, by omega, _, _, rfl, ?_⟩
    refine ⟨_, rfl, _, rfl, _, _, rfl, rfl, _, _, rfl, ⟨by omega, by omega, by omega, by omega⟩, ?_⟩
    have hk : (l + 1 - (a : Int)).toNat ≤ 20 := by omega
    generalize (l + 1 - (a : Int)).toNat = k at q hk
    refine for_range (lo := (a : Int)) (n := k) (fun i σ H' => H' = H ∧ ∃ v, σ = [some (.int b), some (.int (a : Int)), some (.int l), some (.int (prodF b a i)), some (.int (b ^ (a + i))), v]) ⟨rfl, none, rfl⟩ (fun i σ H' hi y => ?_) (fun σ H' y => ?_)
    · obtain ⟨rfl, v, rfl⟩ := y
      have pl := lg_le (prod_log b0 b1 ha i (by omega))
      have l1 := pow_log b0 (show b ≤ 64 by omega) (show a + i ≤ 101 by omega)
      have l2 : (b ^ (a + i) + 1).natAbs.log2 < 701 := by
        have h1 : (b ^ (a + i)).natAbs < 2 ^ 700 := by
          by_cases z : (b ^ (a + i)).natAbs = 0
          · rw [z]
            exact Nat.two_pow_pos _
          · exact (Nat.log2_lt z).mp l1
        have h2 := Int.natAbs_add_le (b ^ (a + i)) 1
        have h3 : (1 : Int).natAbs = 1 := rfl
        have h4 : (b ^ (a + i) + 1).natAbs ≤ 2 ^ 700 := by omega
        have := lg_le h4
        omega
      have l3 : b.natAbs.log2 ≤ b.natAbs := Nat.log2_le_self _
      refine ⟨_, rfl, _, rfl, _, _, rfl, rfl, _, _, rfl, rfl, by show _ + _ < 1000000; omega, ?_⟩
      refine ⟨_, rfl, _, rfl, _, _, rfl, rfl, by show _ + _ < 1000000; omega, rfl, some (.int ((a : Int) + (i : Int))), ?_⟩
      rw [show b ^ (a + (i + 1)) = b ^ (a + i) * b from Int.pow_succ ..]
      rfl
    · obtain ⟨rfl, v, rfl⟩ := y
      exact ⟨_, rfl, q⟩
theorem ok_how_many (F : FnP K "how_many" s_how_many f fd) (Z : Zs mg) (G_has_codes : Fn P w K mg base CX0 1 "has_codes" s_has_codes ["sort", "length"] spHas) (G_product_from : Fn P w K mg base CX0 2 "product_from" s_product_from ["base", "first", "last"] spProd) : FnOk P w K mg base CX0 3 f fd ["sort", "length"] spHow := by
  refine F.ok sc_how_many (fun vs H Q E h => ?_) (fun cdv A outer s H vs Q E hr h => ⟨_, PSs.nox (pss_cons (ps_if (pt_not (pt_val (pe_callF G_has_codes (hr.mono (by decide)) rfl pass0 (pa_cons (pv 0) (pa_cons (pv 1) pa_nil))))) (pss_one (ps_ret pe_int)) pss_nil)
  (pss_cons (ps_set (i := 2) sc_how_many.nd rfl (by first | exact Or.inl rfl | exact Or.inr rfl) (pe_op op_fdivW (pv 1) pe_int))
  (pss_cons (ps_if (pt_cmpR op_eq (pv 0) pe_str (nomark _)) (pss_one (ps_ret (pe_callF G_product_from (hr.mono (by decide)) rfl pass0 (pa_cons pe_int (pa_cons pe_int (pa_cons (pe_op op_sub (pv 2) pe_int) pa_nil)))))) pss_nil)
  (pss_cons (ps_if (pt_cmpR op_eq (pv 0) pe_str (nomark _)) (pss_one (ps_ret (pe_callF G_product_from (hr.mono (by decide)) rfl pass0 (pa_cons pe_int (pa_cons pe_int (pa_cons (pe_op op_sub (pv 2) pe_int) pa_nil)))))) pss_nil)
  (pss_one (ps_ret (pe_callF G_product_from (hr.mono (by decide)) rfl pass0 (pa_cons pe_int (pa_cons pe_int (pa_cons (pe_op op_sub (pv 2) pe_int) pa_nil)))))))))), ?_⟩)
  · obtain ⟨s, n, rfl, _⟩ := h
    rfl
  · obtain ⟨s, n, rfl, hn, k⟩ := h
    refine ⟨_, rfl, _, rfl, s, n, rfl, _, rfl, ?_⟩
    unfold howF at k
    by_cases c : n % s.step = 0
    · rw [if_pos c] at k
      rw [decide_eq_true c]
      refine iteF ⟨_, rfl, _, _, rfl, rfl, ⟨by decide, by decide⟩, ?_⟩
      have hh : ((n : Int) / 2) = ((n / 2 : Nat) : Int) := by omega
      show gName 2 (V.int ((n : Int) / 2)) _ _ _
      rw [hh]
      refine ⟨_, rfl, rfl, _, rfl, ?_⟩
      cases s with
      | two =>
        refine iteT ⟨_, rfl, _, _, rfl, rfl, 2, 1, _, rfl, by decide, by decide, by decide, by omega, by omega, ?_⟩
        rw [show (((n / 2 : Nat) : Int) - 1 + 1 - ((1 : Nat) : Int)).toNat = n / 2 - 1 by omega]
        exact k
      | twice =>
        refine iteF ⟨_, rfl, rfl, _, rfl, iteT ⟨_, rfl, _, _, rfl, rfl, 2, 0, _, rfl, by decide, by decide, by decide, by omega, by omega, ?_⟩⟩
        rw [show (((n / 2 : Nat) : Int) - 2 + 1 - ((0 : Nat) : Int)).toNat = n / 2 - 1 by omega]
        exact k
      | three =>
        refine iteF ⟨_, rfl, rfl, _, rfl, iteF ⟨_, rfl, _, _, rfl, rfl, 3, 0, _, rfl, by decide, by decide, by decide, by omega, by omega, ?_⟩⟩
        rw [show (((n / 2 : Nat) : Int) - 1 + 1 - ((0 : Nat) : Int)).toNat = n / 2 by omega]
        exact k
    · rw [if_neg c] at k
      rw [decide_eq_false c]
      exact iteT k
end
end K45

namespace K45
open PySem PySem.Spec PyProof.Rows L2 Evl Own
def spGauss : Sp := fun vs H Q _ => ∃ (q n : Nat) (k : Nat), vs = [.int (q : Int), .int (n : Int), .int (k : Int)] ∧ 2 ≤ q ∧ q ≤ 64 ∧ n ≤ 61 ∧ ∀ H', Ex H H' → Q (.int (if n < k then 0 else gb q n k)) H'
theorem topF_log {q : Nat} (q0 : 1 ≤ q) (q1 : q ≤ 64) {n : Nat} (hn : n ≤ 61) : ∀ k, k ≤ n → (topF (q : Int) n k).natAbs ≤ 2 ^ (366 * k)
  | 0, _ => by
    show (1 : Int).natAbs ≤ 2 ^ (366 * 0)
    decide
  | k + 1, hk => by
    show (topF (q : Int) n k * ((q : Int) ^ (n - k) - 1)).natAbs ≤ _
    rw [Int.natAbs_mul]
    have i := topF_log q0 q1 hn k (by omega)
    have p1 : ((q : Int) ^ (n - k) - 1).natAbs ≤ q ^ (n - k) := by
      have : (1 : Int) ≤ ((q ^ (n - k) : Nat) : Int) := Int.ofNat_le.mpr (Nat.pow_pos (by omega))
      rw [Int.natCast_pow] at this
      have e : (((q : Int) ^ (n - k)).natAbs) = q ^ (n - k) := by rw [Int.natAbs_pow, Int.natAbs_natCast]
      omega
    have p2 : q ^ (n - k) ≤ 2 ^ 366 := Nat.le_trans (q_pow q1) (Nat.pow_le_pow_right (by decide) (by omega))
    have : 366 * (k + 1) = 366 * k + 366 := by omega
    rw [this, Nat.pow_add]
    exact Nat.mul_le_mul i (Nat.le_trans p1 p2)
theorem bot_log {q : Nat} (q0 : 1 ≤ q) (q1 : q ≤ 64) {k : Nat} (hk : k ≤ 61) : (botF (q : Int) k).natAbs.log2 ≤ 12000 := by
  refine lg_le (Nat.le_trans (bot_le q0 k) (Nat.le_trans (q_pow q1) (Nat.pow_le_pow_right (by decide) ?_)))
  have : k * (k + 1) ≤ 61 * 62 := Nat.mul_le_mul hk (by omega)
  omega
theorem pow_log1 {q : Nat} (q0 : 1 ≤ q) (q1 : q ≤ 64) {m : Nat} (hm : m ≤ 100) : ((q : Int) ^ m - 1).natAbs.log2 ≤ 700 ∧ ((q : Int) ^ m).natAbs.log2 ≤ 700 := by
  have h1 : q ^ m ≤ 2 ^ 700 := Nat.le_trans (q_pow q1) (Nat.pow_le_pow_right (by decide) (by omega))
  have : (1 : Int) ≤ ((q ^ m : Nat) : Int) := Int.ofNat_le.mpr (Nat.pow_pos (by omega))
  rw [Int.natCast_pow] at this
  have e : (((q : Int) ^ m).natAbs) = q ^ m := by rw [Int.natAbs_pow, Int.natAbs_natCast]
  exact ⟨lg_le (by omega), lg_le (by omega)⟩
theorem lg_small {b : Nat} (h : b ≤ 64) : b.log2 ≤ 64 := Nat.le_trans (Nat.log2_le_self b) h
theorem pow_down {q : Nat} (q0 : 1 ≤ q) {n i : Nat} (h : i < n) : (q : Int) ^ (n - i) / (q : Int) = (q : Int) ^ (n - (i + 1)) := by
  have : n - i = (n - (i + 1)) + 1 := by omega
  rw [this, Int.pow_succ]
  exact Int.mul_ediv_cancel _ (by omega)
section
variable {P : Program} {w : World} {K : PySem.W.Frag} {mg : Str → Option Value} {base : Heap} {f : Addr} {fd : FuncData}
theorem ok_gauss (F : FnP K "gauss" s_gauss f fd) (Z : Zs mg) (G_power_of : Fn P w K mg base CX0 1 "power_of" s_power_of ["base", "times"] spPower) : FnOk P w K mg base CX0 2 f fd ["q", "n", "k"] spGauss := by
  refine F.ok sc_gauss (fun vs H Q E h => ?_) (fun cdv A outer s H vs Q E hr h => ⟨_, PSs.nox (pss_cons (ps_if (pt_cmpR op_gt (pv 2) (pv 1) (nomark _)) (pss_one (ps_ret pe_int)) pss_nil)
  (pss_cons (ps_asg (pe_tupF (pa_cons pe_int (pa_cons pe_int (pa_cons (pe_callF G_power_of (hr.mono (by decide)) rfl pass0 (pa_cons (pv 0) (pa_cons (pv 1) pa_nil))) (pa_cons (pv 0) pa_nil))))) (pg_tup rfl (pgs_cons (pg_name (i := 3) sc_gauss.nd rfl (by first | exact Or.inl rfl | exact Or.inr rfl)) (pgs_cons (pg_name (i := 4) sc_gauss.nd rfl (by first | exact Or.inl rfl | exact Or.inr rfl)) (pgs_cons (pg_name (i := 5) sc_gauss.nd rfl (by first | exact Or.inl rfl | exact Or.inr rfl)) (pgs_cons (pg_name (i := 6) sc_gauss.nd rfl (by first | exact Or.inl rfl | exact Or.inr rfl)) pgs_nil))))))
  (pss_cons (ps_for PassesOwn.never rfl (pi_range1 (by rfl) Z.range (pa_cons (pv 2) pa_nil)) (pg_name (i := 7) sc_gauss.nd rfl (by first | exact Or.inl rfl | exact Or.inr rfl)) (pss_cons (ps_set (i := 3) sc_gauss.nd rfl (by first | exact Or.inl rfl | exact Or.inr rfl) (pe_op op_mulW (pv 3) (pe_op op_sub (pv 5) pe_int)))
  (pss_cons (ps_set (i := 4) sc_gauss.nd rfl (by first | exact Or.inl rfl | exact Or.inr rfl) (pe_op op_mulW (pv 4) (pe_op op_sub (pv 6) pe_int)))
  (pss_cons (ps_set (i := 5) sc_gauss.nd rfl (by first | exact Or.inl rfl | exact Or.inr rfl) (pe_op op_fdivW (pv 5) (pv 0)))
  (pss_one (ps_set (i := 6) sc_gauss.nd rfl (by first | exact Or.inl rfl | exact Or.inr rfl) (pe_op op_mulW (pv 6) (pv 0))))))))
  (pss_one (ps_ret (pe_op op_fdivP (pv 3) (pv 4))))))), ?_⟩)
  · obtain ⟨q, n, k, rfl, _⟩ := h
    rfl
  · obtain ⟨q, n, k, rfl, q0, q1, hn, kk⟩ := h
    refine ⟨_, rfl, _, rfl, _, _, rfl, rfl, _, rfl, ?_⟩
    by_cases c : n < k
    · rw [decide_eq_true (show (n : Int) < (k : Int) by omega)]
      rw [if_pos c] at kk
      exact iteT (kk _ (Ex.refl _))
    · rw [decide_eq_false (show ¬ (n : Int) < (k : Int) by omega)]
      rw [if_neg c] at kk
      have kn : k ≤ n := by omega
      refine iteF ?_
      refine ⟨_, rfl, _, rfl, q, n, rfl, by omega, by omega, by omega, ?_⟩
      refine ⟨_, rfl, by show 4 ≤ sizeLine; decide, fun T o hT ho => ⟨T, _, rfl, (Tp.of ho upd_same).sq, rfl, _, _, rfl, _, _, rfl, _, _, rfl, _, _, rfl, rfl, ?_⟩⟩
      have eT := Ex.new (o := .frz o (.tup [V.int 1, .int 1, .int ((q : Int) ^ n), .int (q : Int)])) hT
      refine ⟨_, rfl, _, rfl, by omega, by omega, ?_⟩
      rw [show ((k : Nat) : Int).toNat = k by omega]
      refine for_range (lo := 0) (n := k) (fun i σ H' => H' = upd H T (.frz o (.tup [V.int 1, .int 1, .int ((q : Int) ^ n), .int (q : Int)])) ∧ ∃ v, σ = [some (.int (q : Int)), some (.int (n : Int)), some (.int (k : Int)), some (.int (topF q n i)), some (.int (botF q i)), some (.int ((q : Int) ^ (n - i))), some (.int ((q : Int) ^ (i + 1))), v]) ⟨rfl, none, by rw [Int.pow_succ, Int.pow_zero, Int.one_mul]; rfl⟩ (fun i σ H' hi y => ?_) (fun σ H' y => ?_)
      · obtain ⟨rfl, v, rfl⟩ := y
        have tl := lg_le (topF_log (show 1 ≤ q by omega) q1 hn i (by omega))
        have bl := bot_log (show 1 ≤ q by omega) q1 (show i ≤ 61 by omega)
        have l1 := pow_log1 (show 1 ≤ q by omega) q1 (show n - i ≤ 100 by omega)
        have l2 := pow_log1 (show 1 ≤ q by omega) q1 (show i + 1 ≤ 100 by omega)
        have l3 : (q : Int).natAbs.log2 ≤ 64 := lg_small (by omega)
        have i6 : 366 * i ≤ 366 * 61 := Nat.mul_le_mul_left _ (by omega)
        refine ⟨_, rfl, _, rfl, _, _, rfl, rfl, _, _, rfl, rfl, by show _ + _ < 1000000; omega, ?_⟩
        refine ⟨_, rfl, _, rfl, _, _, rfl, rfl, _, _, rfl, rfl, by show _ + _ < 1000000; omega, ?_⟩
        refine ⟨_, rfl, _, rfl, _, _, rfl, rfl, ⟨by omega, by omega⟩, ?_⟩
        refine ⟨_, rfl, _, rfl, _, _, rfl, rfl, by show _ + _ < 1000000; omega, rfl, some (.int ((0 : Int) + (i : Int))), ?_⟩
        rw [show (q : Int) ^ (i + 1 + 1) = (q : Int) ^ (i + 1) * (q : Int) from Int.pow_succ .., ← pow_down (show 1 ≤ q by omega) (show i < n by omega)]
        rfl
      · obtain ⟨rfl, v, rfl⟩ := y
        have b0 := botF_pos (q := (q : Int)) (by omega) k
        refine ⟨_, rfl, _, rfl, _, _, rfl, rfl, ⟨b0, no_long q0 q1 hn kn⟩, ?_⟩
        rw [← top_div (q := (q : Int)) (by omega) kn] at kk
        exact kk _ eT
end
end K45

namespace K45
open PySem PySem.Spec PyProof.Rows L2 Evl Own
def gs (q n k : Nat) : Int := if n < k then 0 else gb q n k
def soF (s : Srt) (n k : Nat) : Int := if n = 0 ∨ n / 2 < k then (if n = 0 ∧ k = 0 then 1 else 0) else (match s with
  | .two => gs 2 (n / 2 - 1) k * 2 ^ (k * (k + 1) / 2)
  | .twice => gs 2 (n / 2 - 1) k * 2 ^ (k * (k - 1) / 2)
  | .three => gs 3 (n / 2) k * 3 ^ (k * (k - 1) / 2))
/-- an error whose own dict holds a word -/
def RaisesW (C : Addr) (z : Str) (H : Hp) (E : XK) : Prop := ∀ d, H d = none → E (.ref C) (some d) (upd H d (.xd [(("word" : Str), .str z)]))
def spSoFar (C : Addr) : Sp := fun vs H Q E => ∃ (z : Str) (n k : Nat), vs = [.str z, .int (n : Int), .int (k : Int)] ∧ n ≤ 24 ∧
  ((∃ s : Srt, z = s.s ∧ n % s.step = 0 ∧ ∀ H', Ex H H' → Q (.int (soF s n k)) H') ∨ (z ∉ dSTEPS.map (·.1) ∧ RaisesW C "sort" H E))
theorem gs_log {q n k : Nat} (q0 : 1 ≤ q) (q1 : q ≤ 3) (hn : n ≤ 12) : (gs q n k).natAbs.log2 ≤ 1000 := by
  unfold gs
  split
  · decide
  · rename_i c
    refine lg_le (Nat.le_trans (gb_le q0 n k (by omega)) ?_)
    have h1 : 2 ^ n ≤ 2 ^ 12 := Nat.pow_le_pow_right (by decide) hn
    have h2 : q ^ (k * (n - k)) ≤ 2 ^ 864 := Nat.le_trans (q_pow (show q ≤ 64 by omega)) (Nat.pow_le_pow_right (by decide) (by
      have : k * (n - k) ≤ 12 * 12 := Nat.mul_le_mul (by omega) (by omega)
      omega))
    refine Nat.le_trans (Nat.mul_le_mul h1 h2) ?_
    rw [← Nat.pow_add]
    exact Nat.pow_le_pow_right (by decide) (by decide)
section
variable {P : Program} {w : World} {K : PySem.W.Frag} {mg : Str → Option Value} {base : Heap} {f : Addr} {fd : FuncData}
theorem ok_so_far (F : FnP K "so_far" s_so_far f fd) (Z : Zs mg) {CRef M fI : Addr} (X_Refused : PySem.OwXword.OexT P K CRef M fI) (g_Refused : mg "Refused" = some (.ref CRef)) (G_is_sort : Fn P w K mg base CX0 1 "is_sort" s_is_sort ["value"] spIsSort)
    (G_power_of : Fn P w K mg base CX0 1 "power_of" s_power_of ["base", "times"] spPower) (G_gauss : Fn P w K mg base CX0 2 "gauss" s_gauss ["q", "n", "k"] spGauss) : FnOk P w K mg base (L2.CX P w) 3 f fd ["sort", "length", "k"] (spSoFar CRef) := by
  refine FunD.ok (CX := L2.CX P w) (k := 2) F sc_so_far (fun vs H Q E h => ?_) (fun cdv A outer s H vs Q E hr h => ⟨_, by exact (pss_cons (ps_if (pt_not (pt_val (pe_callF G_is_sort (hr.mono (by decide)) rfl pass0 (pa_cons (pv 0) pa_nil)))) (pss_one (ps_raise rfl (takes_of rfl rfl rfl rfl) (pmk_word X_Refused g_Refused hr (pa_cons pe_str pa_nil) (by rfl)))) pss_nil)
  (pss_cons (ps_set (i := 3) sc_so_far.nd rfl (by first | exact Or.inl rfl | exact Or.inr rfl) (pe_op op_fdivW (pv 1) pe_int))
  (pss_cons (ps_if (PW.pt (pw_or (pt_cmpR op_eq (pv 1) pe_int (nomark _)) (pw_or1 (pt_cmpR op_gt (pv 2) (pv 3) (nomark _))))) (pss_one (ps_ret (pe_callTy call_int1 (by rfl) Z.int (by decide +kernel) (pa_cons (pe_and (pe_cmpR op_eq (pv 1) pe_int (nomark _)) (pe_one (pe_cmpR op_eq (pv 2) pe_int (nomark _)))) pa_nil)))) pss_nil)
  (pss_cons (ps_if (pt_cmpR op_eq (pv 0) pe_str (nomark _)) (pss_one (ps_ret (pe_op op_mulW (pe_callF G_gauss (hr.mono (by decide)) rfl pass0 (pa_cons pe_int (pa_cons (pe_op op_sub (pv 3) pe_int) (pa_cons (pv 2) pa_nil)))) (pe_callF G_power_of (hr.mono (by decide)) rfl pass0 (pa_cons pe_int (pa_cons (pe_op op_fdivW (pe_op op_mul (pv 2) (pe_op op_add (pv 2) pe_int)) pe_int) pa_nil)))))) pss_nil)
  (pss_cons (ps_if (pt_cmpR op_eq (pv 0) pe_str (nomark _)) (pss_one (ps_ret (pe_op op_mulW (pe_callF G_gauss (hr.mono (by decide)) rfl pass0 (pa_cons pe_int (pa_cons (pe_op op_sub (pv 3) pe_int) (pa_cons (pv 2) pa_nil)))) (pe_callF G_power_of (hr.mono (by decide)) rfl pass0 (pa_cons pe_int (pa_cons (pe_op op_fdivW (pe_op op_mul (pv 2) (pe_op op_sub (pv 2) pe_int)) pe_int) pa_nil)))))) pss_nil)
  (pss_one (ps_ret (pe_op op_mulW (pe_callF G_gauss (hr.mono (by decide)) rfl pass0 (pa_cons pe_int (pa_cons (pv 3) (pa_cons (pv 2) pa_nil)))) (pe_callF G_power_of (hr.mono (by decide)) rfl pass0 (pa_cons pe_int (pa_cons (pe_op op_fdivW (pe_op op_mul (pv 2) (pe_op op_sub (pv 2) pe_int)) pe_int) pa_nil))))))))))), ?_⟩)
  · obtain ⟨z, n, k, rfl, _⟩ := h
    rfl
  · obtain ⟨z, n, k, rfl, hn, h⟩ := h
    refine ⟨_, rfl, z, rfl, _, rfl, ?_⟩
    rcases h with ⟨s, rfl, hs, q⟩ | ⟨hz, r⟩
    · rw [decide_eq_true s.inKeys]
      refine iteF ⟨_, rfl, _, _, rfl, rfl, ⟨by decide, by decide⟩, ?_⟩
      have hh : ((n : Int) / 2) = ((n / 2 : Nat) : Int) := by omega
      show gName 3 (V.int ((n : Int) / 2)) _ _ _
      rw [hh]
      have dz : ((n : Int) == 0) = decide (n = 0) := by
        by_cases c : n = 0
        · subst c
          rfl
        · rw [decide_eq_false c, beq_eq_false_iff_ne]
          omega
      have dk : ((k : Int) == 0) = decide (k = 0) := by
        by_cases c : k = 0
        · subst c
          rfl
        · rw [decide_eq_false c, beq_eq_false_iff_ne]
          omega
      refine ⟨_, rfl, rfl, _, rfl, ?_⟩
      rw [dec_int, dz]
      unfold soF at q
      by_cases n0 : n = 0
      · subst n0
        rw [decide_eq_true rfl]
        rw [if_pos (.inl rfl)] at q
        refine iteT (iteT ⟨_, rfl, rfl, _, rfl, ?_⟩)
        rw [dec_int, dz, decide_eq_true rfl]
        refine iteT ⟨_, rfl, rfl, .inr ⟨_, rfl, ?_⟩⟩
        rw [dec_int, dk]
        by_cases k0 : k = 0
        · rw [if_pos ⟨rfl, k0⟩] at q
          rw [decide_eq_true k0]
          exact q _ (Ex.refl _)
        · rw [if_neg (fun z => k0 z.2)] at q
          rw [decide_eq_false k0]
          exact q _ (Ex.refl _)
      · rw [decide_eq_false n0]
        refine iteF ⟨_, rfl, _, rfl, _, _, rfl, rfl, _, rfl, ?_⟩
        by_cases kh : n / 2 < k
        · rw [decide_eq_true (show ((n / 2 : Nat) : Int) < (k : Int) by omega)]
          rw [if_pos (.inr kh), if_neg (fun z => n0 z.1)] at q
          refine iteT ⟨_, rfl, rfl, _, rfl, ?_⟩
          rw [dec_int, dz, decide_eq_false n0]
          exact iteF (.inr ⟨_, rfl, q _ (Ex.refl _)⟩)
        · rw [decide_eq_false (show ¬ ((n / 2 : Nat) : Int) < (k : Int) by omega)]
          rw [if_neg (fun z => z.elim n0 kh)] at q
          have k12 : k ≤ 12 := by omega
          have kk1 : (k : Int) * ((k : Int) + 1) / 2 = ((k * (k + 1) / 2 : Nat) : Int) := by
            rw [Int.natCast_ediv, Int.natCast_mul]
            rfl
          have kk0 : (k : Int) * ((k : Int) - 1) / 2 = ((k * (k - 1) / 2 : Nat) : Int) := by
            rw [Int.natCast_ediv, Int.natCast_mul]
            cases k with
            | zero => rfl
            | succ k =>
              rw [show ((k + 1 : Nat) : Int) - 1 = ((k + 1 - 1 : Nat) : Int) by omega]
              rfl
          have kb1 : k * (k + 1) / 2 ≤ 100 := by
            have : k * (k + 1) ≤ 12 * 13 := Nat.mul_le_mul (by omega) (by omega)
            omega
          have kb0 : k * (k - 1) / 2 ≤ 100 := by
            have : k * (k - 1) ≤ 12 * 12 := Nat.mul_le_mul (by omega) (by omega)
            omega
          have hm : ((n / 2 : Nat) : Int) - 1 = ((n / 2 - 1 : Nat) : Int) := by
            have : 2 ≤ n := by
              cases s
              · have : n % 2 = 0 := hs
                omega
              · have : n % 8 = 0 := hs
                omega
              · have : n % 4 = 0 := hs
                omega
            omega
          have g2 := gs_log (q := 2) (n := n / 2 - 1) (k := k) (by decide) (by decide) (by omega)
          have g3 := gs_log (q := 3) (n := n / 2) (k := k) (by decide) (by decide) (by omega)
          have p2 : ∀ m, m ≤ 100 → ((2 : Int) ^ m).natAbs.log2 < 700 := fun m hm => pow_log (by decide) (by decide) (by omega)
          have p3 : ∀ m, m ≤ 100 → ((3 : Int) ^ m).natAbs.log2 < 700 := fun m hm => pow_log (by decide) (by decide) (by omega)
          refine iteF ⟨_, rfl, rfl, _, rfl, ?_⟩
          cases s with
          | two =>
            refine iteT ⟨_, rfl, _, _, rfl, rfl, _, rfl, 2, n / 2 - 1, k, by dsimp only; rw [hm]; rfl, by decide, by decide, by omega, fun H1 e1 => ?_⟩
            refine ⟨_, rfl, _, rfl, _, _, rfl, rfl, _, _, rfl, rfl, .inl ⟨by omega, by omega⟩, _, _, rfl, rfl, ⟨by decide, by decide⟩, 2, k * (k + 1) / 2, ?_, by decide, by decide, kb1, ?_⟩
            · show [V.int 2, V.int (_)] = _
              rw [← kk1]
            · have pl := p2 _ kb1
              refine ⟨_, _, rfl, rfl, by show _ + _ < 1000000; exact Nat.lt_of_le_of_lt (Nat.add_le_add g2 (Nat.le_of_lt pl)) (by decide), q _ e1⟩
          | twice =>
            refine iteF ⟨_, rfl, rfl, _, rfl, iteT ⟨_, rfl, _, _, rfl, rfl, _, rfl, 2, n / 2 - 1, k, by dsimp only; rw [hm]; rfl, by decide, by decide, by omega, fun H1 e1 => ?_⟩⟩
            refine ⟨_, rfl, _, rfl, _, _, rfl, rfl, _, _, rfl, rfl, .inl ⟨by omega, by omega⟩, _, _, rfl, rfl, ⟨by decide, by decide⟩, 2, k * (k - 1) / 2, ?_, by decide, by decide, kb0, ?_⟩
            · show [V.int 2, V.int (_)] = _
              rw [← kk0]
            · have pl := p2 _ kb0
              refine ⟨_, _, rfl, rfl, by show _ + _ < 1000000; exact Nat.lt_of_le_of_lt (Nat.add_le_add g2 (Nat.le_of_lt pl)) (by decide), q _ e1⟩
          | three =>
            refine iteF ⟨_, rfl, rfl, _, rfl, iteF ⟨_, rfl, _, rfl, 3, n / 2, k, rfl, by decide, by decide, by omega, fun H1 e1 => ?_⟩⟩
            refine ⟨_, rfl, _, rfl, _, _, rfl, rfl, _, _, rfl, rfl, .inl ⟨by omega, by omega⟩, _, _, rfl, rfl, ⟨by decide, by decide⟩, 3, k * (k - 1) / 2, ?_, by decide, by decide, kb0, ?_⟩
            · show [V.int 3, V.int (_)] = _
              rw [← kk0]
            · have pl := p3 _ kb0
              refine ⟨_, _, rfl, rfl, by show _ + _ < 1000000; exact Nat.lt_of_le_of_lt (Nat.add_le_add g3 (Nat.le_of_lt pl)) (by decide), q _ e1⟩
    · rw [decide_eq_false hz]
      exact iteT ⟨_, rfl, r⟩
/-! ### what is told -/
def spFar (K : PySem.W.Frag) : Sp := fun vs H Q _ => ∃ (z : Str) (n k : Nat), vs = [.str z, .int (n : Int), .int (k : Int)] ∧ n ≤ 24 ∧
  ((∃ s : Srt, z = s.s ∧ n % s.step = 0 ∧ RetU K [.str "told", .int (soF s n k)] H Q) ∨ (z ∉ dSTEPS.map (·.1) ∧ RetU K [.str "refused", .str "sort"] H Q))
theorem ok__law_far (F : FnP K "_law_far" s__law_far f fd) (Z : Zs mg) {CRef M fI : Addr} (X_Refused : PySem.OwXword.OexT P K CRef M fI) (g_Refused : mg "Refused" = some (.ref CRef)) (G_so_far : Fn P w K mg base (L2.CX P w) 3 "so_far" s_so_far ["sort", "length", "k"] (spSoFar CRef)) :
    FnOk P w K mg base CX0 4 f fd ["sort", "length", "k"] (spFar K) := by
  refine F.ok sc__law_far (fun vs H Q E h => ?_) (fun cdv A outer s H vs Q E hr h => ⟨_, PSs.nox (pss_one (ps_try_as (i := 3) (tb := fun W => tRet (tTupF (tCons (tC (.str "told")) (tCons (tCallS (spSoFar CRef) (WE W) (tCons (tVar 0) (tCons (tVar 1) (tCons (tVar 2) tNil)))) tNil)))) (ts := fun a cls d => tRet (tTupF (tCons (tC (.str "refused")) (tCons (tBy_word CRef a cls d (tVar 3)) tNil)))) (Wout := fun _ _ _ _ => False) rfl rfl sc__law_far.nd rfl rfl ⟨rfl, by decide, Or.inl g_Refused⟩ takes0
    (fun W pn xe tk _ => pss_one (ps_ret (pe_tupF (pa_cons pe_str (pa_cons (pe_callSF G_so_far (hr.mono (by decide)) rfl (fun σ => passAt tk σ) (pa_cons (pv 0) (pa_cons (pv 1) (pa_cons (pv 2) pa_nil)))) pa_nil)))))
    (fun a oe cls d pn hz hf => pss_one (ps_ret (pe_tupF (pa_cons pe_str (pa_cons (pe_by_word X_Refused hz hf (pv 3)) pa_nil))))))), ?_⟩)
  · obtain ⟨z, n, k, rfl, _⟩ := h
    rfl
  · obtain ⟨z, n, k, rfl, hn, h⟩ := h
    refine ⟨_, rfl, _, rfl, _, rfl, ?_⟩
    dsimp only [tNil]
    rcases h with ⟨s, rfl, hs, q⟩ | ⟨hz, q⟩
    · exact ⟨s.s, n, k, rfl, hn, .inl ⟨s, rfl, hs, fun H1 e1 => ⟨by show 2 ≤ sizeLine; decide, q.new e1⟩⟩⟩
    · refine ⟨z, n, k, rfl, hn, .inr ⟨hz, fun d hd => ?_⟩⟩
      refine ⟨true, X_Refused.te, fun _ a0 _ => ?_, fun q => Bool.noConfusion q⟩
      exact ⟨_, rfl, rfl, rfl, d, _, rfl, upd_same, ⟨by show 2 ≤ sizeLine; decide, q.new (Ex.new hd)⟩⟩
end
end K45

namespace K45
open PySem PySem.Spec PyProof.Rows L2 Evl Own
section
variable {P : Program} {w : World} {K : PySem.W.Frag} {mg : Str → Option Value} {base : Heap} {f : Addr} {fd : FuncData}
theorem ok__law_box (F : FnP K "_law_box" s__law_box f fd) (Z : Zs mg) : FnOk P w K mg base CX0 1 f fd ["script", "k"] (spBox K) := by
  refine F.ok sc__law_box (fun vs H Q E h => ?_) (fun cdv A outer s H vs Q E hr h => ⟨_, PSs.nox (pss_cons (ps_set (i := 2) sc__law_box.nd rfl (by first | exact Or.inl rfl | exact Or.inr rfl) (pe_op op_add (pe_op op_mul pe_int (pv 1)) pe_int))
  (pss_cons (ps_if (pt_cmpR op_lt (pv 1) (pe_callB (kc_len (K := K)) (by rfl) Z.len PySem.boot_len (pa_cons (pv 0) pa_nil)) (nomark _)) (pss_one (ps_set (i := 2) sc__law_box.nd rfl (by first | exact Or.inl rfl | exact Or.inr rfl) (pe_callB call_abs (by rfl) Z.abs (by decide +kernel) (pa_cons (pe_ix (kx_list (K := K)) (pv 0) (pv 1) (fun _ _ => rfl)) pa_nil)))) (pss_one (ps_if (pt_cmpR op_gt (pe_callB (kc_len (K := K)) (by rfl) Z.len PySem.boot_len (pa_cons (pv 0) pa_nil)) pe_int (nomark _)) (pss_one (ps_set (i := 2) sc__law_box.nd rfl (by first | exact Or.inl rfl | exact Or.inr rfl) (pe_op op_add (pv 2) (pe_op op_mul (pe_op op_mod (pe_callTy call_int1 (by rfl) Z.int (by decide +kernel) (pa_cons (pe_callB call_abs (by rfl) Z.abs (by decide +kernel) (pa_cons (pe_ix (kx_list (K := K)) (pv 0) (pe_op op_mod (pe_callTy call_int1 (by rfl) Z.int (by decide +kernel) (pa_cons (pv 1) pa_nil)) (pe_callB (kc_len (K := K)) (by rfl) Z.len PySem.boot_len (pa_cons (pv 0) pa_nil))) (fun _ _ => rfl)) pa_nil)) pa_nil)) pe_int) pe_int)))) pss_nil)))
  (pss_one (ps_ret (pe_lst (pa_cons (pe_ix (kx_list (K := K)) (pe_lst (pa_cons pe_int (pa_cons (pv 2) pa_nil))) (pe_callTy call_int1 (by rfl) Z.int (by decide +kernel) (pa_cons (pe_cmpR op_ge (pv 2) (pe_op op_pow pe_int pe_int) (nomark _)) pa_nil)) (fun _ _ => rfl)) (pa_cons (pe_op op_add (pe_op op_mod (pe_callTy call_int1 (by rfl) Z.int (by decide +kernel) (pa_cons (pe_op op_add (pe_op op_mul (pe_op op_mod (pe_callTy call_int1 (by rfl) Z.int (by decide +kernel) (pa_cons (pv 2) pa_nil)) pe_int) pe_int) (pe_op op_mul pe_int (pv 1))) pa_nil)) pe_int) pe_int) (pa_cons pe_int pa_nil)))))))), ?_⟩)
  · obtain ⟨a, ns, k, rfl, _⟩ := h
    rfl
  · obtain ⟨a, ns, k, rfl, ha, hk, hl, q⟩ := h
    refine ⟨_, rfl, _, _, rfl, rfl, .inl ⟨by decide, by decide⟩, _, _, rfl, rfl, ?_⟩
    dsimp only [gName]
    refine if_both (fun σ' H2 => H2 = H ∧ ∃ c : Int, 0 ≤ c ∧ σ' = [some (.ref a), some (.int (k : Int)), some (.int c)]) ?_ ?_
    · rintro σ' H2 ⟨rfl, c, c0, rfl⟩
      refine ⟨_, rfl, by show 2 ≤ sizeLine; decide, fun L hL => ⟨_, rfl, _, _, rfl, rfl, ⟨by decide, by decide, by decide⟩, _, _, rfl, rfl, ?_⟩⟩
      have eL := Ex.new (o := .lst [V.int 0, .int c]) hL
      have key : ∀ x : Int, 0 ≤ x → ∀ d : Addr, upd H2 L (.lst [V.int 0, .int c]) d = none → ∀ m : Int, Q (.ref d) (upd (upd H2 L (.lst [V.int 0, .int c])) d (.lst [.int x, .int m, .int 0])) := fun x hx d hd m =>
        q d _ ⟨eL.trans (Ex.new hd), fresh_back eL hd, x, m, 0, upd_same, hx⟩
      refine .inr ⟨_, rfl, L, _, _, .int (if (10 : Int) ^ (18 : Int).toNat ≤ c then c else 0), rfl, rfl, sq_of upd_same, ?_, ?_⟩
      · by_cases big : (10 : Int) ^ (18 : Int).toNat ≤ c
        · rw [decide_eq_true big, if_pos big]
          rfl
        · rw [decide_eq_false big, if_neg big]
          rfl
      · refine ⟨_, rfl, .inl ⟨_, rfl, _, _, rfl, rfl, (show (0 : Int) < 2147483629 by decide), _, _, rfl, rfl, .inr ⟨by decide, by decide⟩, _, rfl, _, _, rfl, rfl, .inl ⟨by decide, by decide⟩, _, _, rfl, rfl, .inl ⟨_, rfl, _, _, rfl, rfl, (show (0 : Int) < 2147483629 by decide), _, _, rfl, rfl, by show 3 ≤ sizeLine; decide, fun d hd => key _ ?_ d hd _⟩⟩⟩
        split
        · exact c0
        · exact Int.le_refl 0
    · intro nx hn
      refine ⟨_, rfl, _, rfl, a, _, rfl, .inl ha, _, _, rfl, rfl, _, rfl, ?_⟩
      rw [List.length_map]
      by_cases c1 : k < ns.length
      · rw [decide_eq_true (show (k : Int) < (ns.length : Int) by omega)]
        refine iteT ⟨_, rfl, _, rfl, a, _, _, _, rfl, rfl, ha, atI_int c1, _, rfl, ?_⟩
        refine hn _ _ ⟨rfl, _, ?_, rfl⟩
        split <;> omega
      · rw [decide_eq_false (show ¬ (k : Int) < (ns.length : Int) by omega)]
        refine iteF ⟨_, rfl, a, _, rfl, .inl ha, _, _, rfl, rfl, _, rfl, ?_⟩
        rw [List.length_map]
        by_cases c2 : 0 < ns.length
        · rw [decide_eq_true (show (0 : Int) < (ns.length : Int) by omega)]
          have hm : (k : Int) % (ns.length : Int) = ((k % ns.length : Nat) : Int) := by rw [Int.natCast_emod]
          have hlt : k % ns.length < ns.length := Nat.mod_lt _ c2
          refine iteT ⟨_, rfl, _, rfl, _, rfl, .inl ⟨_, rfl, _, rfl, a, _, rfl, .inl ha, _, _, rfl, rfl, ?_, ?_⟩⟩
          · show (0 : Int) < ((ns.map V.int).length : Int)
            rw [List.length_map]
            omega
          · refine ⟨a, _, _, .int (ns.getD (k % ns.length) 0), rfl, rfl, ha, by rw [List.length_map, hm]; exact atI_int hlt, _, rfl, .inl ⟨_, rfl, _, _, rfl, rfl, (show (0 : Int) < 2147483629 by decide), _, _, rfl, rfl, .inr ⟨by decide, by decide⟩, _, _, rfl, rfl, ?_⟩⟩
            refine hn _ _ ⟨rfl, _, ?_, rfl⟩
            have h1 : 0 ≤ (if ns.getD (k % ns.length) 0 < 0 then -(ns.getD (k % ns.length) 0) else ns.getD (k % ns.length) 0) % 2147483629 := Int.emod_nonneg _ (by decide)
            omega
        · rw [decide_eq_false (show ¬ (0 : Int) < (ns.length : Int) by omega)]
          exact iteF (hn _ _ ⟨rfl, _, by omega, rfl⟩)
theorem ok__law_take (F : FnP K "_law_take" s__law_take f fd) (Z : Zs mg) : FnOk P w K mg base CX0 1 f fd ["box", "many"] spTake := by
  refine F.ok sc__law_take (fun vs H Q E h => ?_) (fun cdv A outer s H vs Q E hr h => ⟨_, PSs.nox (pss_cons (ps_if (pt_cmpR op_gt (pe_ix (kx_list (K := K)) (pv 0) pe_int (fun _ _ => rfl)) pe_int (nomark _)) (pss_cons (ps_set (i := 2) sc__law_take.nd rfl (by first | exact Or.inl rfl | exact Or.inr rfl) (pe_op op_mod (pe_callTy call_int1 (by rfl) Z.int (by decide +kernel) (pa_cons (pe_ix (kx_list (K := K)) (pv 0) pe_int (fun _ _ => rfl)) pa_nil)) (pv 1)))
  (pss_cons (ps_asg (pe_op op_fdivW (pe_ix (kx_list (K := K)) (pv 0) pe_int (fun _ _ => rfl)) (pv 1)) (pg_sub (pv 0) pe_int set_list))
  (pss_one (ps_ret (pv 2))))) pss_nil)
  (pss_cons (ps_asg (pe_op op_add (pe_ix (kx_list (K := K)) (pv 0) pe_int (fun _ _ => rfl)) pe_int) (pg_sub (pv 0) pe_int set_list))
  (pss_cons (ps_set (i := 3) sc__law_take.nd rfl (by first | exact Or.inl rfl | exact Or.inr rfl) (pe_op op_mod (pe_callTy call_int1 (by rfl) Z.int (by decide +kernel) (pa_cons (pe_op op_add (pe_op op_mul (pe_op op_add (pe_ix (kx_list (K := K)) (pv 0) pe_int (fun _ _ => rfl)) (pe_op op_mul pe_int (pe_ix (kx_list (K := K)) (pv 0) pe_int (fun _ _ => rfl)))) pe_int) pe_int) pa_nil)) pe_int))
  (pss_cons (ps_asg (pe_op op_add (pe_op op_mod (pe_callTy call_int1 (by rfl) Z.int (by decide +kernel) (pa_cons (pe_op op_add (pe_op op_mul (pv 3) pe_int) pe_int) pa_nil)) pe_int) pe_int) (pg_sub (pv 0) pe_int set_list))
  (pss_one (ps_ret (pe_op op_mod (pe_callTy call_int1 (by rfl) Z.int (by decide +kernel) (pa_cons (pe_op op_fdivW (pe_op op_add (pe_op op_mul (pv 3) pe_int) (pe_ix (kx_list (K := K)) (pv 0) pe_int (fun _ _ => rfl))) pe_int) pa_nil)) (pv 1)))))))), ?_⟩)
  · obtain ⟨a, R, b, rfl, _⟩ := h
    rfl
  · obtain ⟨a, R, b, rfl, hw, b0, bl, k⟩ := h
    obtain ⟨c, m, t, hb, c0⟩ := hw.box
    refine ⟨_, rfl, a, _, 0, .int c, rfl, rfl, sq_of hb, rfl, _, _, rfl, rfl, _, rfl, ?_⟩
    by_cases cp : 0 < c
    · rw [decide_eq_true cp]
      refine iteT ⟨_, rfl, a, _, 0, .int c, rfl, rfl, sq_of hb, rfl, .inl ⟨_, rfl, _, rfl, _, _, rfl, rfl, b0, ?_⟩⟩
      refine ⟨_, rfl, a, _, 0, .int c, rfl, rfl, sq_of hb, rfl, _, rfl, _, _, rfl, rfl, ⟨b0, bl⟩, _, rfl, a, _, 0, 0, rfl, rfl, hb, rfl, ?_⟩
      exact ⟨_, rfl, k _ _ (Int.emod_nonneg _ (by omega)) (Int.emod_lt_of_pos _ b0) (hw.set (c := c / b) (m := m) (k := t) (Int.ediv_nonneg c0 (by omega)))⟩
    · rw [decide_eq_false cp]
      refine iteF ?_
      refine ⟨_, rfl, a, _, 2, .int t, rfl, rfl, sq_of hb, rfl, _, _, rfl, rfl, _, rfl, a, _, 2, 2, rfl, rfl, hb, rfl, ?_⟩
      have w2 := hw.set (c := c) (m := m) (k := t + 1) c0
      refine ⟨_, rfl, a, _, 1, .int m, rfl, rfl, sq_of upd_same, rfl, _, rfl, a, _, 2, .int (t + 1), rfl, rfl, sq_of upd_same, rfl, _, _, rfl, rfl, .inl ⟨by decide, by decide⟩, _, _, rfl, rfl, _, _, rfl, rfl, .inr ⟨by decide, by decide⟩, _, _, rfl, rfl, .inl ⟨_, rfl, _, _, rfl, rfl, (show (0 : Int) < 2147483563 by decide), ?_⟩⟩
      refine ⟨_, rfl, _, _, rfl, rfl, .inr ⟨by decide, by decide⟩, _, _, rfl, rfl, .inl ⟨_, rfl, _, _, rfl, rfl, (show (0 : Int) < 2147483629 by decide), _, _, rfl, rfl, _, rfl, a, _, 1, 1, rfl, rfl, upd_same, rfl, ?_⟩⟩
      have w3 := w2.set (c := c) (m := (((m + 70003 * (t + 1)) * 61223 + 41) % 2147483563 * 38021 + 23063) % 2147483629 + 1) (k := t + 1) c0
      exact ⟨_, rfl, _, _, rfl, rfl, .inr ⟨by decide, by decide⟩, _, rfl, a, _, 1, .int _, rfl, rfl, sq_of upd_same, rfl, _, _, rfl, rfl, _, _, rfl, rfl, ⟨by decide, by decide⟩, .inl ⟨_, rfl, _, rfl, _, _, rfl, rfl, b0, k _ _ (Int.emod_nonneg _ (by omega)) (Int.emod_lt_of_pos _ b0) w3⟩⟩
theorem ok__law_pick (F : FnP K "_law_pick" s__law_pick f fd) (Z : Zs mg) (G__law_take : Fn P w K mg base CX0 1 "_law_take" s__law_take ["box", "many"] spTake) : FnOk P w K mg base CX0 2 f fd ["box", "some"] (spPick K) := by
  refine F.ok sc__law_pick (fun vs H Q E h => ?_) (fun cdv A outer s H vs Q E hr h => ⟨_, PSs.nox (pss_one (ps_ret (pe_ix (kx_seqB (K := K)) (pv 1) (pe_callF G__law_take (hr.mono (by decide)) rfl pass0 (pa_cons (pv 0) (pa_cons (pe_callB (kc_len (K := K)) (by rfl) Z.len PySem.boot_len (pa_cons (pv 1) pa_nil)) pa_nil))) (fun _ _ => rfl)))), ?_⟩)
  · obtain ⟨a, p, b, R, xs, rfl, _⟩ := h
    rfl
  · obtain ⟨a, p, b, R, xs, rfl, hw, hp, hne, hz, k⟩ := h
    have hlen : 0 < xs.length := List.length_pos_iff.mpr hne
    refine ⟨_, rfl, _, rfl, _, rfl, p, _, rfl, (hp.ex hw.ex).or, a, R, (xs.length : Int), rfl, hw, Int.ofNat_lt.mpr hlen, ?_, fun r H1 h0 h1 hw1 => ?_⟩
    · have := Nat.log2_le_self xs.length
      show xs.length.log2 < 9000
      omega
    · obtain ⟨i, rfl⟩ : ∃ i : Nat, r = (i : Int) := ⟨r.toNat, by omega⟩
      have hi : i < xs.length := by omega
      have hx : xs[i]? = some xs[i] := List.getElem?_eq_getElem hi
      exact ⟨p, b, _, _, xs[i], rfl, rfl, hp.ex hw1.ex, atI_nat hx, k i _ _ hx hw1⟩
end
end K45

namespace K45
open PySem PySem.Spec PyProof.Rows L2 Evl Own
theorem upd_upd {H : Hp} {p : Addr} {a b : HO} : upd (upd H p a) p b = upd H p b := by
  funext x
  by_cases e : x = p
  · subst e
    rw [upd_same, upd_same]
  · rw [upd_ne e, upd_ne e, upd_ne e]
def spSrt (g : Srt → Nat) : Sp := fun vs H Q _ => ∃ s : Srt, vs = [.str s.s] ∧ ∀ H', Ex H H' → Q (.int (g s : Nat)) H'
def pick3 {α : Type} (s : Srt) (x y z : α) : α := match s with | .two => x | .twice => y | .three => z
/-- a table of three things, by sort -/
theorem get3 {H : Hp} {p : Addr} (s : Srt) {x y z : V} (h : H p = some (.dK (mergeK [] [(Sum.inr "two", x), (Sum.inr "twice", y), (Sum.inr "three", z)]))) : DGet H p (.str s.s) (some (pick3 s x y z)) := by
  cases s
  · exact DGet.k (k := Sum.inr "two") h
  · exact DGet.k (k := Sum.inr "twice") h
  · exact DGet.k (k := Sum.inr "three") h
section
variable {P : Program} {w : World} {K : PySem.W.Frag} {mg : Str → Option Value} {base : Heap} {f : Addr} {fd : FuncData}
theorem ok__law_by (F : FnP K "_law_by" s__law_by f fd) (Z : Zs mg) : FnOk P w K mg base CX0 1 f fd ["sort"] (spSrt Srt.by_) := by
  refine F.ok sc__law_by (fun vs H Q E h => ?_) (fun cdv A outer s H vs Q E hr h => ⟨_, PSs.nox (pss_one (ps_ret (pe_dget (hu_of hr) (pe_disp (pps_cons pe_str pe_int (pps_cons pe_str pe_int (pps_cons pe_str pe_int pps_nil))) (by rfl) (by rfl) (fun z => by cases z) (by decide)) (pv 0) (fun _ _ => rfl)))), ?_⟩)
  · obtain ⟨s, rfl, _⟩ := h
    rfl
  · obtain ⟨s, rfl, k⟩ := h
    refine fun p hp => ⟨upd_same, [(Sum.inr "two", .int 2), (Sum.inr "twice", .int 4), (Sum.inr "three", .int 3)], rfl, by show 3 ≤ 15; decide, ?_⟩
    rw [upd_upd]
    refine ⟨_, rfl, p, _, rfl, get3 s upd_same, ?_⟩
    have := k _ (Ex.new (o := .dK (mergeK [] [(Sum.inr "two", .int 2), (Sum.inr "twice", .int 4), (Sum.inr "three", .int 3)])) hp)
    cases s <;> exact this
theorem ok__law_letters (F : FnP K "_law_letters" s__law_letters f fd) (Z : Zs mg) : FnOk P w K mg base CX0 1 f fd ["sort"] (spSrt Srt.q) := by
  refine F.ok sc__law_letters (fun vs H Q E h => ?_) (fun cdv A outer s H vs Q E hr h => ⟨_, PSs.nox (pss_one (ps_ret (pe_dget (hu_of hr) (pe_disp (pps_cons pe_str pe_int (pps_cons pe_str pe_int (pps_cons pe_str pe_int pps_nil))) (by rfl) (by rfl) (fun z => by cases z) (by decide)) (pv 0) (fun _ _ => rfl)))), ?_⟩)
  · obtain ⟨s, rfl, _⟩ := h
    rfl
  · obtain ⟨s, rfl, k⟩ := h
    refine fun p hp => ⟨upd_same, [(Sum.inr "two", .int 2), (Sum.inr "twice", .int 2), (Sum.inr "three", .int 3)], rfl, by show 3 ≤ 15; decide, ?_⟩
    rw [upd_upd]
    refine ⟨_, rfl, p, _, rfl, get3 s upd_same, ?_⟩
    have := k _ (Ex.new (o := .dK (mergeK [] [(Sum.inr "two", .int 2), (Sum.inr "twice", .int 2), (Sum.inr "three", .int 3)])) hp)
    cases s <;> exact this
def spRoom : Sp := fun vs H Q _ => ∃ (a : Addr) (R : Hp) (s : Srt), vs = [.ref a, .str s.s] ∧ Bx a R H ∧ ∀ (n : Nat) (H' : Hp), n ≤ s.bound → n % s.step = 0 → Bx a R H' → Q (.int (n : Int)) H'
def lens : Srt → List Int
  | .two => [0, 2, 4, 6, 8, 10, 12, 14, 16, 18, 20, 22, 24]
  | .twice => [8, 8, 16, 24]
  | .three => [4, 8, 12, 16]
theorem lens_ok (s : Srt) : ∀ x ∈ lens s, ∃ n : Nat, x = (n : Int) ∧ n ≤ s.bound ∧ n % s.step = 0 := by
  cases s <;> intro x hx
  · refine ⟨x.toNat, ?_, ?_, ?_⟩ <;> revert x hx <;> decide
  · refine ⟨x.toNat, ?_, ?_, ?_⟩ <;> revert x hx <;> decide
  · refine ⟨x.toNat, ?_, ?_, ?_⟩ <;> revert x hx <;> decide
theorem _root_.Own.Tp.dmut {K : PySem.W.Frag} {H : Hp} {p t : Addr} {es : List (Key × V)} {xs : List V} {o' : HO} (h : Tp K H t xs) (hp : H p = some (.dK es)) : Tp K (upd H p o') t xs := by
  rcases h with ⟨o, g1, g2⟩ | h
  · have : t ≠ p := fun z => by
      rw [z, hp] at g2
      cases g2
    exact .inl ⟨o, g1, by rw [upd_ne this]; exact g2⟩
  · exact .inr h
theorem ok__law_room (F : FnP K "_law_room" s__law_room f fd) (Z : Zs mg) (G__law_take : Fn P w K mg base CX0 1 "_law_take" s__law_take ["box", "many"] spTake) (G__law_pick : Fn P w K mg base CX0 2 "_law_pick" s__law_pick ["box", "some"] (spPick K)) : FnOk P w K mg base CX0 3 f fd ["box", "sort"] spRoom := by
  refine F.ok sc__law_room (fun vs H Q E h => ?_) (fun cdv A outer s H vs Q E hr h => ⟨_, PSs.nox (pss_cons (ps_set (i := 2) sc__law_room.nd rfl (by first | exact Or.inl rfl | exact Or.inr rfl) (pe_disp (pps_cons pe_str (pe_tupF (pa_cons pe_int (pa_cons pe_int (pa_cons pe_int (pa_cons pe_int (pa_cons pe_int (pa_cons pe_int (pa_cons pe_int (pa_cons pe_int (pa_cons pe_int (pa_cons pe_int (pa_cons pe_int (pa_cons pe_int (pa_cons pe_int pa_nil)))))))))))))) (pps_cons pe_str (pe_tupF (pa_cons pe_int (pa_cons pe_int (pa_cons pe_int (pa_cons pe_int pa_nil))))) (pps_cons pe_str (pe_tupF (pa_cons pe_int (pa_cons pe_int (pa_cons pe_int (pa_cons pe_int pa_nil))))) pps_nil))) (by rfl) (by rfl) (fun z => by cases z) (by decide)))
  (pss_cons (ps_if (pt_cmpR op_eq (pe_callF G__law_take (hr.mono (by decide)) rfl pass0 (pa_cons (pv 0) (pa_cons pe_int pa_nil))) pe_int (nomark _)) (pss_one (ps_ret (pe_ix (kx_tup (K := K)) (pe_dget (hu_of hr) (pv 2) (pv 1) (fun _ _ => rfl)) (pe_un un_neg pe_int) (fun _ _ => rfl)))) pss_nil)
  (pss_one (ps_ret (pe_callF G__law_pick (hr.mono (by decide)) rfl pass0 (pa_cons (pv 0) (pa_cons (pe_dget (hu_of hr) (pv 2) (pv 1) (fun _ _ => rfl)) pa_nil))))))), ?_⟩)
  · obtain ⟨a, R, s, rfl, _⟩ := h
    rfl
  · obtain ⟨a, R, s, rfl, hw, k⟩ := h
    refine fun p hp => ⟨by show 13 ≤ sizeLine; decide, fun f1 o1 hf1 ho1 => ⟨by show 4 ≤ sizeLine; decide, fun f2 o2 hf2 ho2 => ⟨by show 4 ≤ sizeLine; decide, fun f3 o3 hf3 ho3 => ?_⟩⟩⟩
    have w0 := hw.new (o := .dK []) hp
    have w1 := w0.new (o := .frz o1 (.tup ((lens .two).map V.int))) hf1
    have w2 := w1.new (o := .frz o2 (.tup ((lens .twice).map V.int))) hf2
    have w3 := w2.new (o := .frz o3 (.tup ((lens .three).map V.int))) hf3
    have r0 := Ex.new (o := .dK []) (hw.free hp)
    have r1 := Ex.new (o := .frz o1 (.tup ((lens .two).map V.int))) (w0.free hf1)
    have r2 := Ex.new (o := .frz o2 (.tup ((lens .twice).map V.int))) (w1.free hf2)
    have r3 := Ex.new (o := .frz o3 (.tup ((lens .three).map V.int))) (w2.free hf3)
    have t1 := (Tp.of (K := K) ho1 (upd_same (H := upd R p (.dK [])) (a := f1) (o := .frz o1 (.tup ((lens .two).map V.int))))).ex (r2.trans r3)
    have t2 := (Tp.of (K := K) ho2 (upd_same (H := upd (upd R p (.dK [])) f1 (.frz o1 (.tup ((lens .two).map V.int)))) (a := f2) (o := .frz o2 (.tup ((lens .twice).map V.int))))).ex r3
    have t3 := Tp.of (K := K) ho3 (upd_same (H := upd (upd (upd R p (.dK [])) f1 (.frz o1 (.tup ((lens .two).map V.int)))) f2 (.frz o2 (.tup ((lens .twice).map V.int)))) (a := f3) (o := .frz o3 (.tup ((lens .three).map V.int))))
    have d3 := (r1.trans (r2.trans r3)) _ _ (upd_same (H := R) (a := p) (o := .dK []))
    have q3 := r0.trans (r1.trans (r2.trans r3))
    generalize upd (upd (upd (upd R p (.dK [])) f1 (.frz o1 (.tup ((lens .two).map V.int)))) f2 (.frz o2 (.tup ((lens .twice).map V.int)))) f3 (.frz o3 (.tup ((lens .three).map V.int))) = R3 at w3 t1 t2 t3 d3 q3
    clear r0 r1 r2 r3 w0 w1 w2
    have w4 := w3.mut (o' := .dK (mergeK [] [(Sum.inr "two", .ref f1), (Sum.inr "twice", .ref f2), (Sum.inr "three", .ref f3)])) d3
    have q4 : Ex R (upd R3 p (.dK (mergeK [] [(Sum.inr "two", .ref f1), (Sum.inr "twice", .ref f2), (Sum.inr "three", .ref f3)]))) := ex_side q3 (hw.free hp)
    replace t1 := t1.dmut (o' := .dK (mergeK [] [(Sum.inr "two", .ref f1), (Sum.inr "twice", .ref f2), (Sum.inr "three", .ref f3)])) d3
    replace t2 := t2.dmut (o' := .dK (mergeK [] [(Sum.inr "two", .ref f1), (Sum.inr "twice", .ref f2), (Sum.inr "three", .ref f3)])) d3
    replace t3 := t3.dmut (o' := .dK (mergeK [] [(Sum.inr "two", .ref f1), (Sum.inr "twice", .ref f2), (Sum.inr "three", .ref f3)])) d3
    have d4 : upd R3 p (.dK (mergeK [] [(Sum.inr "two", .ref f1), (Sum.inr "twice", .ref f2), (Sum.inr "three", .ref f3)])) p = some (.dK (mergeK [] [(Sum.inr "two", .ref f1), (Sum.inr "twice", .ref f2), (Sum.inr "three", .ref f3)])) := upd_same
    have t : Tp K (upd R3 p (.dK (mergeK [] [(Sum.inr "two", .ref f1), (Sum.inr "twice", .ref f2), (Sum.inr "three", .ref f3)]))) (pick3 s f1 f2 f3) ((lens s).map V.int) := by cases s <;> assumption
    generalize upd R3 p (.dK (mergeK [] [(Sum.inr "two", .ref f1), (Sum.inr "twice", .ref f2), (Sum.inr "three", .ref f3)])) = R4 at w4 q4 t d4
    refine ⟨w3.ex _ _ d3, [(Sum.inr "two", .ref f1), (Sum.inr "twice", .ref f2), (Sum.inr "three", .ref f3)], rfl, by show 3 ≤ 15; decide, ?_⟩
    have pk : ∀ H' : Hp, Bx a R4 H' → DGet H' p (.str s.s) (some (.ref (pick3 s f1 f2 f3))) := fun H' w => by
      have := get3 s (w.ex _ _ d4)
      cases s <;> exact this
    have ret : ∀ (x : Int) (H' : Hp), x ∈ lens s → Bx a R4 H' → Q (.int x) H' := fun x H' hx w => by
      obtain ⟨n, rfl, h1, h2⟩ := lens_ok s x hx
      exact k n H' h1 h2 (w.weak q4)
    refine ⟨_, rfl, a, R4, 3, rfl, w4, by decide, by decide, fun r H5 r0 r1 w5 => ⟨rfl, _, rfl, ?_⟩⟩
    rw [dec_int]
    cases c : r == 0 with
    | true =>
      refine iteT ⟨_, rfl, _, rfl, p, _, rfl, pk _ w5, _, rfl, pick3 s f1 f2 f3, _, _, .int (pick3 s 24 24 16), rfl, rfl, (t.ex w5.ex).sq, by cases s <;> rfl, ret _ _ (by cases s <;> decide) w5⟩
    | false =>
      refine iteF ⟨_, rfl, _, rfl, _, rfl, p, _, rfl, pk _ w5, a, _, true, R4, _, rfl, w5, sqb_t t, by cases s <;> simp [lens], by cases s <;> decide, fun i v H6 hv w6 => ?_⟩
      obtain ⟨rfl, hi⟩ := int_at hv
      exact ret _ _ (Own.getD_mem hi) w6
end
end K45

namespace K45
open PySem PySem.Spec PyProof.Rows L2 Evl Own
def spNoSort : Sp := fun vs H Q _ => ∃ (a : Addr) (R : Hp), vs = [.ref a] ∧ Bx a R H ∧ ∀ (z : Str) (H' : Hp), z ∉ dSTEPS.map (·.1) → Bx a R H' → Q (.str z) H'
def changedL (z : Str) : List Str := [z ++ "s", Txt.slice z (some 1) none, z ++ " ", (" " : Str) ++ z, Txt.upper z, Txt.slice z none (some (-1)), z ++ z, "own", "code", ""]
def moreL (z : Str) : List Str := ["one", "four", "2", "thrice", Txt.replace z "t" "T", z ++ "\n"]
theorem no_sorts (s : Srt) : ∀ z ∈ changedL s.s ++ moreL s.s, z ∉ dSTEPS.map (·.1) := by
  cases s <;> decide +kernel
theorem s_len (s : Srt) : s.s.length ≤ 5 := by
  cases s <;> decide
section
variable {P : Program} {w : World} {K : PySem.W.Frag} {mg : Str → Option Value} {base : Heap} {f : Addr} {fd : FuncData}
theorem ok__law_no_sort (F : FnP K "_law_no_sort" s__law_no_sort f fd) (Z : Zs mg) (G__law_pick : Fn P w K mg base CX0 2 "_law_pick" s__law_pick ["box", "some"] (spPick K)) : FnOk P w K mg base CX0 3 f fd ["box"] spNoSort := by
  refine F.ok sc__law_no_sort (fun vs H Q E h => ?_) (fun cdv A outer s H vs Q E hr h => ⟨_, PSs.nox (pss_cons (ps_set (i := 1) sc__law_no_sort.nd rfl (by first | exact Or.inl rfl | exact Or.inr rfl) (pe_callF G__law_pick (hr.mono (by decide)) rfl pass0 (pa_cons (pv 0) (pa_cons (pe_lst (pa_cons pe_str (pa_cons pe_str (pa_cons pe_str pa_nil)))) pa_nil))))
  (pss_cons (ps_set (i := 2) sc__law_no_sort.nd rfl (by first | exact Or.inl rfl | exact Or.inr rfl) (pe_lst (pa_cons (pe_op op_add_str (pv 1) pe_str) (pa_cons (pe_slice C8.sl_txt (pv 1) (po_some pe_int) po_none) (pa_cons (pe_op op_add_str (pv 1) pe_str) (pa_cons (pe_op op_add_str pe_str (pv 1)) (pa_cons (km_bm0 (K := K) PySem.F.plainAttrs_str PySem.F.slot_str_upper PySem.F.type_str_upper mt_upper (pv 1)) (pa_cons (pe_slice C8.sl_txt (pv 1) po_none (po_some (pe_un un_neg pe_int))) (pa_cons (pe_op op_add_str (pv 1) (pv 1)) (pa_cons pe_str (pa_cons pe_str (pa_cons pe_str pa_nil))))))))))))
  (pss_one (ps_ret (pe_callF G__law_pick (hr.mono (by decide)) rfl pass0 (pa_cons (pv 0) (pa_cons (pe_op op_cat (pv 2) (pe_lst (pa_strT (pat_cons (CwR.PET.of pe_str) (pat_cons (CwR.PET.of pe_str) (pat_cons (CwR.PET.of pe_str) (pat_cons (CwR.pet_replC (pv 1)) (pat_cons (CwR.PET.of (pe_op op_add_str (pv 1) pe_str)) pat_nil)))))))) pa_nil))))))), ?_⟩)
  · obtain ⟨a, R, rfl, _⟩ := h
    rfl
  · obtain ⟨a, R, rfl, hw, k⟩ := h
    refine ⟨_, rfl, by show 3 ≤ sizeLine; decide, fun L hL => ?_⟩
    have RL := hw.free hL
    have w1 := hw.new (o := .lst [V.str "two", .str "twice", .str "three"]) hL
    refine ⟨a, L, false, _, [V.str "two", .str "twice", .str "three"], rfl, w1, sqb_l upd_same, by simp, by show 3 ≤ 100; decide, fun i v H2 hv w2 => ?_⟩
    have w3 := w2.weak (Ex.new RL)
    have hs : ∃ s : Srt, v = .str s.s := by
      have h := List.mem_of_getElem? hv
      rcases List.mem_cons.mp h with rfl | h
      · exact ⟨.two, rfl⟩
      rcases List.mem_cons.mp h with rfl | h
      · exact ⟨.twice, rfl⟩
      · rw [List.mem_singleton.mp h]
        exact ⟨.three, rfl⟩
    obtain ⟨s, rfl⟩ := hs
    have ns := no_sorts s
    have sl := s_len s
    have ss : ∀ {n : Nat}, n ≤ 20 → n ≤ sizeLine := fun h => Nat.le_trans h (by decide)
    generalize s.s = z at *
    refine ⟨_, rfl, _, _, rfl, rfl, ss (by show z.length + 1 ≤ 20; omega), ?_⟩
    refine ⟨_, rfl, 1, rfl, z, rfl, ss (by omega), ?_⟩
    refine ⟨_, rfl, _, _, rfl, rfl, ss (by show z.length + 1 ≤ 20; omega), ?_⟩
    refine ⟨_, rfl, _, _, rfl, rfl, ss (by show 1 + z.length ≤ 20; omega), ?_⟩
    refine ⟨_, rfl, rfl, z, rfl, rfl, Nat.le_trans (show z.length ≤ 20 by omega) (by decide), ?_⟩
    refine ⟨_, rfl, _, rfl, _, rfl, z, rfl, ss (by omega), ?_⟩
    refine ⟨_, rfl, _, rfl, _, _, rfl, rfl, ss (by show z.length + z.length ≤ 20; omega), ?_⟩
    refine ⟨by show 10 ≤ sizeLine; decide, fun M hM => ?_⟩
    have RM := w3.free hM
    have w4 := w3.new (o := .lst ((changedL z).map V.str)) hM
    have e4 := Ex.new (o := .lst ((changedL z).map V.str)) RM
    have M4 : upd R M (.lst ((changedL z).map V.str)) M = some (.lst ((changedL z).map V.str)) := upd_same
    have h17 : z.length + (z.length + 1) * 1 ≤ 16777216 := by omega
    refine ⟨_, rfl, _, rfl, _, rfl, z, rfl, h17, _, rfl, _, _, rfl, rfl, ss (by show z.length + 1 ≤ 20; omega), by show 6 ≤ sizeLine; decide, fun N hN => ?_⟩
    generalize upd R M (.lst ((changedL z).map V.str)) = R4 at w4 e4 M4
    have hN' : (upd H2 M (.lst ((changedL z).map V.str))) N = none := hN
    clear hN
    have w5 := w4.new (o := .lst ((moreL z).map V.str)) hN'
    have e5 := Ex.new (o := .lst ((moreL z).map V.str)) (w4.free hN')
    have N5 : upd R4 N (.lst ((moreL z).map V.str)) N = some (.lst ((moreL z).map V.str)) := upd_same
    have M5 := e5 _ _ M4
    refine ⟨M, N, (changedL z).map V.str, (moreL z).map V.str, rfl, rfl, w5.ex _ _ M5, w5.ex _ _ N5, by show 10 + 6 ≤ sizeLine; decide, fun O hO => ?_⟩
    have w6 := w5.new (o := .lst ((changedL z ++ moreL z).map V.str)) hO
    have e6 := Ex.new (o := .lst ((changedL z ++ moreL z).map V.str)) (w5.free hO)
    refine ⟨a, O, false, upd (upd R4 N (.lst ((moreL z).map V.str))) O (.lst ((changedL z ++ moreL z).map V.str)), (changedL z ++ moreL z).map V.str, rfl, ?_, sqb_l upd_same, by simp [changedL], by show 16 ≤ 100; decide, fun i v H7 hv w7 => ?_⟩
    · have := w6
      rw [List.map_append] at this
      exact this
    · rw [List.getElem?_map] at hv
      cases hx : (changedL z ++ moreL z)[i]? with
      | none =>
        rw [hx] at hv
        cases hv
      | some y =>
        rw [hx] at hv
        cases hv
        exact k y H7 (ns y (List.mem_of_getElem? hx)) (((w7.weak e6).weak e5).weak e4)
end
end K45

namespace K45
open PySem PySem.Spec PyProof.Rows L2 Evl Own
/-! ### rows -/
def firstF (xs : List Int) : Nat := xs.findIdx (fun x => x != 0)
def dotF (xs ys : List Int) : Int := ((List.range xs.length).map fun i => xs.getD i 0 * ys.getD i 0).sum
def worthF (q : Nat) (xs ys : List Int) : Int := dotF xs ys % (q : Int)
def weightF (xs : List Int) : Nat := xs.length - xs.count 0
def RowOk (q n : Nat) (xs : List Int) : Prop := xs.length = n ∧ ∀ x ∈ xs, 0 ≤ x ∧ x < (q : Int)
instance (q n : Nat) (xs : List Int) : Decidable (RowOk q n xs) := inferInstanceAs (Decidable (_ ∧ _))
theorem RowOk.at {q n : Nat} {xs : List Int} (h : RowOk q n xs) (hq : q ≤ 3) (i : Nat) : 0 ≤ xs.getD i 0 ∧ xs.getD i 0 ≤ 3 := by
  rw [List.getD_eq_getElem?_getD]
  cases e : xs[i]? with
  | none => exact ⟨Int.le_refl 0, by decide⟩
  | some x =>
    have := h.2 x (List.mem_of_getElem? e)
    show 0 ≤ x ∧ x ≤ 3
    omega
def insideB (q : Nat) (rows : List (List Int)) : Bool := (List.range rows.length).all fun i => (rows.drop i).all fun o => worthF q (rows.getD i []) o == 0
def spFirst (K : PySem.W.Frag) : Sp := fun vs H Q _ => ∃ (p : Addr) (xs : List Int), vs = [.ref p] ∧ Tp K H p (iL xs) ∧ xs.length ≤ 1000 ∧ Q (.int (firstF xs : Nat)) H
def spWorth (K : PySem.W.Frag) : Sp := fun vs H Q _ => ∃ (q n : Nat) (p r : Addr) (xs ys : List Int), vs = [.int (q : Int), .ref p, .ref r] ∧ Tp K H p (iL xs) ∧ Tp K H r (iL ys) ∧ n ≤ 1000 ∧ 2 ≤ q ∧ q ≤ 3 ∧ RowOk q n xs ∧ RowOk q n ys ∧ ∀ H', Ex H H' → Q (.int (worthF q xs ys)) H'
def spWeight (K : PySem.W.Frag) : Sp := fun vs H Q _ => ∃ (p : Addr) (xs : List Int), vs = [.ref p] ∧ Tp K H p (iL xs) ∧ Q (.int (weightF xs : Nat)) H
def spInside (K : PySem.W.Frag) : Sp := fun vs H Q _ => ∃ (q n : Nat) (p : Addr) (rows : List (List Int)), vs = [.int (q : Int), .ref p] ∧ TpR K H p rows ∧ n ≤ 1000 ∧ rows.length ≤ 1000 ∧ 2 ≤ q ∧ q ≤ 3 ∧ (∀ r ∈ rows, RowOk q n r) ∧ ∀ H', Ex H H' → Q (.bl (insideB q rows)) H'
/-- ints and tuples of such, to a depth -/
def Pn (K : PySem.W.Frag) (H : Hp) : Nat → V → Prop
  | 0, v => ∃ i, v = .int i
  | n + 1, v => (∃ i, v = .int i) ∨ ∃ p xs, v = .ref p ∧ Tp K H p xs ∧ xs.length ≤ 1000 ∧ ∀ x ∈ xs, Pn K H n x
theorem Pn.ex {K : PySem.W.Frag} {H H1 : Hp} (e : Ex H H1) : ∀ {n : Nat} {v : V}, Pn K H n v → Pn K H1 n v
  | 0, _, h => h
  | n + 1, _, h => by
    rcases h with h | ⟨p, xs, h1, h2, h3, h4⟩
    · exact .inl h
    · exact .inr ⟨p, xs, h1, h2.ex e, h3, fun x hx => Pn.ex e (h4 x hx)⟩
def spPlain (K : PySem.W.Frag) (n : Nat) : Sp := fun vs H Q _ => ∃ v, vs = [v] ∧ Pn K H n v ∧ ∀ H', Ex H H' → Q (.bl true) H'
section
variable {P : Program} {w : World} {K : PySem.W.Frag} {mg : Str → Option Value} {base : Heap} {f : Addr} {fd : FuncData}
theorem first_of {xs : List Int} {i : Nat} (hi : i < xs.length) (h0 : ∀ j, j < i → xs.getD j 0 = 0) (h : xs.getD i 0 ≠ 0) : firstF xs = i := by
  unfold firstF
  rw [List.findIdx_eq hi]
  have g : ∀ j (hj : j < xs.length), xs.getD j 0 = xs[j] := fun j hj => by rw [List.getD_eq_getElem?_getD, List.getElem?_eq_getElem hj]; rfl
  refine ⟨?_, fun j hj => ?_⟩
  · rw [← g i hi]
    simpa using h
  · have := h0 j hj
    rw [g j (by omega)] at this
    simp [this]
theorem first_none {xs : List Int} (h0 : ∀ j, j < xs.length → xs.getD j 0 = 0) : firstF xs = xs.length := by
  unfold firstF
  rw [List.findIdx_eq_length]
  intro x hx
  obtain ⟨j, hj, rfl⟩ := List.getElem_of_mem hx
  have := h0 j hj
  rw [List.getD_eq_getElem?_getD, List.getElem?_eq_getElem hj] at this
  have : xs[j] = 0 := this
  simp [this]
theorem ok__law_first (F : FnP K "_law_first" s__law_first f fd) (Z : Zs mg) : FnOk P w K mg base CX0 1 f fd ["row"] (spFirst K) := by
  refine F.ok sc__law_first (fun vs H Q E h => ?_) (fun cdv A outer s H vs Q E hr h => ⟨_, PSs.nox (pss_cons (ps_for PassesOwn.never rfl (pi_range1 (by rfl) Z.range (pa_cons (pe_callB (kc_len (K := K)) (by rfl) Z.len PySem.boot_len (pa_cons (pv 0) pa_nil)) pa_nil)) (pg_name (i := 1) sc__law_first.nd rfl (by first | exact Or.inl rfl | exact Or.inr rfl)) (pss_one (ps_if (pt_cmpR op_ne (pe_ix (kx_tup (K := K)) (pv 0) (pv 1) (fun _ _ => rfl)) pe_int (nomark _)) (pss_one (ps_ret (pv 1))) pss_nil)))
  (pss_one (ps_ret (pe_callB (kc_len (K := K)) (by rfl) Z.len PySem.boot_len (pa_cons (pv 0) pa_nil))))), ?_⟩)
  · obtain ⟨p, xs, rfl, _⟩ := h
    rfl
  · obtain ⟨p, xs, rfl, hp, few, k⟩ := h
    refine ⟨_, rfl, p, _, rfl, .inr hp.sq, _, rfl, by omega, by unfold iL; rw [List.length_map]; omega, ?_⟩
    unfold iL
    rw [List.length_map, Int.toNat_natCast]
    refine for_range (lo := 0) (n := xs.length) (fun i σ H' => H' = H ∧ (∀ j, j < i → xs.getD j 0 = 0) ∧ ∃ v, σ = [some (.ref p), v]) ⟨rfl, fun j hj => by omega, none, rfl⟩ (fun i σ H' hi y => ?_) (fun σ H' y => ?_)
    · obtain ⟨rfl, h0, v, rfl⟩ := y
      have e0 : (0 : Int) + (i : Int) = (i : Int) := by omega
      show gName _ (V.int ((0 : Int) + (i : Int))) _ _ _
      rw [e0]
      refine ⟨_, rfl, _, rfl, p, _, _, _, rfl, rfl, hp.sq, atI_int hi, rfl, _, rfl, ?_⟩
      rw [dec_int]
      by_cases c : xs.getD i 0 = 0
      · rw [c]
        refine iteF ⟨rfl, fun j hj => ?_, _, rfl⟩
        by_cases e : j = i
        · rw [e]
          exact c
        · exact h0 j (by omega)
      · rw [beq_eq_false_iff_ne.mpr c]
        refine iteT ⟨_, rfl, ?_⟩
        rw [first_of hi h0 c] at k
        exact k
    · obtain ⟨rfl, h0, v, rfl⟩ := y
      rw [first_none h0] at k
      refine ⟨_, rfl, p, _, rfl, .inr hp.sq, ?_⟩
      unfold iL
      rw [List.length_map]
      exact k
theorem ok__law_worth (F : FnP K "_law_worth" s__law_worth f fd) (Z : Zs mg) : FnOk P w K mg base CX0 1 f fd ["letters", "one", "other"] (spWorth K) := by
  refine F.ok sc__law_worth (fun vs H Q E h => ?_) (fun cdv A outer s H vs Q E hr h => ⟨_, PSs.nox (pss_one (ps_ret (pe_op op_mod (pe_callTy call_int1 (by rfl) Z.int (by decide +kernel) (pa_cons (pe_callB (kc_sum (K := K) rfl) (by rfl) Z.sum (by decide +kernel) (pa_cons (pe_lc (own := [("at", 3)]) (g := (gName 3)) rfl sc__law_worth.nd (pi_range1 (by rfl) Z.range (pa_cons (pe_callB (kc_len (K := K)) (by rfl) Z.len PySem.boot_len (pa_cons (pv 1) pa_nil)) pa_nil)) (blkOk_by (own := [("at", 3)]) (N := ["letters", "one", "other", "at"]) (sc := defScope s__law_worth) (by decide +kernel)) (fun _ _ _ _ _ => (pg_name (i := 3) sc__law_worth.nd rfl (Or.inl rfl))) (fun _ _ _ _ _ => pts_nil) (fun _ _ _ _ _ => (pe_op op_mul (pe_ix (kx_tup (K := K)) (pv 1) (pv 3) (fun _ _ => rfl)) (pe_ix (kx_tup (K := K)) (pv 2) (pv 3) (fun _ _ => rfl))))) pa_nil)) pa_nil)) (pv 0)))), ?_⟩)
  · obtain ⟨q, n, p, r, xs, ys, rfl, _⟩ := h
    rfl
  · obtain ⟨q, n, p, r, xs, ys, rfl, hp, hr', few, q0, q1, ox, oy, k⟩ := h
    have lx := ox.1
    have ly := oy.1
    refine ⟨_, rfl, p, _, rfl, .inr hp.sq, _, rfl, by omega, by unfold iL; rw [List.length_map]; omega, ?_⟩
    unfold iL at hp hr' ⊢
    rw [List.length_map, Int.toNat_natCast]
    refine lcP (walk_range (lo := 0)) (fun _ _ => trivial) (by omega) (fun _ => true) (fun i => V.int (xs.getD i 0 * ys.getD i 0)) (fun i H1 x H2 hi e y K1 K0 k1 k0 => ?_) (fun d H2 hd e2 h2 => ?_)
    · obtain ⟨rfl, rfl⟩ := y
      have e0 : (0 : Int) + (i : Int) = (i : Int) := by omega
      show gName _ (V.int ((0 : Int) + (i : Int))) _ _ _
      rw [e0]
      have bx := ox.at q1 i
      exact ⟨rfl, yes_go ⟨_, rfl, _, rfl, p, _, _, _, rfl, rfl, (hp.ex e).sq, atI_int hi, _, rfl, _, rfl, r, _, _, _, rfl, rfl, (hr'.ex e).sq, atI_int (by omega), _, _, rfl, rfl, .inl ⟨by omega, by omega⟩, k1 rfl _ (Ex.refl _)⟩⟩
    · rw [given_all] at h2
      have e : (List.range xs.length).map (fun i => V.int (xs.getD i 0 * ys.getD i 0)) = ((List.range xs.length).map fun i => xs.getD i 0 * ys.getD i 0).map V.int := by
        rw [List.map_map]
        rfl
      rw [e] at h2
      exact ⟨d, _, rfl, sq_of h2, .inl ⟨_, rfl, _, rfl, _, _, rfl, rfl, by omega, k _ e2⟩⟩
theorem ok__law_weight (F : FnP K "_law_weight" s__law_weight f fd) (Z : Zs mg) : FnOk P w K mg base CX0 1 f fd ["row"] (spWeight K) := by
  refine F.ok sc__law_weight (fun vs H Q E h => ?_) (fun cdv A outer s H vs Q E hr h => ⟨_, PSs.nox (pss_one (ps_ret (pe_op op_sub (pe_callB (kc_len (K := K)) (by rfl) Z.len PySem.boot_len (pa_cons (pv 0) pa_nil)) (km_count (K := K) (pv 0) (pa_cons pe_int pa_nil))))), ?_⟩)
  · obtain ⟨p, xs, rfl, _⟩ := h
    rfl
  · obtain ⟨p, xs, rfl, hp, k⟩ := h
    refine ⟨_, rfl, p, _, rfl, .inr hp.sq, _, rfl, ⟨p, _, rfl, hp⟩, p, xs, 0, rfl, rfl, hp, _, _, rfl, rfl, ?_⟩
    have e : ((iL xs).length : Int) - ((xs.count 0 : Nat) : Int) = ((weightF xs : Nat) : Int) := by
      unfold weightF iL
      rw [List.length_map]
      have := List.count_le_length (a := (0 : Int)) (l := xs)
      omega
    show Q (V.int (((iL xs).length : Int) - ((xs.count 0 : Nat) : Int))) H
    rw [e]
    exact k
end
end K45

namespace K45
open PySem PySem.Spec PyProof.Rows L2 Evl Own
section
variable {P : Program} {w : World} {K : PySem.W.Frag} {mg : Str → Option Value} {base : Heap} {f : Addr} {fd : FuncData}
theorem cut_at {xs : List V} {i : Nat} (h : i ≤ xs.length) : cutV xs (some (i : Int)) none = xs.drop i := by
  unfold cutV
  have e1 : HT.sIx xs.length 0 (some (i : Int)) = i := by
    show HT.sIx xs.length 0 (some (i : Int)) = i
    rw [HT.sIx_nat]
    omega
  have e2 : HT.sIx xs.length xs.length none = xs.length := rfl
  rw [e1, e2]
  exact List.take_of_length_le (by rw [List.length_drop]; omega)
theorem no_part {σ : L2.St} {H : Hp} {Q : Option Int → Hp → Prop} (h : Q none H) : tNoPart σ H Q := h
theorem ref_at {es : List Addr} {i : Nat} {x : V} (h : (es.map V.ref)[i]? = some x) : ∃ e, x = .ref e ∧ es[i]? = some e := by
  rw [List.getElem?_map] at h
  cases he : es[i]? with
  | none =>
    rw [he] at h
    cases h
  | some e =>
    rw [he] at h
    cases h
    exact ⟨e, rfl, rfl⟩
theorem ok__law_inside (F : FnP K "_law_inside" s__law_inside f fd) (Z : Zs mg) (G__law_worth : Fn P w K mg base CX0 1 "_law_worth" s__law_worth ["letters", "one", "other"] (spWorth K)) : FnOk P w K mg base CX0 2 f fd ["letters", "rows"] (spInside K) := by
  refine F.ok sc__law_inside (fun vs H Q E h => ?_) (fun cdv A outer s H vs Q E hr h => ⟨_, PSs.nox (pss_cons (ps_for PassesOwn.never rfl (pi_range1 (by rfl) Z.range (pa_cons (pe_callB (kc_len (K := K)) (by rfl) Z.len PySem.boot_len (pa_cons (pv 1) pa_nil)) pa_nil)) (pg_name (i := 2) sc__law_inside.nd rfl (by first | exact Or.inl rfl | exact Or.inr rfl)) (pss_one (ps_for PassesOwn.never rfl (pi_tup (pe_slice (ksl_tup (K := K)) (pv 1) (po_some (pv 2)) po_none)) (pg_name (i := 3) sc__law_inside.nd rfl (by first | exact Or.inl rfl | exact Or.inr rfl)) (pss_one (ps_if (pt_cmpR op_ne (pe_callF G__law_worth (hr.mono (by decide)) rfl pass0 (pa_cons (pv 0) (pa_cons (pe_ix (kx_tup (K := K)) (pv 1) (pv 2) (fun _ _ => rfl)) (pa_cons (pv 3) pa_nil)))) pe_int (nomark _)) (pss_one (ps_ret pe_bl)) pss_nil)))))
  (pss_one (ps_ret pe_bl))), ?_⟩)
  · obtain ⟨q, n, p, rows, rfl, _⟩ := h
    rfl
  · obtain ⟨q, n, p, rows, rfl, hp, hn, few, q0, q1, ok, k⟩ := h
    obtain ⟨es, hes, lg⟩ := hp
    have el := lg.len
    refine ⟨_, rfl, p, _, rfl, .inr hes.sq, _, rfl, by omega, by rw [List.length_map]; omega, ?_⟩
    rw [List.length_map, Int.toNat_natCast, el]
    refine for_range (lo := 0) (n := rows.length) (fun i σ H' => Ex H H' ∧ ((List.range i).all fun i => (rows.drop i).all fun o => worthF q (rows.getD i []) o == 0) = true ∧ ∃ v2 v3, σ = [some (.int (q : Int)), some (.ref p), v2, v3]) ⟨Ex.refl _, rfl, none, none, rfl⟩ (fun i σ H' hi y => ?_) (fun σ H' y => ?_)
    · obtain ⟨ex, done, v2, v3, rfl⟩ := y
      have e0 : (0 : Int) + (i : Int) = (i : Int) := by omega
      show gName _ (V.int ((0 : Int) + (i : Int))) _ _ _
      rw [e0]
      have hei : i < es.length := by omega
      refine ⟨_, rfl, _, rfl, _, rfl, ?_⟩
      refine no_part (sl_ret (hes.ex ex) (fun c H2 e2 hc => ?_))
      rw [cut_at (by rw [List.length_map]; omega), ← List.map_drop] at hc
      have ld : ((rows.drop i).map fun o => o).length = (es.drop i).length := by rw [List.length_map, List.length_drop, List.length_drop, el]
      refine ⟨c, rfl, ⟨_, hc.sq⟩, for_it walk_tup (fun j σ H'' => Ex H2 H'' ∧ ((rows.drop i).take j).all (fun o => worthF q (rows.getD i []) o == 0) = true ∧ ∃ v3, σ = [some (.int (q : Int)), some (.ref p), some (.int (i : Int)), v3]) ⟨Ex.refl _, rfl, v3, rfl⟩ (fun j σ H' _ h => (hc.ex h.1).sq) (fun j x σ H3 H4 hj h y => ?_) (fun σ H3 h => ?_)⟩
      · obtain ⟨ex3, dn, v3, rfl⟩ := h
        obtain ⟨rfl, g⟩ := y
        obtain ⟨e, rfl, ge⟩ := ref_at g
        have hj' : j < (es.drop i).length := (List.getElem?_eq_some_iff.mp ge).1
        rw [List.length_drop] at hj'
        have hij : i + j < rows.length := by omega
        have ge2 : es[i + j]? = some e := by rw [← ge, List.getElem?_drop]
        have gi : es[i]? = some es[i] := List.getElem?_eq_getElem _
        have ri : rows[i]? = some rows[i] := List.getElem?_eq_getElem _
        have rj : rows[i + j]? = some rows[i + j] := List.getElem?_eq_getElem _
        have x2 := ex.trans (e2.trans ex3)
        have t1 := (lg.at_ i _ _ gi ri).ex x2
        have t2 := (lg.at_ (i + j) _ _ ge2 rj).ex x2
        have rD : rows.getD i [] = rows[i] := by rw [List.getD_eq_getElem?_getD, ri]; rfl
        have rdj : (rows.drop i)[j]? = some rows[i + j] := by rw [List.getElem?_drop, rj]
        have tk : (rows.drop i).take (j + 1) = (rows.drop i).take j ++ [rows[i + j]] := by
          rw [List.take_add_one, rdj]
          rfl
        refine ⟨_, rfl, _, rfl, _, rfl, p, _, _, .ref es[i], rfl, rfl, (hes.ex x2).sq, atI_nat (by rw [List.getElem?_map, gi]; rfl), _, rfl, q, n, es[i], e, rows[i], rows[i + j], rfl, t1, t2, hn, q0, q1, ok _ (List.getElem_mem _), ok _ (List.getElem_mem _), fun H5 e5 => ⟨rfl, _, rfl, ?_⟩⟩
        rw [dec_int]
        rw [rD] at dn ⊢
        cases c : worthF q rows[i] rows[i + j] == 0 with
        | true => exact iteF ⟨ex3.trans e5, by rw [tk, List.all_append, dn]; simp [c], _, rfl⟩
        | false =>
          refine iteT ?_
          have : insideB q rows = false := by
            unfold insideB
            rw [List.all_eq_false]
            refine ⟨i, List.mem_range.mpr hi, ?_⟩
            rw [Bool.not_eq_true, List.all_eq_false]
            refine ⟨rows[i + j], List.mem_of_getElem? rdj, ?_⟩
            rw [rD, c]
            exact Bool.false_ne_true
          rw [this] at k
          exact k _ (x2.trans e5)
      · obtain ⟨ex3, dn, v3, rfl⟩ := h
        refine ⟨ex.trans (e2.trans ex3), ?_, _, _, rfl⟩
        rw [List.length_map, List.length_drop] at dn
        rw [List.take_of_length_le (by rw [List.length_drop]; omega)] at dn
        rw [List.range_succ, List.all_append, done, List.all_cons, dn]
        rfl
    · obtain ⟨ex, done, v2, v3, rfl⟩ := y
      have : insideB q rows = true := done
      rw [this] at k
      exact k _ ex
end
end K45

namespace K45
open PySem PySem.Spec PyProof.Rows L2 Evl Own
/-- the least pieces one behind another: those of m of them, and j rows of the next -/
def ownBlock (s : Srt) (n k : Nat) : List (List Int) := s.pieces.map fun r => List.replicate (k * s.step) 0 ++ r ++ List.replicate (n - k * s.step - s.step) 0
def ownUp (s : Srt) (n : Nat) : Nat → List (List Int)
  | 0 => []
  | m + 1 => ownUp s n m ++ ownBlock s n m
def ownRows (s : Srt) (n : Nat) : List (List Int) := ownUp s n (n / s.step)
theorem pieces_len (s : Srt) : s.pieces.length ≤ 4 ∧ ∀ r ∈ s.pieces, r.length = s.step := by
  cases s <;> decide
theorem ownUp_len (s : Srt) (n : Nat) : ∀ m, (ownUp s n m).length ≤ 4 * m
  | 0 => Nat.le_refl _
  | m + 1 => by
    show (ownUp s n m ++ ownBlock s n m).length ≤ _
    have := ownUp_len s n m
    have p := (pieces_len s).1
    unfold ownBlock
    rw [List.length_append, List.length_map]
    omega
def spSome (K : PySem.W.Frag) : Sp := fun vs H Q _ => ∃ (s : Srt) (n : Nat), vs = [.str s.s, .int (n : Int)] ∧ n ≤ 24 ∧
  ((n % s.step ≠ 0 ∧ Q .non H) ∨ (n % s.step = 0 ∧ ∀ p r H', Ex H H' → Tp K H' p [.int (s.q : Nat), .int (n : Int), .ref r] → TpR K H' r (ownRows s n) → Q (.ref p) H'))
section
variable {P : Program} {w : World} {K : PySem.W.Frag} {mg : Str → Option Value} {base : Heap} {f : Addr} {fd : FuncData}
theorem rgC_own (s : Srt) : ∀ m, m < 13 → RgC 0 ((m * s.step : Nat) : Int) (s.step : Nat) m := by
  intro m hm
  refine ⟨by cases s <;> decide, by cases s <;> decide, ?_, ?_⟩
  · revert m
    cases s <;> decide +kernel
  · revert m
    cases s <;> decide +kernel
theorem ok_some_own (F : FnP K "some_own" s_some_own f fd) (Z : Zs mg) (C : Cs K w mg) (G_has_codes : Fn P w K mg base CX0 1 "has_codes" s_has_codes ["sort", "length"] spHas) : FnOk P w K mg base CX0 2 f fd ["sort", "length"] (spSome K) := by
  refine F.ok sc_some_own (fun vs H Q E h => ?_) (fun cdv A outer s H vs Q E hr h => ⟨_, PSs.nox (pss_cons (ps_if (pt_not (pt_val (pe_callF G_has_codes (hr.mono (by decide)) rfl pass0 (pa_cons (pv 0) (pa_cons (pv 1) pa_nil))))) (pss_one (ps_ret pe_non)) pss_nil)
  (pss_cons (ps_set (i := 2) sc_some_own.nd rfl (by first | exact Or.inl rfl | exact Or.inr rfl) (pe_kd C.STEPS rfl (pv 0) (fun _ _ => rfl)))
  (pss_cons (ps_set (i := 3) sc_some_own.nd rfl (by first | exact Or.inl rfl | exact Or.inr rfl) (pe_lst pa_nil))
  (pss_cons (ps_for PassesOwn.never rfl (pi_range3 (by rfl) Z.range (pa_cons pe_int (pa_cons (pv 1) (pa_cons (pv 2) pa_nil)))) (pg_name (i := 4) sc_some_own.nd rfl (by first | exact Or.inl rfl | exact Or.inr rfl)) (pss_one (ps_for PassesOwn.never rfl (pi_tup (pe_kd C.PIECES rfl (pv 0) (fun _ _ => rfl))) (pg_name (i := 5) sc_some_own.nd rfl (by first | exact Or.inl rfl | exact Or.inr rfl)) (pss_one (ps_expr (km_bm (K := K) PySem.F.plainAttrs_list PySem.F.slot_list_append PySem.F.type_list_append mt_append (pv 3) (pa_cons (pe_op (ko_cat (K := K)) (pe_op (ko_cat (K := K)) (pe_op (ko_rep (K := K)) (pe_tupF (pa_cons pe_int pa_nil)) (pv 4)) (pv 5)) (pe_op (ko_rep (K := K)) (pe_tupF (pa_cons pe_int pa_nil)) (pe_op op_sub (pe_op op_sub (pv 1) (pv 4)) (pv 2)))) pa_nil)))))))
  (pss_one (ps_ret (pe_tupF (pa_cons (pe_kd C.LETTERS rfl (pv 0) (fun _ _ => rfl)) (pa_cons (pv 1) (pa_cons (pe_callTy (kc_tuple (K := K)) (by rfl) Z.tuple (by decide +kernel) (pa_cons (pv 3) pa_nil)) pa_nil)))))))))), ?_⟩)
  · obtain ⟨s, n, rfl, _⟩ := h
    rfl
  · obtain ⟨s, n, rfl, hn, h⟩ := h
    have sp := s.step_pos
    refine ⟨_, rfl, _, rfl, s, n, rfl, _, rfl, ?_⟩
    rcases h with ⟨c, k⟩ | ⟨c, k⟩
    · rw [decide_eq_false c]
      exact iteT k
    · rw [decide_eq_true c]
      obtain ⟨m, rfl⟩ : ∃ m, n = m * s.step := ⟨n / s.step, by rw [Nat.mul_comm]; exact (Nat.mul_div_cancel' (Nat.dvd_of_mod_eq_zero c)).symm⟩
      have m13 : m < 13 := by
        have h2 : m * 2 ≤ m * s.step := Nat.mul_le_mul_left _ (by cases s <;> decide)
        omega
      refine iteF ⟨_, rfl, s.s, _, rfl, s.inSTEPS, fun v iv => ?_⟩
      obtain rfl : v = .int (s.step : Int) := iv
      refine ⟨by decide, fun L hL => ?_⟩
      have eL := Ex.new (o := .lst []) hL
      refine ⟨_, rfl, _, rfl, _, _, _, m, rfl, rgC_own s m m13, ?_⟩
      refine for_rangeC (lo := 0) (c := (s.step : Nat)) (n := m) (fun i σ H' => Ex H H' ∧ ∃ es v4 v5, H' L = some (.lst (es.map V.ref)) ∧ LstG iL K H' es (ownUp s (m * s.step) i) ∧ σ = [some (.str s.s), some (.int ((m * s.step : Nat) : Int)), some (.int (s.step : Nat)), some (.ref L), v4, v5]) ⟨eL, [], none, none, upd_same, LstG.nil, rfl⟩ (fun i σ H' hi y => ?_) (fun σ H' y => ?_)
      · obtain ⟨ex, es, v4, v5, hL', lg, rfl⟩ := y
        have e0 : (0 : Int) + (i : Nat) * ((s.step : Nat) : Int) = ((i * s.step : Nat) : Int) := by
          rw [Int.natCast_mul]
          omega
        show gName _ (V.int ((0 : Int) + (i : Nat) * ((s.step : Nat) : Int))) _ _ _
        rw [e0]
        refine ⟨_, rfl, s.s, _, rfl, s.inPIECES, fun v iv => ?_⟩
        obtain ⟨pp, rfl, hpp⟩ := IsDat.rows iv
        obtain ⟨ps, hps, lps⟩ := hpp H'
        have plen := pieces_len s
        have pl := lps.len
        have fits : i * s.step + s.step ≤ m * s.step := by
          have := Nat.mul_le_mul_right s.step (show i + 1 ≤ m by omega)
          rw [Nat.add_mul, Nat.one_mul] at this
          exact this
        have n24 : m * s.step ≤ 24 := hn
        have ul := ownUp_len s (m * s.step) i
        have bl : (ownBlock s (m * s.step) i).length = s.pieces.length := List.length_map ..
        refine ⟨pp, rfl, ⟨_, hps.sq⟩, for_it walk_tup (fun j σ H'' => Tp K H'' pp (ps.map V.ref) ∧ LstG iL K H'' ps s.pieces ∧ Ex H H'' ∧ ∃ es' v5, H'' L = some (.lst (es'.map V.ref)) ∧ LstG iL K H'' es' (ownUp s (m * s.step) i ++ (ownBlock s (m * s.step) i).take j) ∧ σ = [some (.str s.s), some (.int ((m * s.step : Nat) : Int)), some (.int (s.step : Nat)), some (.ref L), some (.int ((i * s.step : Nat) : Int)), v5])
          ⟨hps, lps, ex, es, v5, hL', by rw [List.take_zero, List.append_nil]; exact lg, rfl⟩ (fun j σ H'' _ h => h.1.sq) (fun j x σ H2 H3 hj h y => ?_) (fun σ H2 h => ?_)⟩
        · obtain ⟨hps2, lps2, ex2, es', v5, hL2, lg2, rfl⟩ := h
          obtain ⟨rfl, g⟩ := y
          obtain ⟨e, r, rfl, ge, gr, te⟩ := lps2.get g
          have rl : r.length = s.step := plen.2 r (List.mem_of_getElem? gr)
          have jl : j < s.pieces.length := (List.getElem?_eq_some_iff.mp gr).1
          have lz := lg2.len
          rw [List.length_append, List.length_take] at lz
          refine ⟨_, rfl, .inl ⟨rfl, _, sq_of hL2⟩, by show 1 ≤ sizeLine; decide, fun z o hz ho => ⟨_, rfl, rep_one (by omega) (by omega) (fun t1 H4 e4 h4 => ?_) z o hz ho⟩⟩
          rw [Int.toNat_natCast] at h4
          refine ⟨_, rfl, cat_ret h4 (te.ex e4) (Nat.le_of_lt (sz_lt (by unfold iL; rw [List.length_replicate, List.length_map]; omega))) (Ex.refl _) fun t2 H5 e5 h5 => ?_⟩
          refine ⟨by show 1 ≤ sizeLine; decide, fun z2 o2 hz2 ho2 => ⟨_, rfl, _, rfl, _, _, rfl, rfl, _, rfl, _, _, rfl, rfl, rep_one (by omega) (by omega) (fun t3 H6 e6 h6 => ?_) z2 o2 hz2 ho2⟩⟩
          rw [show (((m * s.step : Nat) : Int) - ((i * s.step : Nat) : Int) - ((s.step : Nat) : Int)).toNat = m * s.step - i * s.step - s.step by omega] at h6
          refine cat_ret (h5.ex e6) h6 (Nat.le_of_lt (sz_lt (by unfold iL; rw [List.length_append, List.length_replicate, List.length_replicate, List.length_map]; omega))) (Ex.refl _) fun t4 H7 e7 h7 => ?_
          have e27 := e4.trans (e5.trans (e6.trans e7))
          have hL7 := e27 _ _ hL2
          have row : List.replicate (i * s.step) (V.int 0) ++ iL r ++ List.replicate (m * s.step - i * s.step - s.step) (V.int 0) = iL (List.replicate (i * s.step) 0 ++ r ++ List.replicate (m * s.step - i * s.step - s.step) 0) := by
            unfold iL
            rw [List.map_append, List.map_append, List.map_replicate, List.map_replicate]
          rw [row] at h7
          have lg7 := (lg2.ex e27).push (f := iL) h7
          have em : es'.map V.ref ++ [V.ref t4] = (es' ++ [t4]).map V.ref := by rw [List.map_append]; rfl
          refine ⟨L, _, _, rfl, rfl, hL7, sz_lt (by rw [List.length_map]; omega), ?_⟩
          rw [em]
          refine ⟨(hps2.ex e27).mut hL7, (lps2.ex e27).mut hL7, ex_side (ex2.trans e27) hL, es' ++ [t4], _, upd_same, ?_, rfl⟩
          have tk : (ownBlock s (m * s.step) i).take (j + 1) = (ownBlock s (m * s.step) i).take j ++ [List.replicate (i * s.step) 0 ++ r ++ List.replicate (m * s.step - i * s.step - s.step) 0] := by
            rw [List.take_add_one]
            unfold ownBlock
            rw [List.getElem?_map, gr]
            rfl
          rw [tk, ← List.append_assoc]
          exact lg7.mut hL7
        · obtain ⟨hps2, lps2, ex2, es', v5, hL2, lg2, rfl⟩ := h
          rw [List.length_map, pl, List.take_of_length_le (by rw [bl]; exact Nat.le_refl _)] at lg2
          exact ⟨ex2, es', _, _, hL2, lg2, rfl⟩
      · obtain ⟨ex, es, v4, v5, hL', lg, rfl⟩ := y
        have md : m * s.step / s.step = m := Nat.mul_div_cancel _ sp.1
        refine ⟨_, rfl, s.s, _, rfl, s.inLETTERS, fun v iv => ?_⟩
        obtain rfl : v = .int (s.q : Int) := iv
        refine ⟨_, rfl, _, rfl, L, _, rfl, .inl ⟨sq_of hL', fun t o ht ho => ?_⟩⟩
        have et := Ex.new (o := .frz o (.tup (es.map V.ref))) ht
        have tt : Tp K (upd H' t (.frz o (.tup (es.map V.ref)))) t (es.map V.ref) := Tp.of ho upd_same
        refine ⟨by show 3 ≤ sizeLine; decide, fun t2 o2 ht2 ho2 => ?_⟩
        have et2 := Ex.new (o := .frz o2 (.tup [.int (s.q : Int), .int ((m * s.step : Nat) : Int), .ref t])) ht2
        refine k t2 t _ (ex.trans (et.trans et2)) (Tp.of ho2 upd_same) ⟨es, tt.ex et2, ?_⟩
        unfold ownRows
        rw [md]
        exact lg.ex (et.trans et2)
end
end K45

namespace K45
open PySem PySem.Spec PyProof.Rows L2 Evl Own
section
variable {P : Program} {w : World} {K : PySem.W.Frag} {mg : Str → Option Value} {base : Heap} {f : Addr} {fd : FuncData}
def spPlainR (K : PySem.W.Frag) : Nat → Sp
  | 0 => fun _ _ _ _ => False
  | n + 1 => spPlain K n
theorem ok__law_plain0 (F : FnP K "_law_plain" s__law_plain f fd) (Z : Zs mg) : FnOk P w K mg base CX0 1 f fd ["value"] (spPlainR K 0) :=
  F.ok sc__law_plain (fun vs H Q E h => h.elim) (fun cdv A outer s H vs Q E hr h => h.elim)
theorem ok__law_plainS {n : Nat} (F : FnP K "_law_plain" s__law_plain f fd) (Z : Zs mg) (G__law_plain : Fn P w K mg base CX0 (n + 1) "_law_plain" s__law_plain ["value"] (spPlainR K n)) : FnOk P w K mg base CX0 (n + 2) f fd ["value"] (spPlain K n) := by
  refine F.ok sc__law_plain (fun vs H Q E h => ?_) (fun cdv A outer s H vs Q E hr h => ⟨_, PSs.nox (pss_cons (ps_if (pt_val (pe_callB (kc_isi (K := K)) (by rfl) Z.isinstance (by decide +kernel) (pa_cons (pv 0) (pa_cons (pe_bltn (v := .ty "tuple") (u := .type "tuple") (by rfl) Z.tuple (by decide +kernel) rfl) pa_nil)))) (pss_one (ps_ret (pe_callB (cr_all rfl) (by rfl) Z.all (by decide +kernel) (pa_cons (pe_lc (own := [("one", 1)]) (g := (gName 1)) rfl sc__law_plain.nd (pi_tup (pv 0)) (blkOk_by (own := [("one", 1)]) (N := ["value", "one"]) (sc := defScope s__law_plain) (by decide +kernel)) (fun _ _ _ _ _ => (pg_name (i := 1) sc__law_plain.nd rfl (Or.inl rfl))) (fun _ _ _ _ _ => pts_nil) (fun _ _ _ _ _ => (pe_callF G__law_plain (hr.mono (Nat.le_refl _)) rfl pass0 (pa_cons (pv 1) pa_nil)))) pa_nil)))) pss_nil)
  (pss_one (ps_ret (pe_and (pe_callB (kc_isi (K := K)) (by rfl) Z.isinstance (by decide +kernel) (pa_cons (pv 0) (pa_cons (pe_bltn (v := .ty "int") (u := .type "int") (by rfl) Z.int (by decide +kernel) rfl) pa_nil))) (pe_one (pe_not (pe_callB (kc_isi (K := K)) (by rfl) Z.isinstance (by decide +kernel) (pa_cons (pv 0) (pa_cons (pe_bltn (v := .ty "bool") (u := .type "bool") (by rfl) Z.bool (by decide +kernel) rfl) pa_nil))))))))), ?_⟩)
  · obtain ⟨x, rfl, _⟩ := h
    rfl
  · obtain ⟨x, rfl, h, k⟩ := h
    have h' : (∃ i, x = .int i) ∨ ∃ m, n = m + 1 ∧ ∃ p xs, x = .ref p ∧ Tp K H p xs ∧ xs.length ≤ 1000 ∧ ∀ y ∈ xs, Pn K H m y := by
      cases n with
      | zero => exact .inl h
      | succ m =>
        rcases h with h | h
        · exact .inl h
        · exact .inr ⟨m, rfl, h⟩
    rcases h' with ⟨i, rfl⟩ | ⟨m, rfl, p, xs, rfl, hp, hz, hi⟩
    · refine ⟨_, rfl, _, .ty "tuple", _, .type "tuple", _, rfl, .ty _, ((Vk.int i : Vk K H _ _)).ty, kit_vk ((Vk.int i : Vk K H _ _)) "tuple", _, rfl, iteF ?_⟩
      exact ⟨_, rfl, _, .ty "int", _, .type "int", _, rfl, .ty _, ((Vk.int i : Vk K H _ _)).ty, kit_vk ((Vk.int i : Vk K H _ _)) "int", _, rfl, iteT ⟨_, rfl, _, .ty "bool", _, .type "bool", _, rfl, .ty _, ((Vk.int i : Vk K H _ _)).ty, kit_vk ((Vk.int i : Vk K H _ _)) "bool", _, rfl, k _ (Ex.refl _)⟩⟩
    · refine ⟨_, rfl, _, .ty "tuple", _, .type "tuple", _, rfl, .ty _, ((Vk.tup hp : Vk K H _ _)).ty, kit_vk ((Vk.tup hp : Vk K H _ _)) "tuple", _, rfl, iteT ?_⟩
      refine ⟨_, rfl, p, rfl, ⟨_, hp.sq⟩, lcP (walk_tup (xs := xs)) (fun H' e => (hp.ex e).sq) (by omega) (fun _ => true) (fun _ => V.bl true) (fun i H1 x H2 hi' e y K1 K0 k1 k0 => ?_) (fun d H2 hd e2 h2 => ?_)⟩
      · obtain ⟨rfl, g⟩ := y
        exact ⟨rfl, yes_go ⟨_, rfl, _, rfl, (hi _ (List.mem_of_getElem? g)).ex e, fun H' e' => k1 rfl _ e'⟩⟩
      · rw [given_all] at h2
        have e3 : (List.range xs.length).map (fun _ => V.bl true) = (List.replicate xs.length true).map V.bl := by
          apply List.ext_getElem
          · simp
          · intro i h1 h2
            simp
        rw [e3] at h2
        refine ⟨d, _, rfl, sq_of h2, ?_⟩
        have e4 : (List.replicate xs.length true).all id = true := by simp
        rw [e4]
        exact k _ e2
theorem ok__law_plain (F : FnP K "_law_plain" s__law_plain f fd) (hb : Binds K fd ["value"] []) (hf : mg "_law_plain" = some (.ref f)) (Z : Zs mg) : ∀ n : Nat, FnOk P w K mg base CX0 (n + 2) f fd ["value"] (spPlain K n)
  | 0 => ok__law_plainS F Z ⟨f, fd, hf, F, hb, ok__law_plain0 F Z⟩
  | n + 1 => ok__law_plainS F Z ⟨f, fd, hf, F, hb, ok__law_plain F hb hf Z n⟩
end
/-! ### own mirrors: what the law asks -/
def fsts (rows : List (List Int)) : List Int := rows.map fun r => (firstF r : Int)
def goodB (s : Srt) (n : Nat) : Bool :=
  let rows := ownRows s n
  decide (2 * rows.length = n) && (rows.all fun r => decide (RowOk s.q n r)) && (rows.all fun r => decide (firstF r < n) && decide (r.getD (firstF r) 0 = 1)) && decide ((fsts rows).Pairwise (· ≤ ·)) &&
  ((List.range rows.length).all fun i => decide (((fsts rows).map fun p => (rows.getD i []).getD p.toNat 0) = (List.range rows.length).map fun j => if i = j then 1 else 0)) && insideB s.q rows && (rows.all fun r => decide (weightF r % s.by_ = 0))
theorem good_all : ∀ s ∈ sorts, ∀ m < 13, m * s.step ≤ 24 → goodB s (m * s.step) = true := by decide +kernel
structure Good (s : Srt) (n : Nat) (rows : List (List Int)) : Prop where
  half : 2 * rows.length = n
  ok : ∀ r ∈ rows, RowOk s.q n r
  fst : ∀ r ∈ rows, firstF r < n ∧ r.getD (firstF r) 0 = 1
  up : (fsts rows).Pairwise (· ≤ ·)
  unit : ∀ i < rows.length, ((fsts rows).map fun p => (rows.getD i []).getD p.toNat 0) = (List.range rows.length).map fun j => if i = j then 1 else 0
  inside : insideB s.q rows = true
  by_ : ∀ r ∈ rows, weightF r % s.by_ = 0
theorem good {s : Srt} {n : Nat} (hn : n ≤ 24) (h : n % s.step = 0) : Good s n (ownRows s n) := by
  have sp := s.step_pos
  obtain ⟨m, rfl⟩ : ∃ m, n = m * s.step := ⟨n / s.step, by rw [Nat.mul_comm]; exact (Nat.mul_div_cancel' (Nat.dvd_of_mod_eq_zero h)).symm⟩
  have m13 : m < 13 := by
    have h2 : m * 2 ≤ m * s.step := Nat.mul_le_mul_left _ (by cases s <;> decide)
    omega
  have g := good_all s (by cases s <;> simp [sorts]) m m13 hn
  unfold goodB at g
  generalize ownRows s (m * s.step) = rows at g
  simp only [Bool.and_eq_true, decide_eq_true_eq, List.all_eq_true] at g
  obtain ⟨⟨⟨⟨⟨⟨g1, g2⟩, g3⟩, g4⟩, g5⟩, g6⟩, g7⟩ := g
  exact ⟨g1, g2, g3, g4, fun i hi => g5 i (List.mem_range.mpr hi), g6, g7⟩
end K45

namespace K45
open PySem PySem.Spec PyProof.Rows L2 Evl Own
def spIsOne (K : PySem.W.Frag) : Sp := fun vs H Q _ => ∃ (s : Srt) (n : Nat) (p r : Addr) (rows : List (List Int)), vs = [.str s.s, .int (n : Int), .ref p] ∧ n ≤ 24 ∧ Good s n rows ∧ Tp K H p [.int (s.q : Nat), .int (n : Int), .ref r] ∧ TpR K H r rows ∧ ∀ H', Ex H H' → Q (.bl true) H'
theorem sh_lst_ints (ns : List Int) : SeqAt.shaped (.list (ns.map PyData.int)) = true := by
  simp [SeqAt.shaped, PyData.canLay0, PyData.depth, PySem.W.ke_canLayAll0, PySem.W.ke_depthAll]
theorem eqv_lists (xs ys : List Int) : PyData.eqv (.list (xs.map PyData.int)) (.list (ys.map PyData.int)) = decide (xs = ys) := by
  rw [PyData.eqv]
  exact PySem.W.ked_eqvAll _ _
theorem digit_in (q : Nat) (hq : q = 2 ∨ q = 3) {x : Int} (h : 0 ≤ x ∧ x < (q : Int)) : inV (.int x) (cutV ([0, 1, 2].map V.int) none (some (q : Int))) = true := by
  have : x = 0 ∨ x = 1 ∨ (x = 2 ∧ q = 3) := by omega
  rcases hq with rfl | rfl
  · rcases this with rfl | rfl | ⟨rfl, e⟩
    · rfl
    · rfl
    · cases e
  · rcases this with rfl | rfl | ⟨rfl, e⟩ <;> rfl
section
variable {P : Program} {w : World} {K : PySem.W.Frag} {mg : Str → Option Value} {base : Heap} {f : Addr} {fd : FuncData}
theorem ok__law_is_one (F : FnP K "_law_is_one" s__law_is_one f fd) (Z : Zs mg) (G__law_plain : Fn P w K mg base CX0 5 "_law_plain" s__law_plain ["value"] (spPlain K 3)) (G__law_letters : Fn P w K mg base CX0 1 "_law_letters" s__law_letters ["sort"] (spSrt Srt.q)) (G__law_by : Fn P w K mg base CX0 1 "_law_by" s__law_by ["sort"] (spSrt Srt.by_))
    (G__law_first : Fn P w K mg base CX0 1 "_law_first" s__law_first ["row"] (spFirst K)) (G__law_inside : Fn P w K mg base CX0 2 "_law_inside" s__law_inside ["letters", "rows"] (spInside K)) (G__law_weight : Fn P w K mg base CX0 1 "_law_weight" s__law_weight ["row"] (spWeight K)) : FnOk P w K mg base CX0 6 f fd ["sort", "length", "value"] (spIsOne K) := by
  refine F.ok sc__law_is_one (fun vs H Q E h => ?_) (fun cdv A outer s H vs Q E hr h => ⟨_, PSs.nox (pss_cons (ps_if (PW.pt (pw_or (pt_not (pt_val (pe_callB (kc_isi (K := K)) (by rfl) Z.isinstance (by decide +kernel) (pa_cons (pv 2) (pa_cons (pe_bltn (v := .ty "tuple") (u := .type "tuple") (by rfl) Z.tuple (by decide +kernel) rfl) pa_nil))))) (pw_or (pt_cmpR op_ne (pe_callB (kc_len (K := K)) (by rfl) Z.len PySem.boot_len (pa_cons (pv 2) pa_nil)) pe_int (nomark _)) (pw_or1 (pt_not (pt_val (pe_callF G__law_plain (hr.mono (by decide)) rfl pass0 (pa_cons (pv 2) pa_nil)))))))) (pss_one (ps_ret pe_bl)) pss_nil)
  (pss_cons (ps_asg (pe_tupF (pa_cons (pe_callF G__law_letters (hr.mono (by decide)) rfl pass0 (pa_cons (pv 0) pa_nil)) (pa_cons (pe_ix (kx_tup (K := K)) (pv 2) pe_int (fun _ _ => rfl)) pa_nil))) (pg_tup rfl (pgs_cons (pg_name (i := 3) sc__law_is_one.nd rfl (by first | exact Or.inl rfl | exact Or.inr rfl)) (pgs_cons (pg_name (i := 4) sc__law_is_one.nd rfl (by first | exact Or.inl rfl | exact Or.inr rfl)) pgs_nil))))
  (pss_cons (ps_if (PW.pt (pw_or (pt_cmpR op_ne (pe_ix (kx_tup (K := K)) (pv 2) pe_int (fun _ _ => rfl)) (pv 3) (nomark _)) (pw_or (pt_cmpR op_ne (pe_ix (kx_tup (K := K)) (pv 2) pe_int (fun _ _ => rfl)) (pv 1) (nomark _)) (pw_or (pt_not (pt_val (pe_callB (kc_isi (K := K)) (by rfl) Z.isinstance (by decide +kernel) (pa_cons (pv 4) (pa_cons (pe_bltn (v := .ty "tuple") (u := .type "tuple") (by rfl) Z.tuple (by decide +kernel) rfl) pa_nil))))) (pw_or1 (pt_cmpR op_ne (pe_op op_mul pe_int (pe_callB (kc_len (K := K)) (by rfl) Z.len PySem.boot_len (pa_cons (pv 4) pa_nil))) (pv 1) (nomark _))))))) (pss_one (ps_ret pe_bl)) pss_nil)
  (pss_cons (ps_set (i := 5) sc__law_is_one.nd rfl (by first | exact Or.inl rfl | exact Or.inr rfl) (pe_lst pa_nil))
  (pss_cons (ps_for PassesOwn.never rfl (pi_tup (pv 4)) (pg_name (i := 6) sc__law_is_one.nd rfl (by first | exact Or.inl rfl | exact Or.inr rfl)) (pss_cons (ps_if (PW.pt (pw_or (pt_not (pt_val (pe_callB (kc_isi (K := K)) (by rfl) Z.isinstance (by decide +kernel) (pa_cons (pv 6) (pa_cons (pe_bltn (v := .ty "tuple") (u := .type "tuple") (by rfl) Z.tuple (by decide +kernel) rfl) pa_nil))))) (pw_or (pt_cmpR op_ne (pe_callB (kc_len (K := K)) (by rfl) Z.len PySem.boot_len (pa_cons (pv 6) pa_nil)) (pv 1) (nomark _)) (pw_or1 (pt_not (pt_val (pe_callB (cr_all rfl) (by rfl) Z.all (by decide +kernel) (pa_cons (pe_lc (own := [("one", 7)]) (g := (gName 7)) rfl sc__law_is_one.nd (pi_tup (pv 6)) (blkOk_by (own := [("one", 7)]) (N := ["sort", "length", "value", "letters", "rows", "places", "row", "one", "at", "place", "other"]) (sc := defScope s__law_is_one) (by decide +kernel)) (fun _ _ _ _ _ => (pg_name (i := 7) sc__law_is_one.nd rfl (Or.inl rfl))) (fun _ _ _ _ _ => pts_nil) (fun _ _ _ _ _ => (pe_cmpR (ko_in (K := K)) (pv 7) (pe_slice (ksl_tup (K := K)) (pe_tupF (pa_cons pe_int (pa_cons pe_int (pa_cons pe_int pa_nil)))) po_none (po_some (pv 3))) (by rfl)))) pa_nil)))))))) (pss_one (ps_ret pe_bl)) pss_nil)
  (pss_cons (ps_expr (km_bm (K := K) PySem.F.plainAttrs_list PySem.F.slot_list_append PySem.F.type_list_append mt_append (pv 5) (pa_cons (pe_callF G__law_first (hr.mono (by decide)) rfl pass0 (pa_cons (pv 6) pa_nil)) pa_nil)))
  (pss_one (ps_if (PW.pt (pw_or (pt_cmpR op_eq (pe_ix (kx_list (K := K)) (pv 5) (pe_un un_neg pe_int) (fun _ _ => rfl)) (pv 1) (nomark _)) (pw_or (pt_cmpR op_ne (pe_ix (kx_tup (K := K)) (pv 6) (pe_ix (kx_list (K := K)) (pv 5) (pe_un un_neg pe_int) (fun _ _ => rfl)) (fun _ _ => rfl)) pe_int (nomark _)) (pw_or1 (pt_cmpR (ko_ne (K := K) hr.units) (pv 5) (pe_callB cr_sortedI (by rfl) Z.sorted (by decide +kernel) (pa_cons (pv 5) pa_nil)) (nomark _)))))) (pss_one (ps_ret pe_bl)) pss_nil)))))
  (pss_cons (ps_for PassesOwn.never rfl (pi_range1 (by rfl) Z.range (pa_cons (pe_callB (kc_len (K := K)) (by rfl) Z.len PySem.boot_len (pa_cons (pv 4) pa_nil)) pa_nil)) (pg_name (i := 8) sc__law_is_one.nd rfl (by first | exact Or.inl rfl | exact Or.inr rfl)) (pss_one (ps_if (pt_cmpR (ko_ne (K := K) hr.units) (pe_lc (own := [("place", 9)]) (g := (gName 9)) rfl sc__law_is_one.nd (pi_list (pv 5)) (blkOk_by (own := [("place", 9)]) (N := ["sort", "length", "value", "letters", "rows", "places", "row", "one", "at", "place", "other"]) (sc := defScope s__law_is_one) (by decide +kernel)) (fun _ _ _ _ _ => (pg_name (i := 9) sc__law_is_one.nd rfl (Or.inl rfl))) (fun _ _ _ _ _ => pts_nil) (fun _ _ _ _ _ => (pe_ix (kx_tup (K := K)) (pe_ix (kx_tup (K := K)) (pv 4) (pv 8) (fun _ _ => rfl)) (pv 9) (fun _ _ => rfl)))) (pe_lc (own := [("other", 10)]) (g := (gName 10)) rfl sc__law_is_one.nd (pi_range1 (by rfl) Z.range (pa_cons (pe_callB (kc_len (K := K)) (by rfl) Z.len PySem.boot_len (pa_cons (pv 4) pa_nil)) pa_nil)) (blkOk_by (own := [("other", 10)]) (N := ["sort", "length", "value", "letters", "rows", "places", "row", "one", "at", "place", "other"]) (sc := defScope s__law_is_one) (by decide +kernel)) (fun _ _ _ _ _ => (pg_name (i := 10) sc__law_is_one.nd rfl (Or.inl rfl))) (fun _ _ _ _ _ => pts_nil) (fun _ _ _ _ _ => (pe_callTy call_int1 (by rfl) Z.int (by decide +kernel) (pa_cons (pe_cmpR op_eq (pv 8) (pv 10) (nomark _)) pa_nil)))) (nomark _)) (pss_one (ps_ret pe_bl)) pss_nil)))
  (pss_one (ps_ret (pe_and (pe_callF G__law_inside (hr.mono (by decide)) rfl pass0 (pa_cons (pv 3) (pa_cons (pv 4) pa_nil))) (pe_one (pe_callB (cr_all rfl) (by rfl) Z.all (by decide +kernel) (pa_cons (pe_lc (own := [("row", 6)]) (g := (gName 6)) rfl sc__law_is_one.nd (pi_tup (pv 4)) (blkOk_by (own := [("row", 6)]) (N := ["sort", "length", "value", "letters", "rows", "places", "row", "one", "at", "place", "other"]) (sc := defScope s__law_is_one) (by decide +kernel)) (fun _ _ _ _ _ => (pg_name (i := 6) sc__law_is_one.nd rfl (Or.inl rfl))) (fun _ _ _ _ _ => pts_nil) (fun _ _ _ _ _ => (pe_cmpR op_eq (pe_op op_mod (pe_callTy call_int1 (by rfl) Z.int (by decide +kernel) (pa_cons (pe_callF G__law_weight (hr.mono (by decide)) rfl pass0 (pa_cons (pv 6) pa_nil)) pa_nil)) (pe_callF G__law_by (hr.mono (by decide)) rfl pass0 (pa_cons (pv 0) pa_nil))) pe_int (nomark _)))) pa_nil)))))))))))), ?_⟩)
  · obtain ⟨s, n, p, r, rows, rfl, _⟩ := h
    rfl
  · obtain ⟨s, n, p, r, rows, rfl, hn, g, hp, hr', k⟩ := h
    obtain ⟨es, hes, lg⟩ := hr'
    have el := lg.len
    have gh := g.half
    have ql := s.q_le
    have q23 : s.q = 2 ∨ s.q = 3 := by omega
    have pn : Pn K H 3 (.ref p) := by
      refine .inr ⟨p, _, rfl, hp, by show 3 ≤ 1000; decide, fun x hx => ?_⟩
      rcases List.mem_cons.mp hx with rfl | hx
      · exact .inl ⟨_, rfl⟩
      rcases List.mem_cons.mp hx with rfl | hx
      · exact .inl ⟨_, rfl⟩
      rw [List.mem_singleton.mp hx]
      refine .inr ⟨r, _, rfl, hes, by rw [List.length_map]; omega, fun y hy => ?_⟩
      obtain ⟨i, hi, rfl⟩ := List.getElem_of_mem hy
      have hi' := hi
      rw [List.length_map] at hi'
      obtain ⟨e, x, e1, e2, e3, e4⟩ := lg.get (i := i) (v := (es.map V.ref)[i]) (List.getElem?_eq_getElem hi)
      rw [e1]
      have xl := (g.ok x (List.mem_of_getElem? e3)).1
      refine .inr ⟨e, _, rfl, e4, by unfold iL; rw [List.length_map]; omega, fun z hz => ?_⟩
      obtain ⟨c, _, rfl⟩ := List.mem_map.mp hz
      exact ⟨c, rfl⟩
    refine ⟨_, rfl, _, .ty "tuple", _, .type "tuple", _, rfl, .ty _, ((Vk.tup hp : Vk K H _ _)).ty, kit_vk ((Vk.tup hp : Vk K H _ _)) "tuple", _, rfl, iteF ⟨_, rfl, p, _, rfl, .inr hp.sq, rfl, _, rfl, ?_⟩⟩
    rw [dec_int]
    refine iteF ⟨_, rfl, _, rfl, pn, fun H1 e1 => ⟨_, rfl, iteF ?_⟩⟩
    have hp1 := hp.ex e1
    refine ⟨_, rfl, s, rfl, fun H2 e2 => ?_⟩
    have hp2 := hp1.ex e2
    refine ⟨_, rfl, p, _, 2, .ref r, rfl, rfl, hp2.sq, rfl, by show 2 ≤ sizeLine; decide, fun T o hT ho => ⟨T, _, rfl, (Tp.of ho upd_same).sq, rfl, _, _, rfl, _, _, rfl, rfl, ?_⟩⟩
    have eT := Ex.new (o := .frz o (.tup [V.int (s.q : Nat), .ref r])) hT
    have ex3 := e1.trans (e2.trans eT)
    have hp3 := hp.ex ex3
    generalize upd H2 T (.frz o (.tup [V.int (s.q : Nat), .ref r])) = H3 at ex3 hp3 ⊢
    have hes3 := hes.ex ex3
    refine ⟨_, rfl, p, _, 0, _, rfl, rfl, hp3.sq, rfl, _, rfl, rfl, _, rfl, ?_⟩
    rw [decide_eq_true rfl]
    refine iteF ⟨_, rfl, p, _, 1, _, rfl, rfl, hp3.sq, rfl, _, rfl, rfl, _, rfl, ?_⟩
    rw [decide_eq_true rfl]
    refine iteF ⟨_, rfl, _, .ty "tuple", _, .type "tuple", _, rfl, .ty _, ((Vk.tup hes3 : Vk K H3 _ _)).ty, kit_vk ((Vk.tup hes3 : Vk K H3 _ _)) "tuple", _, rfl, iteF ⟨_, rfl, r, _, rfl, .inr hes3.sq, _, _, rfl, rfl, .inl ⟨by decide, by decide⟩, _, rfl, rfl, _, rfl, ?_⟩⟩
    rw [decide_eq_true (show V.int ((2 : Int) * (((es.map V.ref).length : Nat) : Int)) = V.int (n : Int) from by rw [List.length_map, el]; congr 1; omega)]
    refine iteF ?_
    refine ⟨by decide, fun L hL => ?_⟩
    have eL := Ex.new (o := .lst []) hL
    have HL : H L = none := fresh_back ex3 hL
    have ex4 := ex3.trans eL
    have hes4 := hes3.ex eL
    have hL4 : upd H3 L (.lst []) L = some (.lst (((fsts rows).take 0).map V.int)) := upd_same
    have lg4 := lg.ex ex4
    generalize upd H3 L (.lst []) = H4 at ex4 hes4 hL4 lg4 ⊢
    have fl : (fsts rows).length = rows.length := List.length_map ..
    refine ⟨_, rfl, r, rfl, ⟨_, hes4.sq⟩, for_it walk_tup (fun i σ H' => Ex H H' ∧ Tp K H' r (es.map V.ref) ∧ LstG iL K H' es rows ∧ H' L = some (.lst (((fsts rows).take i).map V.int)) ∧ ∃ v6, σ = [some (.str s.s), some (.int (n : Int)), some (.ref p), some (.int (s.q : Nat)), some (.ref r), some (.ref L), v6, none, none, none, none])
      ⟨ex4, hes4, lg4, hL4, none, rfl⟩ (fun i σ H' _ h => h.2.1.sq) (fun i x σ H5 H6 hi h y => ?_) (fun σ H5 h => ?_)⟩
    · obtain ⟨ex5, hes5, lg5, hL5, v6, rfl⟩ := h
      obtain ⟨rfl, ge⟩ := y
      obtain ⟨e, row, rfl, ge, gr, te⟩ := lg5.get ge
      have rm := List.mem_of_getElem? gr
      have ok := g.ok row rm
      have fo := g.fst row rm
      have il : i < rows.length := (List.getElem?_eq_some_iff.mp gr).1
      have fi : (fsts rows)[i]? = some ((firstF row : Nat) : Int) := by
        unfold fsts
        rw [List.getElem?_map, gr]
        rfl
      have tk : (fsts rows).take (i + 1) = (fsts rows).take i ++ [((firstF row : Nat) : Int)] := by
        rw [List.take_add_one, fi]
        rfl
      refine ⟨_, rfl, _, .ty "tuple", _, .type "tuple", _, rfl, .ty _, ((Vk.tup te : Vk K H6 _ _)).ty, kit_vk ((Vk.tup te : Vk K H6 _ _)) "tuple", _, rfl, iteF ⟨_, rfl, e, _, rfl, .inr te.sq, _, rfl, rfl, _, rfl, ?_⟩⟩
      unfold iL at te
      have rl := ok.1
      rw [show ((iL row).length : Int) = (n : Int) by unfold iL; rw [List.length_map, rl], decide_eq_true rfl]
      refine iteF ⟨_, rfl, e, rfl, ⟨_, te.sq⟩, lcP (walk_tup (xs := row.map V.int)) (fun H' q => (te.ex q).sq) (by rw [List.length_map]; omega) (fun _ => true) (fun _ => V.bl true) (fun j H7 x H8 hj eq y K1 K0 k1 k0 => ?_) (fun D H7 hD e7 h7 => ?_)⟩
      · obtain ⟨rfl, gx⟩ := y
        obtain ⟨rfl, hj'⟩ := int_at gx
        have dx := ok.2 _ (Own.getD_mem hj')
        refine ⟨rfl, yes_go ⟨_, rfl, by show 3 ≤ sizeLine; decide, fun z o hz ho => ?_⟩⟩
        refine no_part ⟨_, rfl, _, rfl, sl_ret (Tp.of (K := K) (xs := [0, 1, 2].map V.int) ho upd_same) (fun c H9 e9 hc => ?_)⟩
        refine ⟨c, _, rfl, .inr hc.sq, rfl, ?_, ?_⟩
        · rcases q23 with q | q <;> rw [q] <;> rfl
        · rw [digit_in s.q q23 dx]
          exact k1 rfl _ ((Ex.new hz).trans e9)
      · rw [given_all] at h7
        have e3 : (List.range (row.map V.int).length).map (fun _ => V.bl true) = (List.replicate row.length true).map V.bl := by
          rw [List.length_map]
          apply List.ext_getElem
          · simp
          · intro i h1 h2
            simp
        rw [e3] at h7
        have e4 : (List.replicate row.length true).all id = true := by simp
        refine ⟨D, _, rfl, sq_of h7, _, rfl, ?_⟩
        rw [e4]
        have ex7 := ex5.trans e7
        have hes7 := hes5.ex e7
        have lg7 := lg5.ex e7
        have hL7 := e7 _ _ hL5
        have te7 := te.ex e7
        refine iteF ⟨_, rfl, .inl ⟨rfl, _, sq_of hL7⟩, _, rfl, e, row, rfl, te7, by omega, L, _, _, rfl, rfl, hL7, sz_lt (by rw [List.length_map, List.length_take]; omega), ?_⟩
        have em : ((fsts rows).take i).map V.int ++ [V.int ((firstF row : Nat) : Int)] = ((fsts rows).take (i + 1)).map V.int := by
          rw [tk, List.map_append]
          rfl
        rw [em]
        have ex8 : Ex H (upd H7 L (.lst (((fsts rows).take (i + 1)).map V.int))) := ex_side ex7 HL
        have hes8 := hes7.mut (zs := ((fsts rows).take (i + 1)).map V.int) hL7
        have lg8 := lg7.mut (zs := ((fsts rows).take (i + 1)).map V.int) hL7
        have te8 := te7.mut (zs := ((fsts rows).take (i + 1)).map V.int) hL7
        have hL8 : upd H7 L (.lst (((fsts rows).take (i + 1)).map V.int)) L = some (.lst (((fsts rows).take (i + 1)).map V.int)) := upd_same
        generalize upd H7 L (.lst (((fsts rows).take (i + 1)).map V.int)) = H8 at ex8 hes8 lg8 te8 hL8 ⊢
        have al : atI (((fsts rows).take (i + 1)).map V.int) (-1) = some (.int ((firstF row : Nat) : Int)) := by
          rw [tk]
          exact at_last _ _
        refine ⟨_, rfl, _, rfl, L, _, _, _, rfl, rfl, sq_of hL8, al, _, rfl, rfl, _, rfl, ?_⟩
        rw [decide_eq_false (show ¬ V.int ((firstF row : Nat) : Int) = V.int (n : Int) from fun z => by
          have := V.int.inj z
          omega)]
        refine iteF ⟨_, rfl, _, rfl, _, rfl, L, _, _, _, rfl, rfl, sq_of hL8, al, e, _, _, _, rfl, rfl, te8.sq, atI_int (by omega), rfl, _, rfl, ?_⟩
        rw [fo.2, decide_eq_true rfl]
        have up : ((fsts rows).take (i + 1)).Pairwise (· ≤ ·) := g.up.sublist (List.take_sublist _ _)
        refine iteF ⟨_, rfl, _, rfl, L, _, rfl, sq_of hL8, fun ns' M hperm hpw hM => ?_⟩
        have en : ns' = (fsts rows).take (i + 1) := List.Perm.eq_of_pairwise (fun _ _ _ _ h1 h2 => Int.le_antisymm h1 h2) hpw up hperm
        subst en
        have eM := Ex.new (o := .lst (((fsts rows).take (i + 1)).map V.int)) hM
        refine ⟨_, _, .lst (sq_of (eM _ _ hL8)) (dp_ints _), .lst (sq_of upd_same) (dp_ints _), sh_lst_ints _, sh_lst_ints _, _, rfl, ?_⟩
        rw [eqv_lists, decide_eq_true rfl]
        exact iteF ⟨ex8.trans eM, hes8.ex eM, lg8.ex eM, eM _ _ hL8, _, rfl⟩
    · obtain ⟨ex5, hes5, lg5, hL5, v6, rfl⟩ := h
      rw [List.length_map, el, List.take_of_length_le (by omega)] at hL5
      refine ⟨_, rfl, r, _, rfl, .inr hes5.sq, _, rfl, by omega, by rw [List.length_map]; omega, ?_⟩
      rw [List.length_map, Int.toNat_natCast, el]
      refine for_range (lo := 0) (n := rows.length) (fun i σ H' => Ex H5 H' ∧ ∃ v8, σ = [some (.str s.s), some (.int (n : Int)), some (.ref p), some (.int (s.q : Nat)), some (.ref r), some (.ref L), v6, none, v8, none, none]) ⟨Ex.refl _, none, rfl⟩ (fun i σ H' hi y => ?_) (fun σ H' y => ?_)
      · obtain ⟨ex6, v8, rfl⟩ := y
        have e0 : (0 : Int) + (i : Int) = (i : Int) := by omega
        show gName _ (V.int ((0 : Int) + (i : Int))) _ _ _
        rw [e0]
        have hes6 := hes5.ex ex6
        have lg6 := lg5.ex ex6
        have hL6 := ex6 _ _ hL5
        have gi : es[i]? = some es[i] := List.getElem?_eq_getElem _
        have ri : rows[i]? = some rows[i] := List.getElem?_eq_getElem _
        have rD : rows.getD i [] = rows[i] := by rw [List.getD_eq_getElem?_getD, ri]; rfl
        have ti := lg6.at_ i _ _ gi ri
        have oi := g.ok _ (List.getElem_mem hi)
        refine ⟨_, rfl, L, rfl, ⟨_, sq_of hL6⟩, lcP (walk_list (xs := (fsts rows).map V.int)) (fun H'' q => sq_of (q _ _ hL6)) (by rw [List.length_map]; omega) (fun _ => true) (fun j => V.int (rows[i].getD ((fsts rows).getD j 0).toNat 0)) (fun j H7 x H8 hj eq y K1 K0 k1 k0 => ?_) (fun D1 H7 hD1 e7 h7 => ?_)⟩
        · obtain ⟨rfl, gx⟩ := y
          obtain ⟨rfl, hj'⟩ := int_at gx
          have hj2 : j < rows.length := by omega
          have fj : (fsts rows).getD j 0 = ((firstF rows[j] : Nat) : Int) := by
            unfold fsts
            rw [List.getD_eq_getElem?_getD, List.getElem?_map, List.getElem?_eq_getElem hj2]
            rfl
          have fo := g.fst _ (List.getElem_mem hj2)
          rw [fj]
          refine ⟨rfl, yes_go ⟨_, rfl, _, rfl, r, _, _, .ref es[i], rfl, rfl, (hes6.ex eq).sq, atI_nat (by rw [List.getElem?_map, gi]; rfl), _, rfl, es[i], _, _, _, rfl, rfl, (ti.ex eq).sq, atI_int (by have := oi.1; omega), ?_⟩⟩
          have kk := k1 rfl _ (Ex.refl _)
          rw [fj, Int.toNat_natCast] at kk
          exact kk
        · rw [given_all, List.length_map] at h7
          have m7 : (List.range (fsts rows).length).map (fun j => V.int (rows[i].getD ((fsts rows).getD j 0).toNat 0)) = (((fsts rows).map fun p => (rows.getD i []).getD p.toNat 0)).map V.int := by
            rw [rD, range_map (0 : Int) (fun p : Int => V.int (rows[i].getD p.toNat 0)) (fsts rows), List.map_map]
            rfl
          rw [m7, g.unit i hi] at h7
          have hes7 := hes6.ex e7
          refine ⟨_, rfl, r, _, rfl, .inr hes7.sq, _, rfl, by omega, by rw [List.length_map]; omega, ?_⟩
          rw [List.length_map, Int.toNat_natCast, el]
          refine lcP (walk_range (lo := 0)) (fun _ _ => trivial) (by omega) (fun _ => true) (fun j => V.int (if i = j then 1 else 0)) (fun j H8 x H9 hj eq y K1 K0 k1 k0 => ?_) (fun D2 H8 hD2 e8 h8 => ?_)
          · obtain ⟨rfl, rfl⟩ := y
            have e0 : (0 : Int) + (j : Int) = (j : Int) := by omega
            show gName _ (V.int ((0 : Int) + (j : Int))) _ _ _
            rw [e0]
            refine ⟨rfl, yes_go ⟨_, rfl, _, rfl, rfl, .inr ⟨_, rfl, ?_⟩⟩⟩
            have kk := k1 rfl _ (Ex.refl _)
            by_cases c : i = j
            · rw [decide_eq_true (show V.int (i : Int) = V.int (j : Int) from by rw [c])]
              rw [if_pos c] at kk
              exact kk
            · rw [decide_eq_false (show ¬ V.int (i : Int) = V.int (j : Int) from fun z => by
                have := V.int.inj z
                omega)]
              rw [if_neg c] at kk
              exact kk
          · rw [given_all] at h8
            have m8 : (List.range rows.length).map (fun j => V.int (if i = j then 1 else 0)) = ((List.range rows.length).map fun j => if i = j then (1 : Int) else 0).map V.int := by
              rw [List.map_map]
              rfl
            rw [m8] at h8
            refine ⟨_, _, .lst (sq_of (e8 _ _ h7)) (dp_ints _), .lst (sq_of h8) (dp_ints _), sh_lst_ints _, sh_lst_ints _, _, rfl, ?_⟩
            rw [eqv_lists, decide_eq_true rfl]
            exact iteF ⟨ex6.trans (e7.trans e8), _, rfl⟩
      · obtain ⟨ex6, v8, rfl⟩ := y
        have hes6 := hes5.ex ex6
        have lg6 := lg5.ex ex6
        refine ⟨_, rfl, _, rfl, s.q, n, r, rows, rfl, ⟨es, hes6, lg6⟩, by omega, by omega, ql.1, ql.2, g.ok, fun H7 e7 => ⟨_, rfl, ?_⟩⟩
        rw [g.inside]
        have hes7 := hes6.ex e7
        have lg7 := lg6.ex e7
        refine iteT ⟨_, rfl, r, rfl, ⟨_, hes7.sq⟩, lcP (walk_tup (xs := es.map V.ref)) (fun H'' q => (hes7.ex q).sq) (by rw [List.length_map]; omega) (fun _ => true) (fun _ => V.bl true) (fun j H8 x H9 hj eq y K1 K0 k1 k0 => ?_) (fun D1 H8 hD1 e8 h8 => ?_)⟩
        · obtain ⟨rfl, ge⟩ := y
          obtain ⟨e, row, rfl, ge, gr, te⟩ := (lg7.ex eq).get ge
          have rm := List.mem_of_getElem? gr
          have gb := g.by_ row rm
          have bp : 0 < s.by_ := by cases s <;> decide
          refine ⟨rfl, yes_go ⟨_, rfl, e, row, rfl, te, .inl ⟨_, rfl, _, rfl, s, rfl, fun H10 e10 => ⟨_, _, rfl, rfl, by omega, rfl, ?_⟩⟩⟩⟩
          have ez : ((weightF row : Nat) : Int) % ((s.by_ : Nat) : Int) = 0 := by omega
          rw [decide_eq_true (show V.int (((weightF row : Nat) : Int) % ((s.by_ : Nat) : Int)) = V.int 0 from by rw [ez])]
          exact k1 rfl _ e10
        · rw [given_all] at h8
          have e3 : (List.range (es.map V.ref).length).map (fun _ => V.bl true) = (List.replicate es.length true).map V.bl := by
            rw [List.length_map]
            apply List.ext_getElem
            · simp
            · intro i h1 h2
              simp
          rw [e3] at h8
          have e4 : (List.replicate es.length true).all id = true := by simp
          refine ⟨D1, _, rfl, sq_of h8, ?_⟩
          rw [e4]
          exact k _ (ex5.trans (ex6.trans (e7.trans e8)))
end
end K45

namespace K45
open PySem PySem.Spec PyProof.Rows L2 Evl Own
def spNum : Sp := fun vs H Q _ => ∃ i : Int, vs = [.int i] ∧ Q (.bl true) H
def gbL (q n m : Nat) : List Int := (List.range m).map fun k => gb q n k
theorem gb_diag (q : Int) : ∀ n, gb q n n = 1
  | 0 => rfl
  | n + 1 => by
    show gb q n n + q ^ (n + 1) * gb q n (n + 1) = 1
    rw [gb_diag q n, gb_over q n (n + 1) (by omega), Int.mul_zero]
    rfl
theorem gbL_len (q n m : Nat) : (gbL q n m).length = m := by unfold gbL; rw [List.length_map, List.length_range]
theorem gbL_at (q n m k : Nat) (h : k < m) : (gbL q n m).getD k 0 = gb q n k := by
  unfold gbL
  rw [List.getD_eq_getElem?_getD, List.getElem?_map, List.getElem?_range h]
  rfl
theorem gbL_succ (q n m : Nat) : gbL q n (m + 1) = gbL q n m ++ [gb q n m] := by
  unfold gbL
  rw [List.range_succ, List.map_append]
  rfl
theorem gb_log {q n k : Nat} (q0 : 1 ≤ q) (q1 : q ≤ 64) (hn : n ≤ 61) : (gb (q : Int) n k).natAbs.log2 ≤ 30000 := by
  by_cases c : n < k
  · rw [gb_over _ n k c]
    decide
  · refine lg_le (Nat.le_trans (gb_le q0 n k (by omega)) ?_)
    have h1 : 2 ^ n ≤ 2 ^ 61 := Nat.pow_le_pow_right (by decide) hn
    have h2 : q ^ (k * (n - k)) ≤ 2 ^ 22326 := Nat.le_trans (q_pow q1) (Nat.pow_le_pow_right (by decide) (by
      have : k * (n - k) ≤ 61 * 61 := Nat.mul_le_mul (by omega) (by omega)
      omega))
    refine Nat.le_trans (Nat.mul_le_mul h1 h2) ?_
    rw [← Nat.pow_add]
    exact Nat.pow_le_pow_right (by decide) (by decide)
/-- a list that came, what was known stays -/
def RetG (xs : List V) (H : Hp) (Q : VK) : Prop := ∀ p H2, Ex H H2 → H2 p = some (.lst xs) → Q (.ref p) H2
def spRooms : Sp := fun vs H Q _ => ∃ q n : Nat, vs = [.int (q : Int), .int (n : Int)] ∧ 2 ≤ q ∧ q ≤ 3 ∧ n ≤ 12 ∧ RetG ((gbL q n (n + 1)).map V.int) H Q
section
variable {P : Program} {w : World} {K : PySem.W.Frag} {mg : Str → Option Value} {base : Heap} {f : Addr} {fd : FuncData}
theorem ok__law_is_number (F : FnP K "_law_is_number" s__law_is_number f fd) (Z : Zs mg) : FnOk P w K mg base CX0 1 f fd ["value"] spNum := by
  refine F.ok sc__law_is_number (fun vs H Q E h => ?_) (fun cdv A outer s H vs Q E hr h => ⟨_, PSs.nox (pss_one (ps_ret (pe_and (pe_callB (kc_isi (K := K)) (by rfl) Z.isinstance (by decide +kernel) (pa_cons (pv 0) (pa_cons (pe_bltn (v := .ty "int") (u := .type "int") (by rfl) Z.int (by decide +kernel) rfl) pa_nil))) (pe_one (pe_not (pe_callB (kc_isi (K := K)) (by rfl) Z.isinstance (by decide +kernel) (pa_cons (pv 0) (pa_cons (pe_bltn (v := .ty "bool") (u := .type "bool") (by rfl) Z.bool (by decide +kernel) rfl) pa_nil)))))))), ?_⟩)
  · obtain ⟨i, rfl, _⟩ := h
    rfl
  · obtain ⟨i, rfl, k⟩ := h
    exact ⟨_, rfl, _, .ty "int", _, .type "int", _, rfl, .ty _, ((Vk.int i : Vk K H _ _)).ty, kit_vk ((Vk.int i : Vk K H _ _)) "int", _, rfl, iteT ⟨_, rfl, _, .ty "bool", _, .type "bool", _, rfl, .ty _, ((Vk.int i : Vk K H _ _)).ty, kit_vk ((Vk.int i : Vk K H _ _)) "bool", _, rfl, k⟩⟩
theorem ok__law_rooms (F : FnP K "_law_rooms" s__law_rooms f fd) (Z : Zs mg) : FnOk P w K mg base CX0 1 f fd ["q", "n"] spRooms := by
  refine F.ok sc__law_rooms (fun vs H Q E h => ?_) (fun cdv A outer s H vs Q E hr h => ⟨_, PSs.nox (pss_cons (ps_set (i := 2) sc__law_rooms.nd rfl (by first | exact Or.inl rfl | exact Or.inr rfl) (pe_lst (pa_cons pe_int pa_nil)))
  (pss_cons (ps_for PassesOwn.never rfl (pi_range1 (by rfl) Z.range (pa_cons (pv 1) pa_nil)) (pg_name (i := 3) sc__law_rooms.nd rfl (by first | exact Or.inl rfl | exact Or.inr rfl)) (pss_cons (ps_par (i := 4) (j := 5) rfl sc__law_rooms.nd rfl rfl (by decide) rfl rfl (pa_cons (pe_lst (pa_cons pe_int pa_nil)) (pa_cons pe_int pa_nil)) (by rfl))
  (pss_cons (ps_for PassesOwn.never rfl (pi_range2 (by rfl) Z.range (pa_cons pe_int (pa_cons (pe_callB (kc_len (K := K)) (by rfl) Z.len PySem.boot_len (pa_cons (pv 2) pa_nil)) pa_nil))) (pg_name (i := 6) sc__law_rooms.nd rfl (by first | exact Or.inl rfl | exact Or.inr rfl)) (pss_cons (ps_set (i := 5) sc__law_rooms.nd rfl (by first | exact Or.inl rfl | exact Or.inr rfl) (pe_op op_mulW (pv 5) (pv 0)))
  (pss_one (ps_expr (km_bm (K := K) PySem.F.plainAttrs_list PySem.F.slot_list_append PySem.F.type_list_append mt_append (pv 4) (pa_cons (pe_op op_add (pe_ix (kx_list (K := K)) (pv 2) (pe_op op_sub (pv 6) pe_int) (fun _ _ => rfl)) (pe_op op_mulW (pv 5) (pe_ix (kx_list (K := K)) (pv 2) (pv 6) (fun _ _ => rfl)))) pa_nil))))))
  (pss_one (ps_set (i := 2) sc__law_rooms.nd rfl (by first | exact Or.inl rfl | exact Or.inr rfl) (pe_op op_cat (pv 4) (pe_lst (pa_cons pe_int pa_nil))))))))
  (pss_one (ps_ret (pv 2))))), ?_⟩)
  · obtain ⟨q, n, rfl, _⟩ := h
    rfl
  · obtain ⟨q, n, rfl, q0, q1, hn, k⟩ := h
    refine ⟨by decide, fun z hz => ?_⟩
    have ez := Ex.new (o := .lst [V.int 1]) hz
    refine ⟨_, rfl, _, rfl, by omega, by omega, ?_⟩
    rw [Int.toNat_natCast]
    refine for_range (lo := 0) (n := n) (fun i σ H' => Ex H H' ∧ ∃ p v3 v4 v5 v6, H' p = some (.lst ((gbL q i (i + 1)).map V.int)) ∧ σ = [some (.int (q : Int)), some (.int (n : Int)), some (.ref p), v3, v4, v5, v6]) ⟨ez, z, none, none, none, none, upd_same, rfl⟩ (fun i σ H' hi y => ?_) (fun σ H' y => ?_)
    · obtain ⟨ex, p, v3, v4, v5, v6, hp, rfl⟩ := y
      refine ⟨by decide, fun L hL => ⟨_, _, rfl, ?_⟩⟩
      have eL := Ex.new (o := .lst [V.int 1]) hL
      have HL : H L = none := fresh_back ex hL
      have hp2 := eL _ _ hp
      have pL : p ≠ L := fun z => by
        rw [z, hL] at hp
        cases hp
      refine ⟨_, rfl, p, _, rfl, .inl (sq_of hp2), _, _, rfl, ⟨by decide, by decide, by omega, by rw [List.length_map, gbL_len]; omega⟩, ?_⟩
      rw [List.length_map, gbL_len, show (((i + 1 : Nat) : Int) - 1).toNat = i by omega]
      refine for_range (lo := 1) (n := i) (fun j σ H'' => Ex H H'' ∧ ∃ v6, H'' p = some (.lst ((gbL q i (i + 1)).map V.int)) ∧ H'' L = some (.lst ((gbL q (i + 1) (j + 1)).map V.int)) ∧ σ = [some (.int (q : Int)), some (.int (n : Int)), some (.ref p), some (.int ((0 : Int) + (i : Int))), some (.ref L), some (.int ((q : Int) ^ j)), v6]) ⟨ex.trans eL, v6, hp2, upd_same, by rw [Int.pow_zero]; rfl⟩ (fun j σ H'' hj y => ?_) (fun σ H'' y => ?_)
      · obtain ⟨ex2, v6, hp3, hL3, rfl⟩ := y
        have l1 := pow_log1 (q := q) (m := j) (by omega) (by omega) (by omega)
        have l2 := pow_log1 (q := q) (m := j + 1) (by omega) (by omega) (by omega)
        have l3 : (q : Int).natAbs.log2 ≤ 64 := lg_small (by omega)
        have l4 := gb_log (q := q) (n := i) (k := j + 1) (by omega) (by omega) (by omega)
        refine ⟨_, rfl, _, rfl, _, _, rfl, rfl, by show _ + _ < 1000000; omega, ?_⟩
        have a1 : atI ((gbL q i (i + 1)).map V.int) ((1 : Int) + (j : Int) - 1) = some (.int (gb q i j)) := by
          rw [show (1 : Int) + (j : Int) - 1 = (j : Int) by omega, ← gbL_at q i (i + 1) j (by omega)]
          exact atI_int (by rw [gbL_len]; omega)
        have a2 : atI ((gbL q i (i + 1)).map V.int) ((1 : Int) + (j : Int)) = some (.int (gb q i (j + 1))) := by
          rw [show (1 : Int) + (j : Int) = ((j + 1 : Nat) : Int) by omega, ← gbL_at q i (i + 1) (j + 1) (by omega)]
          exact atI_int (by rw [gbL_len]; omega)
        refine ⟨_, rfl, .inl ⟨rfl, _, sq_of hL3⟩, _, rfl, _, rfl, _, _, rfl, rfl, p, _, _, _, rfl, rfl, sq_of hp3, a1, _, rfl, _, rfl, _, rfl, p, _, _, _, rfl, rfl, sq_of hp3, a2, _, _, rfl, rfl, ?_, _, _, rfl, rfl, L, _, _, rfl, rfl, hL3, sz_lt (by rw [List.length_map, gbL_len]; omega), ?_⟩
        · show ((q : Int) ^ j * (q : Int)).natAbs.log2 + _ < 1000000
          have l5 : ((q : Int) ^ j * (q : Int)).natAbs.log2 ≤ 700 := by
            rw [← Int.pow_succ]
            exact l2.2
          omega
        · refine ⟨ex_side ex2 HL, some (.int ((1 : Int) + (j : Int))), by rw [upd_ne pL]; exact hp3, ?_, ?_⟩
          · rw [upd_same, gbL_succ q (i + 1) (j + 1), List.map_append]
            rfl
          · rw [show (q : Int) ^ (j + 1) = (q : Int) ^ j * (q : Int) from Int.pow_succ ..]
            rfl
      · obtain ⟨ex2, v6, hp3, hL3, rfl⟩ := y
        refine ⟨_, rfl, by decide, fun z2 hz2 => ?_⟩
        have e2 := Ex.new (o := .lst [V.int 1]) hz2
        refine ⟨L, z2, _, _, rfl, rfl, e2 _ _ hL3, upd_same, Nat.le_of_lt (sz_lt (by rw [List.length_map, gbL_len]; simp only [List.length_singleton]; omega)), fun p2 hp2 => ?_⟩
        refine ⟨ex2.trans (e2.trans (Ex.new hp2)), p2, _, _, _, _, ?_, rfl⟩
        rw [upd_same, gbL_succ q (i + 1) (i + 1), gb_diag, List.map_append]
        rfl
    · obtain ⟨ex, p, v3, v4, v5, v6, hp, rfl⟩ := y
      exact ⟨_, rfl, k p H' ex hp⟩
end
end K45

namespace K45
open PySem PySem.Spec PyProof.Rows L2 Evl Own
/-- the factor and the step of a shell -/
def facF (s : Srt) : Nat → Int × Int
  | 0 => (1, if s = .two then (s.q : Int) else 1)
  | k + 1 => ((facF s k).1 * (facF s k).2, (facF s k).2 * (s.q : Int))
def dimF (s : Srt) (n : Nat) : Nat := n / 2 - (if s = .three then 0 else 1)
def shellF (s : Srt) (n : Nat) : List Int := if n = 0 then [1] else (List.range (n / 2 + 1)).map fun k => gs s.q (dimF s n) k * (facF s k).1
def shellsB (s : Srt) (n : Nat) : Bool := ((List.range (n / 2 + 1)).all fun k => decide ((shellF s n).getD k 0 = soF s n k)) && decide ((shellF s n).sum = howF s n) && decide ((shellF s n).length = n / 2 + 1)
theorem shells_all : ∀ s ∈ sorts, ∀ m < 13, m * s.step ≤ 24 → shellsB s (m * s.step) = true := by decide +kernel
theorem shells_ok {s : Srt} {n : Nat} (hn : n ≤ 24) (h : n % s.step = 0) : (∀ k, k ≤ n / 2 → (shellF s n).getD k 0 = soF s n k) ∧ (shellF s n).sum = howF s n ∧ (shellF s n).length = n / 2 + 1 := by
  have sp := s.step_pos
  obtain ⟨m, rfl⟩ : ∃ m, n = m * s.step := ⟨n / s.step, by rw [Nat.mul_comm]; exact (Nat.mul_div_cancel' (Nat.dvd_of_mod_eq_zero h)).symm⟩
  have m13 : m < 13 := by
    have h2 : m * 2 ≤ m * s.step := Nat.mul_le_mul_left _ (by cases s <;> decide)
    omega
  have g := shells_all s (by cases s <;> simp [sorts]) m m13 hn
  unfold shellsB at g
  simp only [Bool.and_eq_true, decide_eq_true_eq, List.all_eq_true] at g
  exact ⟨fun k hk => g.1.1 k (List.mem_range.mpr (by omega)), g.1.2, g.2⟩
theorem so_behind {s : Srt} {n k : Nat} (h : n / 2 < k) : soF s n k = 0 := by
  unfold soF
  rw [if_pos (.inr h), if_neg (by omega)]
/-- a new list, what was known stays -/
def RetF (xs : List V) (H : Hp) (Q : VK) : Prop := ∀ p H2, H p = none → Ex H H2 → H2 p = some (.lst xs) → Q (.ref p) H2
def spShells : Sp := fun vs H Q _ => ∃ (s : Srt) (n : Nat), vs = [.str s.s, .int (n : Int)] ∧ n ≤ 24 ∧ n % s.step = 0 ∧ RetF ((shellF s n).map V.int) H Q
def spProduct : Sp := fun vs H Q _ => ∃ (q n k : Nat), vs = [.int (q : Int), .int (n : Int), .int (k : Int)] ∧ 2 ≤ q ∧ q ≤ 64 ∧ n ≤ 61 ∧ ∀ H', Ex H H' → Q (.bl true) H'
theorem fac_log (s : Srt) : ∀ k, k ≤ 12 → (facF s k).1.natAbs.log2 ≤ 1000 ∧ (facF s k).2.natAbs.log2 ≤ 1000 := by
  cases s <;> decide +kernel
section
variable {P : Program} {w : World} {K : PySem.W.Frag} {mg : Str → Option Value} {base : Heap} {f : Addr} {fd : FuncData}
theorem ok__law_product (F : FnP K "_law_product" s__law_product f fd) (Z : Zs mg) (G_gauss : Fn P w K mg base CX0 2 "gauss" s_gauss ["q", "n", "k"] spGauss) (G__law_is_number : Fn P w K mg base CX0 1 "_law_is_number" s__law_is_number ["value"] spNum) : FnOk P w K mg base CX0 3 f fd ["q", "n", "k"] spProduct := by
  refine F.ok sc__law_product (fun vs H Q E h => ?_) (fun cdv A outer s H vs Q E hr h => ⟨_, PSs.nox (pss_cons (ps_asg (pe_tupF (pa_cons (pe_callF G_gauss (hr.mono (by decide)) rfl pass0 (pa_cons (pv 0) (pa_cons (pv 1) (pa_cons (pv 2) pa_nil)))) (pa_cons pe_int (pa_cons pe_int (pa_cons pe_int pa_nil))))) (pg_tup rfl (pgs_cons (pg_name (i := 3) sc__law_product.nd rfl (by first | exact Or.inl rfl | exact Or.inr rfl)) (pgs_cons (pg_name (i := 4) sc__law_product.nd rfl (by first | exact Or.inl rfl | exact Or.inr rfl)) (pgs_cons (pg_name (i := 5) sc__law_product.nd rfl (by first | exact Or.inl rfl | exact Or.inr rfl)) (pgs_cons (pg_name (i := 6) sc__law_product.nd rfl (by first | exact Or.inl rfl | exact Or.inr rfl)) pgs_nil))))))
  (pss_cons (ps_if (pt_not (pt_val (pe_callF G__law_is_number (hr.mono (by decide)) rfl pass0 (pa_cons (pv 3) pa_nil)))) (pss_one (ps_ret pe_bl)) pss_nil)
  (pss_cons (ps_if (pt_cmpR op_gt (pv 2) (pv 1) (nomark _)) (pss_one (ps_ret (pe_cmpR op_eq (pv 3) pe_int (nomark _)))) pss_nil)
  (pss_cons (ps_set (i := 7) sc__law_product.nd rfl (by first | exact Or.inl rfl | exact Or.inr rfl) pe_int)
  (pss_cons (ps_for PassesOwn.never rfl (pi_range1 (by rfl) Z.range (pa_cons (pv 1) pa_nil)) (pg_name (i := 8) sc__law_product.nd rfl (by first | exact Or.inl rfl | exact Or.inr rfl)) (pss_one (ps_set (i := 7) sc__law_product.nd rfl (by first | exact Or.inl rfl | exact Or.inr rfl) (pe_op op_mulW (pv 7) (pv 0)))))
  (pss_cons (ps_for PassesOwn.never rfl (pi_range1 (by rfl) Z.range (pa_cons (pv 2) pa_nil)) (pg_name (i := 8) sc__law_product.nd rfl (by first | exact Or.inl rfl | exact Or.inr rfl)) (pss_cons (ps_set (i := 6) sc__law_product.nd rfl (by first | exact Or.inl rfl | exact Or.inr rfl) (pe_op op_mulW (pv 6) (pv 0)))
  (pss_one (ps_par3 (i := 4) (j := 5) (l := 7) rfl sc__law_product.nd rfl rfl rfl (by decide) (by decide) (by decide) rfl rfl rfl (pa_cons (pe_op op_mulW (pv 4) (pe_op op_sub (pv 7) pe_int)) (pa_cons (pe_op op_mulW (pv 5) (pe_op op_sub (pv 6) pe_int)) (pa_cons (pe_op op_fdivW (pv 7) (pv 0)) pa_nil))) (by rfl)))))
  (pss_one (ps_ret (pe_cmpR op_eq (pe_op op_mulW (pv 3) (pv 5)) (pv 4) (nomark _)))))))))), ?_⟩)
  · obtain ⟨q, n, k, rfl, _⟩ := h
    rfl
  · obtain ⟨q, n, k, rfl, q0, q1, hn, kk⟩ := h
    refine ⟨_, rfl, _, rfl, _, rfl, q, n, k, rfl, q0, q1, hn, fun H1 e1 => ?_⟩
    refine ⟨by show 4 ≤ sizeLine; decide, fun T o hT ho => ⟨T, _, rfl, (Tp.of ho upd_same).sq, rfl, _, _, rfl, _, _, rfl, _, _, rfl, _, _, rfl, rfl, ?_⟩⟩
    have eT := Ex.new (o := .frz o (.tup [V.int (if n < k then 0 else gb q n k), .int 1, .int 1, .int 1])) hT
    have ex := e1.trans eT
    generalize upd H1 T (.frz o (.tup [V.int (if n < k then 0 else gb q n k), .int 1, .int 1, .int 1])) = H2 at ex ⊢
    refine ⟨_, rfl, _, rfl, _, rfl, iteF ?_⟩
    refine ⟨_, rfl, _, rfl, _, _, rfl, rfl, _, rfl, ?_⟩
    by_cases c : n < k
    · rw [decide_eq_true (show (n : Int) < (k : Int) by omega)]
      refine iteT ⟨_, rfl, rfl, ?_⟩
      rw [if_pos c, decide_eq_true rfl]
      exact kk _ ex
    · rw [decide_eq_false (show ¬ (n : Int) < (k : Int) by omega)]
      have kn : k ≤ n := by omega
      rw [if_neg c]
      refine iteF ?_
      refine ⟨_, rfl, _, rfl, by omega, by omega, ?_⟩
      rw [Int.toNat_natCast]
      refine for_range (lo := 0) (n := n) (fun i σ H' => H' = H2 ∧ ∃ v, σ = [some (.int (q : Int)), some (.int (n : Int)), some (.int (k : Int)), some (.int (gb q n k)), some (.int 1), some (.int 1), some (.int 1), some (.int ((q : Int) ^ i)), v]) ⟨rfl, none, by rw [Int.pow_zero]; rfl⟩ (fun i σ H' hi y => ?_) (fun σ H' y => ?_)
      · obtain ⟨rfl, v, rfl⟩ := y
        have l2 := pow_log1 (show 1 ≤ q by omega) q1 (show i ≤ 100 by omega)
        have l3 : (q : Int).natAbs.log2 ≤ 64 := lg_small (by omega)
        refine ⟨_, rfl, _, rfl, _, _, rfl, rfl, by show _ + _ < 1000000; omega, rfl, some (.int ((0 : Int) + (i : Int))), ?_⟩
        rw [show (q : Int) ^ (i + 1) = (q : Int) ^ i * (q : Int) from Int.pow_succ ..]
        rfl
      · obtain ⟨rfl, v, rfl⟩ := y
        refine ⟨_, rfl, _, rfl, by omega, by omega, ?_⟩
        rw [Int.toNat_natCast]
        refine for_range (lo := 0) (n := k) (fun i σ H'' => H'' = H' ∧ ∃ v, σ = [some (.int (q : Int)), some (.int (n : Int)), some (.int (k : Int)), some (.int (gb q n k)), some (.int (topF q n i)), some (.int (botF q i)), some (.int ((q : Int) ^ i)), some (.int ((q : Int) ^ (n - i))), v]) ⟨rfl, v, by rw [Int.pow_zero, Nat.sub_zero]; rfl⟩ (fun i σ H'' hi y => ?_) (fun σ H'' y => ?_)
        · obtain ⟨rfl, v, rfl⟩ := y
          have tl := lg_le (topF_log (show 1 ≤ q by omega) q1 hn i (by omega))
          have bl := bot_log (show 1 ≤ q by omega) q1 (show i ≤ 61 by omega)
          have l1 := pow_log1 (show 1 ≤ q by omega) q1 (show n - i ≤ 100 by omega)
          have l2 := pow_log1 (show 1 ≤ q by omega) q1 (show i ≤ 100 by omega)
          have l4 := pow_log1 (show 1 ≤ q by omega) q1 (show i + 1 ≤ 100 by omega)
          have l3 : (q : Int).natAbs.log2 ≤ 64 := lg_small (by omega)
          have i6 : 366 * i ≤ 366 * 61 := Nat.mul_le_mul_left _ (by omega)
          have pw : (q : Int) ^ (i + 1) = (q : Int) ^ i * (q : Int) := Int.pow_succ ..
          refine ⟨_, rfl, _, rfl, _, _, rfl, rfl, by show _ + _ < 1000000; omega, ?_⟩
          show _
          refine ⟨_, rfl, _, rfl, _, _, rfl, rfl, _, _, rfl, rfl, by show _ + _ < 1000000; omega, _, rfl, _, rfl, _, _, rfl, rfl, _, _, rfl, rfl, ?_, _, rfl, _, rfl, _, _, rfl, rfl, ⟨by omega, by omega⟩, ?_⟩
          · show (botF (q : Int) i).natAbs.log2 + ((q : Int) ^ i * (q : Int) - 1).natAbs.log2 < 1000000
            rw [← pw]
            omega
          · refine ⟨_, _, _, rfl, rfl, some (.int ((0 : Int) + (i : Int))), ?_⟩
            rw [← pow_down (show 1 ≤ q by omega) (show i < n by omega)]
            show _ = [_, _, _, _, _, some (V.int (botF (q : Int) i * ((q : Int) ^ (i + 1) - 1))), some (V.int ((q : Int) ^ (i + 1))), _, _]
            rw [pw]
            rfl
        · obtain ⟨rfl, v, rfl⟩ := y
          have gl := gb_log (q := q) (n := n) (k := k) (by omega) q1 hn
          have bl := bot_log (show 1 ≤ q by omega) q1 (show k ≤ 61 by omega)
          refine ⟨_, rfl, _, rfl, _, _, rfl, rfl, by show _ + _ < 1000000; omega, _, rfl, rfl, ?_⟩
          have := gb_bot (q : Int) n k kn
          rw [decide_eq_true (show V.int (gb (q : Int) n k * botF (q : Int) k) = V.int (topF (q : Int) n k) from by rw [this])]
          exact kk _ ex
end
end K45

namespace K45
open PySem PySem.Spec PyProof.Rows L2 Evl Own
theorem is_three (s : Srt) : (if (!decide (V.str s.s = V.str "three")) = true then (1 : Int) else 0) = (if s = .three then 0 else 1) := by
  cases s <;> decide
theorem is_two (s : Srt) : (if decide (V.str s.s = V.str "two") = true then (1 : Int) else 0) = (if s = .two then 1 else 0) := by
  cases s <;> decide
theorem gs_log' {q n k : Nat} (q0 : 1 ≤ q) (q1 : q ≤ 3) (hn : n ≤ 12) : (gs q n k).natAbs.log2 ≤ 1000 := gs_log q0 q1 hn
def shE (s : Srt) (n m : Nat) : List Int := (List.range m).map fun k => gs s.q (dimF s n) k * (facF s k).1
theorem shE_succ (s : Srt) (n m : Nat) : shE s n (m + 1) = shE s n m ++ [gs s.q (dimF s n) m * (facF s m).1] := by
  unfold shE
  rw [List.range_succ, List.map_append]
  rfl
section
variable {P : Program} {w : World} {K : PySem.W.Frag} {mg : Str → Option Value} {base : Heap} {f : Addr} {fd : FuncData}
theorem ok__law_shells (F : FnP K "_law_shells" s__law_shells f fd) (Z : Zs mg) (G__law_letters : Fn P w K mg base CX0 1 "_law_letters" s__law_letters ["sort"] (spSrt Srt.q)) (G__law_rooms : Fn P w K mg base CX0 1 "_law_rooms" s__law_rooms ["q", "n"] spRooms) : FnOk P w K mg base CX0 2 f fd ["sort", "length"] spShells := by
  refine F.ok sc__law_shells (fun vs H Q E h => ?_) (fun cdv A outer s H vs Q E hr h => ⟨_, PSs.nox (pss_cons (ps_par (i := 2) (j := 3) rfl sc__law_shells.nd rfl rfl (by decide) rfl rfl (pa_cons (pe_op op_fdivW (pv 1) pe_int) (pa_cons (pe_callF G__law_letters (hr.mono (by decide)) rfl pass0 (pa_cons (pv 0) pa_nil)) pa_nil)) (by rfl))
  (pss_cons (ps_if (pt_cmpR op_eq (pv 1) pe_int (nomark _)) (pss_one (ps_ret (pe_lst (pa_cons pe_int pa_nil)))) pss_nil)
  (pss_cons (ps_set (i := 4) sc__law_shells.nd rfl (by first | exact Or.inl rfl | exact Or.inr rfl) (pe_callF G__law_rooms (hr.mono (by decide)) rfl pass0 (pa_cons (pv 3) (pa_cons (pe_op op_sub (pv 2) (pe_callTy call_int1 (by rfl) Z.int (by decide +kernel) (pa_cons (pe_cmpR op_ne (pv 0) pe_str (nomark _)) pa_nil))) pa_nil))))
  (pss_cons (ps_par3 (i := 5) (j := 6) (l := 7) rfl sc__law_shells.nd rfl rfl rfl (by decide) (by decide) (by decide) rfl rfl rfl (pa_cons (pe_lst pa_nil) (pa_cons pe_int (pa_cons (pe_ix (kx_list (K := K)) (pe_lst (pa_cons pe_int (pa_cons (pv 3) pa_nil))) (pe_callTy call_int1 (by rfl) Z.int (by decide +kernel) (pa_cons (pe_cmpR op_eq (pv 0) pe_str (nomark _)) pa_nil)) (fun _ _ => rfl)) pa_nil))) (by rfl))
  (pss_cons (ps_for PassesOwn.never rfl (pi_range1 (by rfl) Z.range (pa_cons (pe_op op_add (pv 2) pe_int) pa_nil)) (pg_name (i := 8) sc__law_shells.nd rfl (by first | exact Or.inl rfl | exact Or.inr rfl)) (pss_cons (ps_expr (km_bm (K := K) PySem.F.plainAttrs_list PySem.F.slot_list_append PySem.F.type_list_append mt_append (pv 5) (pa_cons (pe_op op_mulW (pe_ix (kx_list (K := K)) (pe_op op_cat (pv 4) (pe_lst (pa_cons pe_int pa_nil))) (pv 8) (fun _ _ => rfl)) (pv 6)) pa_nil)))
  (pss_one (ps_par (i := 6) (j := 7) rfl sc__law_shells.nd rfl rfl (by decide) rfl rfl (pa_cons (pe_op op_mulW (pv 6) (pv 7)) (pa_cons (pe_op op_mulW (pv 7) (pv 3)) pa_nil)) (by rfl)))))
  (pss_one (ps_ret (pv 5)))))))), ?_⟩)
  · obtain ⟨s, n, rfl, _⟩ := h
    rfl
  · obtain ⟨s, n, rfl, hn, hs, k⟩ := h
    have q23 := s.q_le
    refine ⟨_, rfl, _, _, rfl, rfl, ⟨by decide, by decide⟩, _, rfl, s, rfl, fun H1 e1 => ⟨_, _, rfl, ?_⟩⟩
    have hh : ((n : Int) / 2) = ((n / 2 : Nat) : Int) := by omega
    refine ⟨_, rfl, rfl, _, rfl, ?_⟩
    have dz : (V.int (n : Int) = V.int 0) ↔ n = 0 := ⟨fun z => by have := V.int.inj z; omega, fun z => by rw [z]; rfl⟩
    unfold shellF at k
    by_cases n0 : n = 0
    · rw [decide_eq_true (dz.mpr n0)]
      rw [if_pos n0] at k
      exact iteT ⟨by decide, fun z hz => k z _ (fresh_back e1 hz) (e1.trans (Ex.new hz)) upd_same⟩
    · rw [decide_eq_false (fun z => n0 (dz.mp z))]
      rw [if_neg n0] at k
      have n2 : 2 ≤ n := by
        cases s
        · have : n % 2 = 0 := hs
          omega
        · have : n % 8 = 0 := hs
          omega
        · have : n % 4 = 0 := hs
          omega
      refine iteF ⟨_, rfl, _, rfl, _, rfl, rfl, .inr ⟨_, rfl, _, _, rfl, rfl, s.q, dimF s n, ?_, q23.1, q23.2, by unfold dimF; omega, fun R H2 e2 hR => ?_⟩⟩
      · show [V.int _, V.int ((n : Int) / 2 - (if (!decide (V.str s.s = V.str "three")) = true then (1 : Int) else 0))] = _
        rw [is_three, hh]
        unfold dimF
        split
        · simp
        · rw [show ((n / 2 : Nat) : Int) - 1 = ((n / 2 - 1 : Nat) : Int) by omega]
      · have dl : (gbL s.q (dimF s n) (dimF s n + 1)).length = dimF s n + 1 := gbL_len ..
        refine ⟨by decide, fun L hL => ⟨_, rfl, by show 2 ≤ sizeLine; decide, fun st hst => ⟨_, rfl, rfl, .inr ⟨_, rfl, st, _, _, .int (facF s 0).2, rfl, rfl, sq_of upd_same, ?_, _, _, _, rfl, ?_⟩⟩⟩⟩
        · rw [is_two]
          cases s <;> rfl
        · have eL := Ex.new (o := .lst []) hL
          have e3 := eL.trans (Ex.new (o := .lst [V.int 1, .int (s.q : Nat)]) hst)
          have hR3 := e3 _ _ hR
          have hL3 : upd (upd H2 L (.lst [])) st (.lst [V.int 1, .int (s.q : Nat)]) L = some (.lst ((shE s n 0).map V.int)) := (Ex.new (o := .lst [V.int 1, .int (s.q : Nat)]) hst) _ _ upd_same
          have HL : H L = none := fresh_back (e1.trans e2) hL
          have RL : R ≠ L := fun z => by
            rw [z, hL] at hR
            cases hR
          have ex3 := e1.trans (e2.trans e3)
          refine ⟨_, rfl, _, _, rfl, rfl, _, rfl, by omega, by omega, ?_⟩
          rw [show ((n : Int) / 2 + 1).toNat = n / 2 + 1 by omega]
          refine for_range (lo := 0) (n := n / 2 + 1) (fun i σ H' => Ex H H' ∧ H' R = some (.lst ((gbL s.q (dimF s n) (dimF s n + 1)).map V.int)) ∧ H' L = some (.lst ((shE s n i).map V.int)) ∧ ∃ v8, σ = [some (.str s.s), some (.int (n : Int)), some (.int ((n : Int) / 2)), some (.int (s.q : Nat)), some (.ref R), some (.ref L), some (.int (facF s i).1), some (.int (facF s i).2), v8]) ⟨ex3, hR3, hL3, none, rfl⟩ (fun i σ H' hi y => ?_) (fun σ H' y => ?_)
          · obtain ⟨ex, hR4, hL4, v8, rfl⟩ := y
            have e0 : (0 : Int) + (i : Int) = (i : Int) := by omega
            show gName _ (V.int ((0 : Int) + (i : Int))) _ _ _
            rw [e0]
            have fl := fac_log s i (by omega)
            have gl := gs_log (q := s.q) (n := dimF s n) (k := i) (by omega) q23.2 (by unfold dimF; omega)
            have ql : (s.q : Int).natAbs.log2 ≤ 64 := lg_small (by omega)
            have sl : (shE s n i).length = i := by unfold shE; rw [List.length_map, List.length_range]
            have dd : n / 2 ≤ dimF s n + 1 := by
              unfold dimF
              split <;> omega
            refine ⟨_, rfl, .inl ⟨rfl, _, sq_of hL4⟩, _, rfl, by decide, fun z hz => ?_⟩
            have ez := Ex.new (o := .lst [V.int 0]) hz
            refine ⟨R, z, _, _, rfl, rfl, ez _ _ hR4, upd_same, Nat.le_of_lt (sz_lt (by rw [List.length_map, gbL_len]; simp only [List.length_singleton]; unfold dimF; omega)), fun c hc => ?_⟩
            have ec := ez.trans (Ex.new (o := .lst ((gbL s.q (dimF s n) (dimF s n + 1)).map V.int ++ [V.int 0])) hc)
            have hc' : upd (upd H' z (.lst [V.int 0])) c (.lst ((gbL s.q (dimF s n) (dimF s n + 1)).map V.int ++ [V.int 0])) c = some (.lst ((gbL s.q (dimF s n) (dimF s n + 1) ++ [0]).map V.int)) := by
              rw [upd_same, List.map_append]
              rfl
            have at_ : atI ((gbL s.q (dimF s n) (dimF s n + 1) ++ [0]).map V.int) (i : Int) = some (.int (gs s.q (dimF s n) i)) := by
              have : (gbL s.q (dimF s n) (dimF s n + 1) ++ [0]).getD i 0 = gs s.q (dimF s n) i := by
                unfold gs
                by_cases c : dimF s n < i
                · rw [if_pos c, List.getD_eq_getElem?_getD, List.getElem?_append_right (by rw [gbL_len]; omega), gbL_len, show i - (dimF s n + 1) = 0 by omega]
                  rfl
                · rw [if_neg c, List.getD_eq_getElem?_getD, List.getElem?_append_left (by rw [gbL_len]; omega), ← List.getD_eq_getElem?_getD, gbL_at _ _ _ _ (by omega)]
              rw [← this]
              exact atI_int (by rw [List.length_append, gbL_len, List.length_singleton]; omega)
            refine ⟨_, rfl, c, _, _, _, rfl, rfl, sq_of hc', at_, _, rfl, _, _, rfl, rfl, by show _ + _ < 1000000; omega, L, _, _, rfl, rfl, ec _ _ hL4, sz_lt (by rw [List.length_map, sl]; omega), ?_⟩
            refine ⟨_, rfl, _, rfl, _, _, rfl, rfl, by show _ + _ < 1000000; omega, _, rfl, _, rfl, _, _, rfl, rfl, by show _ + _ < 1000000; omega, ?_⟩
            refine ⟨_, _, rfl, ex_side (ex.trans ec) HL, by rw [upd_ne RL]; exact ec _ _ hR4, ?_, _, rfl⟩
            rw [upd_same, shE_succ, List.map_append]
            rfl
          · obtain ⟨ex, hR4, hL4, v8, rfl⟩ := y
            exact ⟨_, rfl, k L H' HL ex hL4⟩
end
end K45

namespace K45
open PySem PySem.Spec PyProof.Rows L2 Evl Own
def spShell : Sp := fun vs H Q _ => ∃ (a : Addr) (R : Hp) (s : Srt) (n : Nat), vs = [.ref a, .str s.s, .int (n : Int)] ∧ Bx a R H ∧ n ≤ 24 ∧ n % s.step = 0 ∧ ∀ H', Bx a R H' → Q (.bl true) H'
def spLaw (K : PySem.W.Frag) : Sp := fun vs H Q _ => ∃ (a : Addr) (ns : List Int), vs = [.ref a] ∧ SqL K H a (ns.map V.int) ∧ ns.length ≤ 1000 ∧ ∀ H', Q (.bl true) H'
theorem eqv_si (z : Str) (i : Int) : PyData.eqv (.tuple [.str z, .int i]) (.tuple [.str z, .int i]) = true := by
  simp [PyData.eqv, PyData.eqvAll]
theorem eqv_ss (z y : Str) : PyData.eqv (.tuple [.str z, .str y]) (.tuple [.str z, .str y]) = true := by
  simp [PyData.eqv, PyData.eqvAll]
theorem sh_told (i : Int) : SeqAt.shaped (.tuple [.str "told", .int i]) = true := by
  have : PyData.strOk "told" = true := by decide +kernel
  simp [SeqAt.shaped, PyData.canLay0, PyData.canLayAll0, PyData.depth, PyData.depthAll, this]
theorem sh_refused : SeqAt.shaped (.tuple [.str "refused", .str "sort"]) = true := by
  have h1 : PyData.strOk "refused" = true := by decide +kernel
  have h2 : PyData.strOk "sort" = true := by decide +kernel
  simp [SeqAt.shaped, PyData.canLay0, PyData.canLayAll0, PyData.depth, PyData.depthAll, h1, h2]
theorem log_small {b : Int} (h0 : 0 ≤ b) (h1 : b ≤ 10 ^ 6) : b.natAbs.log2 < 9000 := by
  have h2 : b.natAbs ≤ 2 ^ 20 := by omega
  have := lg_le h2
  omega
section
variable {P : Program} {w : World} {K : PySem.W.Frag} {mg : Str → Option Value} {base : Heap} {f : Addr} {fd : FuncData}
theorem ok__law_shell_by_shell (F : FnP K "_law_shell_by_shell" s__law_shell_by_shell f fd) (Z : Zs mg) (G__law_shells : Fn P w K mg base CX0 2 "_law_shells" s__law_shells ["sort", "length"] spShells) (G__law_far : Fn P w K mg base CX0 4 "_law_far" s__law_far ["sort", "length", "k"] (spFar K)) (G__law_is_number : Fn P w K mg base CX0 1 "_law_is_number" s__law_is_number ["value"] spNum)
    (G__law_take : Fn P w K mg base CX0 1 "_law_take" s__law_take ["box", "many"] spTake) (G_how_many : Fn P w K mg base CX0 3 "how_many" s_how_many ["sort", "length"] spHow) : FnOk P w K mg base CX0 5 f fd ["box", "sort", "length"] spShell := by
  refine F.ok sc__law_shell_by_shell (fun vs H Q E h => ?_) (fun cdv A outer s H vs Q E hr h => ⟨_, PSs.nox (pss_cons (ps_set (i := 3) sc__law_shell_by_shell.nd rfl (by first | exact Or.inl rfl | exact Or.inr rfl) (pe_callF G__law_shells (hr.mono (by decide)) rfl pass0 (pa_cons (pv 1) (pa_cons (pv 2) pa_nil))))
  (pss_cons (ps_for PassesOwn.never rfl (pi_range1 (by rfl) Z.range (pa_cons (pe_callB (kc_len (K := K)) (by rfl) Z.len PySem.boot_len (pa_cons (pv 3) pa_nil)) pa_nil)) (pg_name (i := 4) sc__law_shell_by_shell.nd rfl (by first | exact Or.inl rfl | exact Or.inr rfl)) (pss_cons (ps_set (i := 5) sc__law_shell_by_shell.nd rfl (by first | exact Or.inl rfl | exact Or.inr rfl) (pe_callF G__law_far (hr.mono (by decide)) rfl pass0 (pa_cons (pv 1) (pa_cons (pv 2) (pa_cons (pv 4) pa_nil)))))
  (pss_one (ps_if (PW.pt (pw_or (pt_not (pt_val (pe_callF G__law_is_number (hr.mono (by decide)) rfl pass0 (pa_cons (pe_ix (kx_tup (K := K)) (pv 5) pe_int (fun _ _ => rfl)) pa_nil)))) (pw_or1 (pt_cmpR (ko_ne (K := K) hr.units) (pv 5) (pe_tupF (pa_cons pe_str (pa_cons (pe_ix (kx_list (K := K)) (pv 3) (pv 4) (fun _ _ => rfl)) pa_nil))) (nomark _))))) (pss_one (ps_ret pe_bl)) pss_nil))))
  (pss_cons (ps_set (i := 6) sc__law_shell_by_shell.nd rfl (by first | exact Or.inl rfl | exact Or.inr rfl) (pe_op op_add (pe_op op_fdivW (pv 2) pe_int) pe_int))
  (pss_cons (ps_for PassesOwn.never rfl (pi_list (pe_lst (pa_cons (pv 6) (pa_cons (pe_op op_add (pv 6) (pe_callF G__law_take (hr.mono (by decide)) rfl pass0 (pa_cons (pv 0) (pa_cons pe_int pa_nil)))) (pa_cons (pe_op op_add (pv 6) (pe_callF G__law_take (hr.mono (by decide)) rfl pass0 (pa_cons (pv 0) (pa_cons (pe_op op_sub (pe_op op_pow pe_int pe_int) (pv 6)) pa_nil)))) pa_nil))))) (pg_name (i := 4) sc__law_shell_by_shell.nd rfl (by first | exact Or.inl rfl | exact Or.inr rfl)) (pss_cons (ps_set (i := 5) sc__law_shell_by_shell.nd rfl (by first | exact Or.inl rfl | exact Or.inr rfl) (pe_callF G__law_far (hr.mono (by decide)) rfl pass0 (pa_cons (pv 1) (pa_cons (pv 2) (pa_cons (pv 4) pa_nil)))))
  (pss_one (ps_if (PW.pt (pw_or (pt_not (pt_val (pe_callF G__law_is_number (hr.mono (by decide)) rfl pass0 (pa_cons (pe_ix (kx_tup (K := K)) (pv 5) pe_int (fun _ _ => rfl)) pa_nil)))) (pw_or1 (pt_cmpR (ko_ne (K := K) hr.units) (pv 5) (pe_tupF (pa_cons pe_str (pa_cons pe_int pa_nil))) (nomark _))))) (pss_one (ps_ret pe_bl)) pss_nil))))
  (pss_cons (ps_set (i := 5) sc__law_shell_by_shell.nd rfl (by first | exact Or.inl rfl | exact Or.inr rfl) (pe_callF G_how_many (hr.mono (by decide)) rfl pass0 (pa_cons (pv 1) (pa_cons (pv 2) pa_nil))))
  (pss_one (ps_ret (pe_and (pe_callF G__law_is_number (hr.mono (by decide)) rfl pass0 (pa_cons (pv 5) pa_nil)) (pe_one (pe_cmpR op_eq (pv 5) (pe_callB (kc_sum (K := K) rfl) (by rfl) Z.sum (by decide +kernel) (pa_cons (pv 3) pa_nil)) (nomark _))))))))))), ?_⟩)
  · obtain ⟨a, R, s, n, rfl, _⟩ := h
    rfl
  · obtain ⟨a, R, s, n, rfl, hw, hn, hs, k⟩ := h
    obtain ⟨so, sm, sl⟩ := shells_ok hn hs
    refine ⟨_, rfl, _, rfl, s, n, rfl, hn, hs, fun L H1 nL e1 hL1 => ?_⟩
    have La : L ≠ a := fun z => hw.ne (z ▸ nL)
    obtain ⟨R1, er1, w1, m1⟩ := hw.more e1
    have hL : R1 L = some (.lst ((shellF s n).map V.int)) := m1 _ _ La hL1
    clear m1 hL1
    have stepk : ∀ (kk : Nat) (H' : Hp) (Qk : VK), (∀ T H2, Ex H' H2 → Tp K H2 T [.str "told", .int (soF s n kk)] → Qk (.ref T) H2) → spFar K [.str s.s, .int (n : Int), .int (kk : Int)] H' Qk E0 := fun kk H' Qk q =>
      ⟨s.s, n, kk, rfl, hn, .inl ⟨s, rfl, hs, fun T H2 e t => q T H2 e t⟩⟩
    refine ⟨_, rfl, L, _, rfl, .inl (sq_of (w1.ex _ _ hL)), _, rfl, by omega, by rw [List.length_map]; omega, ?_⟩
    rw [List.length_map, Int.toNat_natCast, sl]
    refine for_range (lo := 0) (n := n / 2 + 1) (fun i σ H' => Bx a R1 H' ∧ ∃ v4 v5, σ = [some (.ref a), some (.str s.s), some (.int (n : Int)), some (.ref L), v4, v5, none]) ⟨w1, none, none, rfl⟩ (fun i σ H' hi y => ?_) (fun σ H' y => ?_)
    · obtain ⟨w2, v4, v5, rfl⟩ := y
      have e0 : (0 : Int) + (i : Int) = (i : Int) := by omega
      show gName _ (V.int ((0 : Int) + (i : Int))) _ _ _
      rw [e0]
      refine ⟨_, rfl, _, rfl, _, rfl, stepk i _ _ fun T H2 e2 hT => ?_⟩
      refine ⟨_, rfl, T, _, 1, _, rfl, rfl, hT.sq, rfl, _, rfl, _, rfl, iteF ?_⟩
      have w3 := w2.keep e2
      refine ⟨_, rfl, _, rfl, _, rfl, L, _, _, _, rfl, rfl, sq_of (w3.ex _ _ hL), atI_int (by omega), by show 2 ≤ sizeLine; decide, fun U o hU ho => ?_⟩
      rw [so i (by omega)]
      have eU := Ex.new (o := .frz o (.tup [V.str "told", .int (soF s n i)])) hU
      refine ⟨_, _, .tup ((hT.ex eU).sq) (.cons (.str _) (.cons (.int _) .nil)), .tup (Tp.of (K := K) ho upd_same).sq (.cons (.str _) (.cons (.int _) .nil)), sh_told _, sh_told _, _, rfl, ?_⟩
      rw [eqv_si]
      exact iteF ⟨w3.keep eU, _, _, rfl⟩
    · obtain ⟨w2, v4, v5, rfl⟩ := y
      refine ⟨_, rfl, _, _, rfl, rfl, ⟨by decide, by decide⟩, _, _, rfl, rfl, ?_⟩
      have p6 : (10 : Int) ^ (6 : Int).toNat = 1000000 := rfl
      refine ⟨_, rfl, _, rfl, _, rfl, a, R1, 12, rfl, w2, by decide, by decide, fun r1 H3 r10 r11 w3 => ⟨_, _, rfl, rfl, ?_⟩⟩
      refine ⟨_, rfl, _, rfl, _, _, rfl, rfl, ⟨by decide, by decide, by decide⟩, _, rfl, _, _, rfl, rfl, a, R1, _, rfl, w3, ?_, log_small ?_ ?_, fun r2 H4 r20 r21 w4 => ⟨_, _, rfl, rfl, by show 3 ≤ sizeLine; decide, fun M hM => ?_⟩⟩
      · show (0 : Int) < 10 ^ (6 : Int).toNat - ((n : Int) / 2 + 1)
        omega
      · show (0 : Int) ≤ 10 ^ (6 : Int).toNat - ((n : Int) / 2 + 1)
        omega
      · show 10 ^ (6 : Int).toNat - ((n : Int) / 2 + 1) ≤ (10 : Int) ^ 6
        have : (10 : Int) ^ 6 = 1000000 := rfl
        omega
      · have w5 := w4.new (o := .lst [V.int ((n : Int) / 2 + 1), .int ((n : Int) / 2 + 1 + r1), .int ((n : Int) / 2 + 1 + r2)]) hM
        have e5 := Ex.new (o := .lst [V.int ((n : Int) / 2 + 1), .int ((n : Int) / 2 + 1 + r1), .int ((n : Int) / 2 + 1 + r2)]) (w4.free hM)
        have hM5 : upd R1 M (.lst [V.int ((n : Int) / 2 + 1), .int ((n : Int) / 2 + 1 + r1), .int ((n : Int) / 2 + 1 + r2)]) M = some (.lst [V.int ((n : Int) / 2 + 1), .int ((n : Int) / 2 + 1 + r1), .int ((n : Int) / 2 + 1 + r2)]) := upd_same
        have hL5 := e5 _ _ hL
        have er5 := er1.trans e5
        generalize upd R1 M (.lst [V.int ((n : Int) / 2 + 1), .int ((n : Int) / 2 + 1 + r1), .int ((n : Int) / 2 + 1 + r2)]) = R5 at w5 hM5 hL5 er5
        clear e5
        refine ⟨M, rfl, ⟨_, sq_of (w5.ex _ _ hM5)⟩, for_list (xs := [V.int ((n : Int) / 2 + 1), .int ((n : Int) / 2 + 1 + r1), .int ((n : Int) / 2 + 1 + r2)]) (fun i σ H' => Bx a R5 H' ∧ ∃ v4 v5, σ = [some (.ref a), some (.str s.s), some (.int (n : Int)), some (.ref L), v4, v5, some (.int ((n : Int) / 2 + 1))]) ⟨w5, v4, v5, rfl⟩ (fun i σ H' _ h => sq_of (h.1.ex _ _ hM5)) (fun i z σ H' hz h => ?_) (fun σ H' h => ?_)⟩
        · obtain ⟨w6, v4, v5, rfl⟩ := h
          have hk : ∃ kk : Nat, z = .int (kk : Int) ∧ n / 2 < kk := by
            have h := List.mem_of_getElem? hz
            rcases List.mem_cons.mp h with rfl | h
            · exact ⟨n / 2 + 1, by congr 1 <;> omega, by omega⟩
            rcases List.mem_cons.mp h with rfl | h
            · exact ⟨((n : Int) / 2 + 1 + r1).toNat, by congr 1; omega, by omega⟩
            · rw [List.mem_singleton.mp h]
              exact ⟨((n : Int) / 2 + 1 + r2).toNat, by congr 1; omega, by omega⟩
          obtain ⟨kk, rfl, hkk⟩ := hk
          refine ⟨_, rfl, _, rfl, _, rfl, stepk kk _ _ fun T H2 e2 hT => ?_⟩
          rw [so_behind hkk] at hT
          refine ⟨_, rfl, T, _, 1, _, rfl, rfl, hT.sq, rfl, _, rfl, _, rfl, iteF ?_⟩
          refine ⟨_, rfl, by show 2 ≤ sizeLine; decide, fun U o hU ho => ?_⟩
          have eU := Ex.new (o := .frz o (.tup [V.str "told", .int 0])) hU
          refine ⟨_, _, .tup ((hT.ex eU).sq) (.cons (.str _) (.cons (.int _) .nil)), .tup (Tp.of (K := K) ho upd_same).sq (.cons (.str _) (.cons (.int _) .nil)), sh_told _, sh_told _, _, rfl, ?_⟩
          rw [eqv_si]
          exact iteF ⟨w6.keep (e2.trans eU), _, _, rfl⟩
        · obtain ⟨w6, v4, v5, rfl⟩ := h
          refine ⟨_, rfl, _, rfl, s, n, rfl, hn, ?_⟩
          refine ⟨_, rfl, _, rfl, _, rfl, iteT ⟨_, rfl, _, rfl, L, _, rfl, sq_of (w6.ex _ _ hL5), rfl, ?_⟩⟩
          rw [sm, decide_eq_true rfl]
          exact k _ (w6.weak er5)
end
end K45

namespace K45
open PySem PySem.Spec PyProof.Rows L2 Evl Own
section
variable {P : Program} {w : World} {K : PySem.W.Frag} {mg : Str → Option Value} {base : Heap} {f : Addr} {fd : FuncData}
theorem how_none {s : Srt} {n : Nat} (h : n % s.step ≠ 0) : howF s n = 0 := by
  unfold howF
  rw [if_neg h]
theorem room_b (s : Srt) : 0 < (25 : Int) - 8 * (if decide (V.str s.s = V.str "three") = true then 1 else 0) ∧ (25 : Int) - 8 * (if decide (V.str s.s = V.str "three") = true then 1 else 0) ≤ 25 := by
  cases s <;> decide
theorem ok_law (F : FnP K "law" s_law f fd) (Z : Zs mg) (G__law_box : Fn P w K mg base CX0 1 "_law_box" s__law_box ["script", "k"] (spBox K)) (G__law_pick : Fn P w K mg base CX0 2 "_law_pick" s__law_pick ["box", "some"] (spPick K)) (G__law_room : Fn P w K mg base CX0 3 "_law_room" s__law_room ["box", "sort"] spRoom)
    (G__law_take : Fn P w K mg base CX0 1 "_law_take" s__law_take ["box", "many"] spTake) (G_some_own : Fn P w K mg base CX0 2 "some_own" s_some_own ["sort", "length"] (spSome K)) (G_how_many : Fn P w K mg base CX0 3 "how_many" s_how_many ["sort", "length"] spHow) (G__law_is_number : Fn P w K mg base CX0 1 "_law_is_number" s__law_is_number ["value"] spNum)
    (G__law_is_one : Fn P w K mg base CX0 6 "_law_is_one" s__law_is_one ["sort", "length", "value"] (spIsOne K)) (G__law_shell_by_shell : Fn P w K mg base CX0 5 "_law_shell_by_shell" s__law_shell_by_shell ["box", "sort", "length"] spShell) (G__law_product : Fn P w K mg base CX0 3 "_law_product" s__law_product ["q", "n", "k"] spProduct)
    (G__law_far : Fn P w K mg base CX0 4 "_law_far" s__law_far ["sort", "length", "k"] (spFar K)) (G__law_no_sort : Fn P w K mg base CX0 3 "_law_no_sort" s__law_no_sort ["box"] spNoSort) : FnOk P w K mg base CX0 7 f fd ["script"] (spLaw K) := by
  refine F.ok sc_law (fun vs H Q E h => ?_) (fun cdv A outer s H vs Q E hr h => ⟨_, PSs.nox (pss_cons (ps_for PassesOwn.never rfl (pi_range1 (by rfl) Z.range (pa_cons pe_int pa_nil)) (pg_name (i := 1) sc_law.nd rfl (by first | exact Or.inl rfl | exact Or.inr rfl)) (pss_cons (ps_set (i := 2) sc_law.nd rfl (by first | exact Or.inl rfl | exact Or.inr rfl) (pe_callF G__law_box (hr.mono (by decide)) rfl pass0 (pa_cons (pv 0) (pa_cons (pv 1) pa_nil))))
  (pss_cons (ps_set (i := 3) sc_law.nd rfl (by first | exact Or.inl rfl | exact Or.inr rfl) (pe_callF G__law_pick (hr.mono (by decide)) rfl pass0 (pa_cons (pv 2) (pa_cons (pe_lst (pa_cons pe_str (pa_cons pe_str (pa_cons pe_str pa_nil)))) pa_nil))))
  (pss_cons (ps_set (i := 4) sc_law.nd rfl (by first | exact Or.inl rfl | exact Or.inr rfl) (pe_callF G__law_room (hr.mono (by decide)) rfl pass0 (pa_cons (pv 2) (pa_cons (pv 3) pa_nil))))
  (pss_cons (ps_if (pt_cmpR op_eq (pe_callF G__law_take (hr.mono (by decide)) rfl pass0 (pa_cons (pv 2) (pa_cons pe_int pa_nil))) pe_int (nomark _)) (pss_one (ps_set (i := 4) sc_law.nd rfl (by first | exact Or.inl rfl | exact Or.inr rfl) (pe_callF G__law_take (hr.mono (by decide)) rfl pass0 (pa_cons (pv 2) (pa_cons (pe_op op_sub pe_int (pe_op op_mul pe_int (pe_callTy call_int1 (by rfl) Z.int (by decide +kernel) (pa_cons (pe_cmpR op_eq (pv 3) pe_str (nomark _)) pa_nil)))) pa_nil))))) pss_nil)
  (pss_cons (ps_set (i := 5) sc_law.nd rfl (by first | exact Or.inl rfl | exact Or.inr rfl) (pe_callF G_some_own (hr.mono (by decide)) rfl pass0 (pa_cons (pv 3) (pa_cons (pv 4) pa_nil))))
  (pss_cons (ps_if (pt_cmpR op_gt (pe_op op_mod (pe_callTy call_int1 (by rfl) Z.int (by decide +kernel) (pa_cons (pv 4) pa_nil)) (pe_dget (hu_of hr) (pe_disp (pps_cons pe_str pe_int (pps_cons pe_str pe_int (pps_cons pe_str pe_int pps_nil))) (by rfl) (by rfl) (fun z => by cases z) (by decide)) (pv 3) (fun _ _ => rfl))) pe_int (nomark _)) (pss_cons (ps_set (i := 6) sc_law.nd rfl (by first | exact Or.inl rfl | exact Or.inr rfl) (pe_callF G_how_many (hr.mono (by decide)) rfl pass0 (pa_cons (pv 3) (pa_cons (pv 4) pa_nil))))
  (pss_one (ps_if (PW.pt (pw_or (pt_cmpR op_notN (pv 5) pe_non (nomark _)) (pw_or (pt_not (pt_val (pe_callF G__law_is_number (hr.mono (by decide)) rfl pass0 (pa_cons (pv 6) pa_nil)))) (pw_or1 (pt_cmpR op_ne (pv 6) pe_int (nomark _)))))) (pss_one (ps_ret pe_bl)) pss_nil))) (pss_one (ps_if (PW.pt (pw_or (pt_not (pt_val (pe_callF G__law_is_one (hr.mono (by decide)) rfl pass0 (pa_cons (pv 3) (pa_cons (pv 4) (pa_cons (pv 5) pa_nil)))))) (pw_or1 (pt_not (pt_val (pe_callF G__law_shell_by_shell (hr.mono (by decide)) rfl pass0 (pa_cons (pv 2) (pa_cons (pv 3) (pa_cons (pv 4) pa_nil))))))))) (pss_one (ps_ret pe_bl)) pss_nil)))
  (pss_cons (ps_par (i := 7) (j := 8) rfl sc_law.nd rfl rfl (by decide) rfl rfl (pa_cons (pe_op op_add pe_int (pe_callF G__law_take (hr.mono (by decide)) rfl pass0 (pa_cons (pv 2) (pa_cons pe_int pa_nil)))) (pa_cons (pe_callF G__law_take (hr.mono (by decide)) rfl pass0 (pa_cons (pv 2) (pa_cons pe_int pa_nil))) pa_nil)) (by rfl))
  (pss_cons (ps_if (PW.pt (pw_or (pt_not (pt_val (pe_callF G__law_product (hr.mono (by decide)) rfl pass0 (pa_cons (pv 7) (pa_cons (pv 8) (pa_cons (pe_callF G__law_take (hr.mono (by decide)) rfl pass0 (pa_cons (pv 2) (pa_cons (pe_op op_add (pv 8) pe_int) pa_nil))) pa_nil)))))) (pw_or1 (pt_not (pt_val (pe_callF G__law_product (hr.mono (by decide)) rfl pass0 (pa_cons (pe_op op_add pe_int (pe_callF G__law_take (hr.mono (by decide)) rfl pass0 (pa_cons (pv 2) (pa_cons pe_int pa_nil)))) (pa_cons (pv 8) (pa_cons (pe_op op_fdivW (pv 8) pe_int) pa_nil))))))))) (pss_one (ps_ret pe_bl)) pss_nil)
  (pss_cons (ps_if (pt_not (pt_val (pe_callF G__law_product (hr.mono (by decide)) rfl pass0 (pa_cons (pv 7) (pa_cons (pv 8) (pa_cons (pe_op op_add (pe_op op_add (pv 8) pe_int) (pe_callF G__law_take (hr.mono (by decide)) rfl pass0 (pa_cons (pv 2) (pa_cons (pe_op op_sub (pe_op op_pow pe_int pe_int) pe_int) pa_nil)))) pa_nil)))))) (pss_one (ps_ret pe_bl)) pss_nil)
  (pss_one (ps_if (pt_cmpR (ko_ne (K := K) hr.units) (pe_callF G__law_far (hr.mono (by decide)) rfl pass0 (pa_cons (pe_callF G__law_no_sort (hr.mono (by decide)) rfl pass0 (pa_cons (pv 2) pa_nil)) (pa_cons (pe_op op_mul pe_int (pe_callF G__law_take (hr.mono (by decide)) rfl pass0 (pa_cons (pv 2) (pa_cons pe_int pa_nil)))) (pa_cons (pe_callF G__law_take (hr.mono (by decide)) rfl pass0 (pa_cons (pv 2) (pa_cons pe_int pa_nil))) pa_nil)))) (pe_tupF (pa_cons pe_str (pa_cons pe_str pa_nil))) (nomark _)) (pss_one (ps_ret pe_bl)) pss_nil))))))))))))
  (pss_one (ps_ret pe_bl))), ?_⟩)
  · obtain ⟨a, ns, rfl, _⟩ := h
    rfl
  · obtain ⟨a, ns, rfl, ha, hl, kf⟩ := h
    refine ⟨4, rfl, by decide, by decide, ?_⟩
    refine for_range (lo := 0) (n := 4) (fun i σ H' => Ex H H' ∧ ∃ v1 v2 v3 v4 v5 v6 v7 v8, σ = [some (.ref a), v1, v2, v3, v4, v5, v6, v7, v8]) ⟨Ex.refl _, none, none, none, none, none, none, none, none, rfl⟩ (fun i σ H' hi y => ?_) (fun σ H' y => kf _)
    obtain ⟨ex, v1, v2, v3, v4, v5, v6, v7, v8, rfl⟩ := y
    have e0 : (0 : Int) + (i : Int) = (i : Int) := by omega
    show gName _ (V.int ((0 : Int) + (i : Int))) _ _ _
    rw [e0]
    refine ⟨_, rfl, _, rfl, a, ns, i, rfl, ex_l ex ha, by omega, hl, fun d H1 w1 => ?_⟩
    refine ⟨_, rfl, by show 3 ≤ sizeLine; decide, fun L hL => ?_⟩
    have w2 := w1.new (o := .lst [V.str "two", .str "twice", .str "three"]) hL
    have r2 := Ex.new (o := .lst [V.str "two", .str "twice", .str "three"]) (w1.free hL)
    refine ⟨d, L, false, _, [V.str "two", .str "twice", .str "three"], rfl, w2, sqb_l upd_same, by simp, by show 3 ≤ 100; decide, fun j v H2 hv w3 => ?_⟩
    have hs : ∃ s : Srt, v = .str s.s := by
      have h := List.mem_of_getElem? hv
      rcases List.mem_cons.mp h with rfl | h
      · exact ⟨.two, rfl⟩
      rcases List.mem_cons.mp h with rfl | h
      · exact ⟨.twice, rfl⟩
      · rw [List.mem_singleton.mp h]
        exact ⟨.three, rfl⟩
    obtain ⟨s, rfl⟩ := hs
    have w4 := w3.weak r2
    clear w2 w3 r2 hv
    have sp := s.step_pos
    have sb := s.bound_le
    refine ⟨_, rfl, _, rfl, d, H', s, rfl, w4, fun n0 H3 n0b n0s w5 => ?_⟩
    dsimp only [gName]
    refine if_join (fun σ' H4 => Bx d H' H4 ∧ ∃ n : Nat, n ≤ 24 ∧ σ' = [some (.ref a), some (.int (i : Int)), some (.ref d), some (.str s.s), some (.int (n : Int)), v5, v6, v7, v8]) ?_ ?_
    · rintro σ' H4 ⟨w6, n, hn, rfl⟩
      have mid : (n : Int) % ((s.step : Nat) : Int) = ((n % s.step : Nat) : Int) := by rw [Int.natCast_emod]
      dsimp only
      refine asg_join (fun v H5 => Bx d H' H5 ∧ ((n % s.step ≠ 0 ∧ v = .non) ∨ (n % s.step = 0 ∧ ∃ p r, v = .ref p ∧ Tp K H5 p [.int (s.q : Nat), .int (n : Int), .ref r] ∧ TpR K H5 r (ownRows s n)))) ?_ ?_
      · rintro v H5 ⟨w7, hv⟩
        dsimp only
        refine if_both (fun σ' H6 => Bx d H' H6 ∧ ∃ v6, σ' = [some (.ref a), some (.int (i : Int)), some (.ref d), some (.str s.s), some (.int (n : Int)), some v, v6, v7, v8]) ?_ ?_
        · rintro σ' H6 ⟨w8, v6, rfl⟩
          refine ⟨_, rfl, d, H', 59, rfl, w8, by decide, by decide, fun r1 H7 r10 r11 w9 => ⟨_, _, rfl, rfl, _, rfl, d, H', 61, rfl, w9, by decide, by decide, fun r2 H8 r20 r21 w10 => ⟨_, _, rfl, ?_⟩⟩⟩
          obtain ⟨m1, rfl⟩ : ∃ m : Nat, r1 = (m : Int) := ⟨r1.toNat, by omega⟩
          obtain ⟨m2, rfl⟩ : ∃ m : Nat, r2 = (m : Int) := ⟨r2.toNat, by omega⟩
          refine ⟨_, rfl, _, rfl, _, rfl, _, rfl, _, _, rfl, rfl, d, H', _, rfl, w10, by omega, log_small (by omega) (by omega), fun r3 H9 r30 r31 w11 => ?_⟩
          obtain ⟨m3, rfl⟩ : ∃ m : Nat, r3 = (m : Int) := ⟨r3.toNat, by omega⟩
          refine ⟨2 + m1, m2, m3, rfl, by omega, by omega, by omega, fun H10 e10 => ⟨_, rfl, iteF ?_⟩⟩
          have w12 := w11.keep e10
          refine ⟨_, rfl, d, H', 2, rfl, w12, by decide, by decide, fun r4 H11 r40 r41 w13 => ⟨_, _, rfl, rfl, _, rfl, _, rfl, _, _, rfl, rfl, ⟨by decide, by decide⟩, ?_⟩⟩
          obtain ⟨m4, rfl⟩ : ∃ m : Nat, r4 = (m : Int) := ⟨r4.toNat, by omega⟩
          refine ⟨2 + m4, m2, m2 / 2, rfl, by omega, by omega, by omega, fun H12 e12 => ⟨_, rfl, iteF ?_⟩⟩
          have w14 := w13.keep e12
          have p6 : (10 : Int) ^ (6 : Int).toNat = 1000000 := rfl
          refine ⟨_, rfl, _, rfl, _, rfl, _, _, rfl, rfl, _, rfl, _, _, rfl, rfl, ⟨by decide, by decide, by decide⟩, _, _, rfl, rfl, d, H', _, rfl, w14, by show (0 : Int) < 10 ^ (6 : Int).toNat - 61; decide, log_small (by show (0 : Int) ≤ 10 ^ (6 : Int).toNat - 61; decide) (by show (10 : Int) ^ (6 : Int).toNat - 61 ≤ _; decide), fun r5 H13 r50 r51 w15 => ⟨_, _, rfl, rfl, ?_⟩⟩
          obtain ⟨m5, rfl⟩ : ∃ m : Nat, r5 = (m : Int) := ⟨r5.toNat, by omega⟩
          refine ⟨2 + m1, m2, m2 + 1 + m5, rfl, by omega, by omega, by omega, fun H14 e14 => ⟨_, rfl, iteF ?_⟩⟩
          have w16 := w15.keep e14
          refine ⟨_, rfl, d, H', rfl, w16, fun z H15 hz w17 => ?_⟩
          refine ⟨_, rfl, d, H', 3, rfl, w17, by decide, by decide, fun r6 H16 r60 r61 w18 => ⟨_, _, rfl, rfl, .inl ⟨by decide, by decide⟩, _, rfl, d, H', 5, rfl, w18, by decide, by decide, fun r7 H17 r70 r71 w19 => ?_⟩⟩
          obtain ⟨m6, rfl⟩ : ∃ m : Nat, r6 = (m : Int) := ⟨r6.toNat, by omega⟩
          obtain ⟨m7, rfl⟩ : ∃ m : Nat, r7 = (m : Int) := ⟨r7.toNat, by omega⟩
          refine ⟨z, 8 * m6, m7, rfl, by omega, .inr ⟨hz, fun T H18 e18 hT => ?_⟩⟩
          refine ⟨by show 2 ≤ sizeLine; decide, fun U o hU ho => ?_⟩
          have eU := Ex.new (o := .frz o (.tup [V.str "refused", .str "sort"])) hU
          refine ⟨_, _, .tup ((hT.ex eU).sq) (.cons (.str _) (.cons (.str _) .nil)), .tup (Tp.of (K := K) ho upd_same).sq (.cons (.str _) (.cons (.str _) .nil)), sh_refused, sh_refused, _, rfl, ?_⟩
          rw [eqv_ss]
          exact iteF ⟨ex.trans ((w19.keep (e18.trans eU)).ex), _, _, _, _, _, _, _, _, rfl⟩
        · intro nx hnx
          refine ⟨_, rfl, .inl ⟨_, rfl, fun p hp => ⟨upd_same, [(Sum.inr "two", .int 2), (Sum.inr "twice", .int 8), (Sum.inr "three", .int 4)], rfl, by show 3 ≤ 15; decide, ?_⟩⟩⟩
          rw [upd_upd]
          have w8 := w7.keep (Ex.new (o := .dK (mergeK [] [(Sum.inr "two", V.int 2), (Sum.inr "twice", V.int 8), (Sum.inr "three", V.int 4)])) hp)
          have eD := Ex.new (o := .dK (mergeK [] [(Sum.inr "two", V.int 2), (Sum.inr "twice", V.int 8), (Sum.inr "three", V.int 4)])) hp
          have g3 : DGet (upd H5 p (.dK (mergeK [] [(Sum.inr "two", V.int 2), (Sum.inr "twice", V.int 8), (Sum.inr "three", V.int 4)]))) p (.str s.s) (some (.int ((s.step : Nat) : Int))) := by
            have := get3 (x := V.int 2) (y := V.int 8) (z := V.int 4) s (upd_same (H := H5) (a := p) (o := .dK (mergeK [] [(Sum.inr "two", V.int 2), (Sum.inr "twice", V.int 8), (Sum.inr "three", V.int 4)])))
            cases s <;> exact this
          generalize upd H5 p (.dK (mergeK [] [(Sum.inr "two", V.int 2), (Sum.inr "twice", V.int 8), (Sum.inr "three", V.int 4)])) = H6 at w8 eD g3 ⊢
          refine ⟨_, rfl, p, _, rfl, g3, _, _, rfl, rfl, by omega, _, _, rfl, rfl, _, rfl, ?_⟩
          rcases hv with ⟨c, rfl⟩ | ⟨c, p1, r1, rfl, tp, tr⟩
          · rw [decide_eq_true (show (0 : Int) < (n : Int) % ((s.step : Nat) : Int) by rw [mid]; omega)]
            refine iteT ⟨_, rfl, _, rfl, s, n, rfl, hn, ?_⟩
            rw [how_none c]
            refine ⟨_, rfl, rfl, _, rfl, iteF ⟨_, rfl, _, rfl, _, rfl, iteF ⟨_, rfl, rfl, _, rfl, iteF ?_⟩⟩⟩
            exact hnx _ _ ⟨w8, _, rfl⟩
          · rw [decide_eq_false (show ¬ (0 : Int) < (n : Int) % ((s.step : Nat) : Int) by rw [mid]; omega)]
            refine iteF ⟨_, rfl, _, rfl, _, rfl, s, n, p1, r1, _, rfl, hn, good hn c, tp.ex eD, tr.ex eD, fun H7 e7 => ⟨_, rfl, iteF ?_⟩⟩
            refine ⟨_, rfl, _, rfl, _, rfl, d, H', s, n, rfl, w8.keep e7, hn, c, fun H8 w9 => ⟨_, rfl, iteF ?_⟩⟩
            exact hnx _ _ ⟨w9, _, rfl⟩
      · intro Qk hq
        refine ⟨_, rfl, _, rfl, s, n, rfl, hn, ?_⟩
        by_cases c : n % s.step = 0
        · exact .inr ⟨c, fun p r H5 e5 tp tr => hq _ _ ⟨w6.keep e5, .inr ⟨c, p, r, rfl, tp, tr⟩⟩⟩
        · exact .inl ⟨c, hq _ _ ⟨w6, .inl ⟨c, rfl⟩⟩⟩
    · intro nx hnx
      refine ⟨_, rfl, d, H', 4, rfl, w5, by decide, by decide, fun r H4 r0 r1 w6 => ⟨rfl, _, rfl, ?_⟩⟩
      rw [dec_int]
      cases c : r == 0 with
      | true =>
        refine iteT ⟨_, rfl, _, rfl, rfl, .inr ⟨_, rfl, _, _, rfl, rfl, .inl ⟨by decide, by decide⟩, _, _, rfl, rfl, d, H', _, rfl, w6, ?_, ?_, fun r2 H5 r20 r21 w7 => ?_⟩⟩
        · exact (room_b s).1
        · exact log_small (Int.le_of_lt (room_b s).1) (Int.le_trans (room_b s).2 (by decide))
        · have rb := (room_b s).2
          obtain ⟨m, rfl⟩ : ∃ m : Nat, r2 = (m : Int) := ⟨r2.toNat, by omega⟩
          refine hnx _ _ ⟨w7, m, ?_, rfl⟩
          have : (m : Int) < 25 := Int.lt_of_lt_of_le r21 rb
          omega
      | false =>
        exact iteF (hnx _ _ ⟨w6, n0, by omega, rfl⟩)
end
end K45

set_option maxHeartbeats 0
namespace K45
open PySem PySem.Spec PyProof.Rows L2 Own
/-! ### the head: facts by names, the run -/
def d_power_of : He.DefD := ⟨("power_of", none), "power_of", "power_of", defArgs s_power_of, defBody s_power_of, defScope s_power_of, [], []⟩
def d_is_sort : He.DefD := ⟨("is_sort", none), "is_sort", "is_sort", defArgs s_is_sort, defBody s_is_sort, defScope s_is_sort, [], []⟩
def d_has_codes : He.DefD := ⟨("has_codes", none), "has_codes", "has_codes", defArgs s_has_codes, defBody s_has_codes, defScope s_has_codes, [], []⟩
def d_product_from : He.DefD := ⟨("product_from", none), "product_from", "product_from", defArgs s_product_from, defBody s_product_from, defScope s_product_from, [], []⟩
def d_how_many : He.DefD := ⟨("how_many", none), "how_many", "how_many", defArgs s_how_many, defBody s_how_many, defScope s_how_many, [], []⟩
def d_some_own : He.DefD := ⟨("some_own", none), "some_own", "some_own", defArgs s_some_own, defBody s_some_own, defScope s_some_own, [], []⟩
def d_gauss : He.DefD := ⟨("gauss", none), "gauss", "gauss", defArgs s_gauss, defBody s_gauss, defScope s_gauss, [], []⟩
def d_so_far : He.DefD := ⟨("so_far", none), "so_far", "so_far", defArgs s_so_far, defBody s_so_far, defScope s_so_far, [], []⟩
def d__law_box : He.DefD := ⟨("_law_box", none), "_law_box", "_law_box", defArgs s__law_box, defBody s__law_box, defScope s__law_box, [], []⟩
def d__law_take : He.DefD := ⟨("_law_take", none), "_law_take", "_law_take", defArgs s__law_take, defBody s__law_take, defScope s__law_take, [], []⟩
def d__law_pick : He.DefD := ⟨("_law_pick", none), "_law_pick", "_law_pick", defArgs s__law_pick, defBody s__law_pick, defScope s__law_pick, [], []⟩
def d__law_plain : He.DefD := ⟨("_law_plain", none), "_law_plain", "_law_plain", defArgs s__law_plain, defBody s__law_plain, defScope s__law_plain, [], []⟩
def d__law_first : He.DefD := ⟨("_law_first", none), "_law_first", "_law_first", defArgs s__law_first, defBody s__law_first, defScope s__law_first, [], []⟩
def d__law_worth : He.DefD := ⟨("_law_worth", none), "_law_worth", "_law_worth", defArgs s__law_worth, defBody s__law_worth, defScope s__law_worth, [], []⟩
def d__law_weight : He.DefD := ⟨("_law_weight", none), "_law_weight", "_law_weight", defArgs s__law_weight, defBody s__law_weight, defScope s__law_weight, [], []⟩
def d__law_by : He.DefD := ⟨("_law_by", none), "_law_by", "_law_by", defArgs s__law_by, defBody s__law_by, defScope s__law_by, [], []⟩
def d__law_letters : He.DefD := ⟨("_law_letters", none), "_law_letters", "_law_letters", defArgs s__law_letters, defBody s__law_letters, defScope s__law_letters, [], []⟩
def d__law_room : He.DefD := ⟨("_law_room", none), "_law_room", "_law_room", defArgs s__law_room, defBody s__law_room, defScope s__law_room, [], []⟩
def d__law_inside : He.DefD := ⟨("_law_inside", none), "_law_inside", "_law_inside", defArgs s__law_inside, defBody s__law_inside, defScope s__law_inside, [], []⟩
def d__law_is_one : He.DefD := ⟨("_law_is_one", none), "_law_is_one", "_law_is_one", defArgs s__law_is_one, defBody s__law_is_one, defScope s__law_is_one, [], []⟩
def d__law_no_sort : He.DefD := ⟨("_law_no_sort", none), "_law_no_sort", "_law_no_sort", defArgs s__law_no_sort, defBody s__law_no_sort, defScope s__law_no_sort, [], []⟩
def d__law_is_number : He.DefD := ⟨("_law_is_number", none), "_law_is_number", "_law_is_number", defArgs s__law_is_number, defBody s__law_is_number, defScope s__law_is_number, [], []⟩
def d__law_rooms : He.DefD := ⟨("_law_rooms", none), "_law_rooms", "_law_rooms", defArgs s__law_rooms, defBody s__law_rooms, defScope s__law_rooms, [], []⟩
def d__law_shells : He.DefD := ⟨("_law_shells", none), "_law_shells", "_law_shells", defArgs s__law_shells, defBody s__law_shells, defScope s__law_shells, [], []⟩
def d__law_far : He.DefD := ⟨("_law_far", none), "_law_far", "_law_far", defArgs s__law_far, defBody s__law_far, defScope s__law_far, [], []⟩
def d__law_product : He.DefD := ⟨("_law_product", none), "_law_product", "_law_product", defArgs s__law_product, defBody s__law_product, defScope s__law_product, [], []⟩
def d__law_shell_by_shell : He.DefD := ⟨("_law_shell_by_shell", none), "_law_shell_by_shell", "_law_shell_by_shell", defArgs s__law_shell_by_shell, defBody s__law_shell_by_shell, defScope s__law_shell_by_shell, [], []⟩
def d_law : He.DefD := ⟨("law", none), "law", "law", defArgs s_law, defBody s_law, defScope s_law, [], []⟩
def fnL : List He.DefD := [d_power_of, d_is_sort, d_has_codes, d_product_from, d_how_many, d_some_own, d_gauss, d_so_far, d__law_box, d__law_take, d__law_pick, d__law_plain, d__law_first, d__law_worth, d__law_weight, d__law_by, d__law_letters, d__law_room, d__law_inside, d__law_is_one, d__law_no_sort, d__law_is_number, d__law_rooms, d__law_shells, d__law_far, d__law_product, d__law_shell_by_shell, d_law]
def faL : List He.Fa := [.glo "power_of", .glo "is_sort", .glo "has_codes", .glo "product_from", .glo "how_many", .glo "some_own", .glo "gauss", .glo "so_far", .glo "_law_box", .glo "_law_take", .glo "_law_pick", .glo "_law_plain", .glo "_law_first", .glo "_law_worth", .glo "_law_weight", .glo "_law_by", .glo "_law_letters", .glo "_law_room", .glo "_law_inside", .glo "_law_is_one", .glo "_law_no_sort", .glo "_law_is_number", .glo "_law_rooms", .glo "_law_shells", .glo "_law_far", .glo "_law_product", .glo "_law_shell_by_shell", .glo "law", .glo "Refused", .free "abs", .free "all", .free "bool", .free "int", .free "isinstance", .free "len", .free "range", .free "sorted", .free "str", .free "sum", .free "tuple"]
def exRefused : ExD := exWord "Refused" "MirrorError" "refused" "Refused.__init__" ⟨6, 17, 6, 21⟩ ⟨6, 23, 6, 27⟩ ⟨7, 8, 7, 13⟩ ⟨7, 8, 7, 15⟩ ⟨7, 8, 7, 24⟩ ⟨7, 25, 7, 34⟩ ⟨7, 8, 7, 35⟩ ⟨7, 8, 7, 35⟩ ⟨8, 8, 8, 12⟩ ⟨8, 8, 8, 17⟩ ⟨8, 20, 8, 24⟩ ⟨8, 8, 8, 24⟩
def exL : List ExD := [exRefused]
def koD : KoD := { dics := [("STEPS", dSTEPS), ("LETTERS", dLETTERS), ("PIECES", dPIECES)] }
abbrev RR : PySem.W.OpenRow := PySem.W.OpenLaw.row PySem.Challenge.rw_ownmirrors_k45_whole_how_many_are_the_sh
abbrev PR : Program := PySem.Challenge.pw_ownmirrors_k45_whole_how_many_are_the_sh
abbrev fileS : Str := PR.main.file
abbrev hk : PySem.W.Hook := hookK fileS 6 koD faL fnL exL
def ob (s : PySem.W.SharedT) : AlK := obsKG fileS 6 koD faL fnL exL (HandSHeadRun.getT s)
theorem ob_eq (s : PySem.W.SharedT) : ob s = hk.obs s.abs := obsKG_eq (HandSHeadRun.getT_eq s)
def looseL : List Str := (["MirrorError", "Refused", "power_of", "STEPS", "LETTERS", "PIECES", "is_sort", "has_codes", "product_from", "how_many", "some_own", "gauss", "so_far", "_law_box", "_law_take", "_law_pick", "_law_plain", "_law_first", "_law_worth", "_law_weight", "_law_by", "_law_letters", "_law_room", "_law_inside", "_law_is_one", "_law_no_sort", "_law_is_number", "_law_rooms", "_law_shells", "_law_far"] : List Str) ++ (["_law_product", "_law_shell_by_shell"] : List Str)
theorem run0 (w : World) : HandSHeadRun.RunEq RR (PySem.W.view RR.prog [37]) hk ob 4000 looseL (w.withFollow "special-get-raises" false) := by
  intro os
  kernel_rfl
theorem run1 (w : World) : HandSHeadRun.RunEq RR (PySem.W.view RR.prog [37]) hk ob 4000 looseL (w.withFollow "special-get-raises" true) := by
  intro os
  kernel_rfl
theorem run (w : World) : HandSHeadRun.RunEq RR (PySem.W.view RR.prog [37]) hk ob 4000 looseL w :=
  PySem.W.byRow2 "special-get-raises" (P := fun w => HandSHeadRun.RunEq RR (PySem.W.view RR.prog [37]) hk ob 4000 looseL w) run0 run1 w
theorem exRefused_ok {K : PySem.W.Frag} (c : SaysE fileS faL fnL exL K) : PySem.OwXword.OexT PR K (He.ga K "Refused") (He.ga K "MirrorError") (He.ma K (He.ga K "Refused") "__init__") :=
  oex_word c.st (c.ex_ 0 (e := exRefused) rfl) (by decide +kernel) (fun env => ⟨_, rfl⟩) (fun env => rfl) (fun env => rfl)
theorem facts {w : World} {K : PySem.W.Frag} {h : Heap} {mg : Str → Option Value} {f : Addr} (X : K.In h) (G : h.Ns mainGlobals mg) (hfa : mg ("law" : Str) = some (.ref f)) (c : SaysK fileS koD faL fnL exL w K) :
    ∃ fd : FuncData, (∀ (s : Shared) (v : Value), BindsTo s fd ⟨[v], []⟩ [("script", v)]) ∧ ∀ base : Heap, K.In base → base.Ns mainGlobals mg → FnOk PR w K mg base CX0 7 f fd ["script"] (spLaw K) := by
  obtain ⟨fd_power_of, F_power_of⟩ := c.saysD.def_ 0 (d := d_power_of) rfl
  have m_power_of : mg "power_of" = some (.ref (He.ga K "power_of")) := He.glo_ok X G (c.saysD.fact 0 (f := .glo "power_of") rfl)
  have b_power_of : Binds K fd_power_of ["base", "times"] [] := FunD.bindsN F_power_of fun _ _ _ _ _ _ us hl => match us, hl with | [_, _], _ => rfl
  obtain ⟨fd_is_sort, F_is_sort⟩ := c.saysD.def_ 1 (d := d_is_sort) rfl
  have m_is_sort : mg "is_sort" = some (.ref (He.ga K "is_sort")) := He.glo_ok X G (c.saysD.fact 1 (f := .glo "is_sort") rfl)
  have b_is_sort : Binds K fd_is_sort ["value"] [] := FunD.bindsN F_is_sort fun _ _ _ _ _ _ us hl => match us, hl with | [_], _ => rfl
  obtain ⟨fd_has_codes, F_has_codes⟩ := c.saysD.def_ 2 (d := d_has_codes) rfl
  have m_has_codes : mg "has_codes" = some (.ref (He.ga K "has_codes")) := He.glo_ok X G (c.saysD.fact 2 (f := .glo "has_codes") rfl)
  have b_has_codes : Binds K fd_has_codes ["sort", "length"] [] := FunD.bindsN F_has_codes fun _ _ _ _ _ _ us hl => match us, hl with | [_, _], _ => rfl
  obtain ⟨fd_product_from, F_product_from⟩ := c.saysD.def_ 3 (d := d_product_from) rfl
  have m_product_from : mg "product_from" = some (.ref (He.ga K "product_from")) := He.glo_ok X G (c.saysD.fact 3 (f := .glo "product_from") rfl)
  have b_product_from : Binds K fd_product_from ["base", "first", "last"] [] := FunD.bindsN F_product_from fun _ _ _ _ _ _ us hl => match us, hl with | [_, _, _], _ => rfl
  obtain ⟨fd_how_many, F_how_many⟩ := c.saysD.def_ 4 (d := d_how_many) rfl
  have m_how_many : mg "how_many" = some (.ref (He.ga K "how_many")) := He.glo_ok X G (c.saysD.fact 4 (f := .glo "how_many") rfl)
  have b_how_many : Binds K fd_how_many ["sort", "length"] [] := FunD.bindsN F_how_many fun _ _ _ _ _ _ us hl => match us, hl with | [_, _], _ => rfl
  obtain ⟨fd_some_own, F_some_own⟩ := c.saysD.def_ 5 (d := d_some_own) rfl
  have m_some_own : mg "some_own" = some (.ref (He.ga K "some_own")) := He.glo_ok X G (c.saysD.fact 5 (f := .glo "some_own") rfl)
  have b_some_own : Binds K fd_some_own ["sort", "length"] [] := FunD.bindsN F_some_own fun _ _ _ _ _ _ us hl => match us, hl with | [_, _], _ => rfl
  obtain ⟨fd_gauss, F_gauss⟩ := c.saysD.def_ 6 (d := d_gauss) rfl
  have m_gauss : mg "gauss" = some (.ref (He.ga K "gauss")) := He.glo_ok X G (c.saysD.fact 6 (f := .glo "gauss") rfl)
  have b_gauss : Binds K fd_gauss ["q", "n", "k"] [] := FunD.bindsN F_gauss fun _ _ _ _ _ _ us hl => match us, hl with | [_, _, _], _ => rfl
  obtain ⟨fd_so_far, F_so_far⟩ := c.saysD.def_ 7 (d := d_so_far) rfl
  have m_so_far : mg "so_far" = some (.ref (He.ga K "so_far")) := He.glo_ok X G (c.saysD.fact 7 (f := .glo "so_far") rfl)
  have b_so_far : Binds K fd_so_far ["sort", "length", "k"] [] := FunD.bindsN F_so_far fun _ _ _ _ _ _ us hl => match us, hl with | [_, _, _], _ => rfl
  obtain ⟨fd__law_box, F__law_box⟩ := c.saysD.def_ 8 (d := d__law_box) rfl
  have m__law_box : mg "_law_box" = some (.ref (He.ga K "_law_box")) := He.glo_ok X G (c.saysD.fact 8 (f := .glo "_law_box") rfl)
  have b__law_box : Binds K fd__law_box ["script", "k"] [] := FunD.bindsN F__law_box fun _ _ _ _ _ _ us hl => match us, hl with | [_, _], _ => rfl
  obtain ⟨fd__law_take, F__law_take⟩ := c.saysD.def_ 9 (d := d__law_take) rfl
  have m__law_take : mg "_law_take" = some (.ref (He.ga K "_law_take")) := He.glo_ok X G (c.saysD.fact 9 (f := .glo "_law_take") rfl)
  have b__law_take : Binds K fd__law_take ["box", "many"] [] := FunD.bindsN F__law_take fun _ _ _ _ _ _ us hl => match us, hl with | [_, _], _ => rfl
  obtain ⟨fd__law_pick, F__law_pick⟩ := c.saysD.def_ 10 (d := d__law_pick) rfl
  have m__law_pick : mg "_law_pick" = some (.ref (He.ga K "_law_pick")) := He.glo_ok X G (c.saysD.fact 10 (f := .glo "_law_pick") rfl)
  have b__law_pick : Binds K fd__law_pick ["box", "some"] [] := FunD.bindsN F__law_pick fun _ _ _ _ _ _ us hl => match us, hl with | [_, _], _ => rfl
  obtain ⟨fd__law_plain, F__law_plain⟩ := c.saysD.def_ 11 (d := d__law_plain) rfl
  have m__law_plain : mg "_law_plain" = some (.ref (He.ga K "_law_plain")) := He.glo_ok X G (c.saysD.fact 11 (f := .glo "_law_plain") rfl)
  have b__law_plain : Binds K fd__law_plain ["value"] [] := FunD.bindsN F__law_plain fun _ _ _ _ _ _ us hl => match us, hl with | [_], _ => rfl
  obtain ⟨fd__law_first, F__law_first⟩ := c.saysD.def_ 12 (d := d__law_first) rfl
  have m__law_first : mg "_law_first" = some (.ref (He.ga K "_law_first")) := He.glo_ok X G (c.saysD.fact 12 (f := .glo "_law_first") rfl)
  have b__law_first : Binds K fd__law_first ["row"] [] := FunD.bindsN F__law_first fun _ _ _ _ _ _ us hl => match us, hl with | [_], _ => rfl
  obtain ⟨fd__law_worth, F__law_worth⟩ := c.saysD.def_ 13 (d := d__law_worth) rfl
  have m__law_worth : mg "_law_worth" = some (.ref (He.ga K "_law_worth")) := He.glo_ok X G (c.saysD.fact 13 (f := .glo "_law_worth") rfl)
  have b__law_worth : Binds K fd__law_worth ["letters", "one", "other"] [] := FunD.bindsN F__law_worth fun _ _ _ _ _ _ us hl => match us, hl with | [_, _, _], _ => rfl
  obtain ⟨fd__law_weight, F__law_weight⟩ := c.saysD.def_ 14 (d := d__law_weight) rfl
  have m__law_weight : mg "_law_weight" = some (.ref (He.ga K "_law_weight")) := He.glo_ok X G (c.saysD.fact 14 (f := .glo "_law_weight") rfl)
  have b__law_weight : Binds K fd__law_weight ["row"] [] := FunD.bindsN F__law_weight fun _ _ _ _ _ _ us hl => match us, hl with | [_], _ => rfl
  obtain ⟨fd__law_by, F__law_by⟩ := c.saysD.def_ 15 (d := d__law_by) rfl
  have m__law_by : mg "_law_by" = some (.ref (He.ga K "_law_by")) := He.glo_ok X G (c.saysD.fact 15 (f := .glo "_law_by") rfl)
  have b__law_by : Binds K fd__law_by ["sort"] [] := FunD.bindsN F__law_by fun _ _ _ _ _ _ us hl => match us, hl with | [_], _ => rfl
  obtain ⟨fd__law_letters, F__law_letters⟩ := c.saysD.def_ 16 (d := d__law_letters) rfl
  have m__law_letters : mg "_law_letters" = some (.ref (He.ga K "_law_letters")) := He.glo_ok X G (c.saysD.fact 16 (f := .glo "_law_letters") rfl)
  have b__law_letters : Binds K fd__law_letters ["sort"] [] := FunD.bindsN F__law_letters fun _ _ _ _ _ _ us hl => match us, hl with | [_], _ => rfl
  obtain ⟨fd__law_room, F__law_room⟩ := c.saysD.def_ 17 (d := d__law_room) rfl
  have m__law_room : mg "_law_room" = some (.ref (He.ga K "_law_room")) := He.glo_ok X G (c.saysD.fact 17 (f := .glo "_law_room") rfl)
  have b__law_room : Binds K fd__law_room ["box", "sort"] [] := FunD.bindsN F__law_room fun _ _ _ _ _ _ us hl => match us, hl with | [_, _], _ => rfl
  obtain ⟨fd__law_inside, F__law_inside⟩ := c.saysD.def_ 18 (d := d__law_inside) rfl
  have m__law_inside : mg "_law_inside" = some (.ref (He.ga K "_law_inside")) := He.glo_ok X G (c.saysD.fact 18 (f := .glo "_law_inside") rfl)
  have b__law_inside : Binds K fd__law_inside ["letters", "rows"] [] := FunD.bindsN F__law_inside fun _ _ _ _ _ _ us hl => match us, hl with | [_, _], _ => rfl
  obtain ⟨fd__law_is_one, F__law_is_one⟩ := c.saysD.def_ 19 (d := d__law_is_one) rfl
  have m__law_is_one : mg "_law_is_one" = some (.ref (He.ga K "_law_is_one")) := He.glo_ok X G (c.saysD.fact 19 (f := .glo "_law_is_one") rfl)
  have b__law_is_one : Binds K fd__law_is_one ["sort", "length", "value"] [] := FunD.bindsN F__law_is_one fun _ _ _ _ _ _ us hl => match us, hl with | [_, _, _], _ => rfl
  obtain ⟨fd__law_no_sort, F__law_no_sort⟩ := c.saysD.def_ 20 (d := d__law_no_sort) rfl
  have m__law_no_sort : mg "_law_no_sort" = some (.ref (He.ga K "_law_no_sort")) := He.glo_ok X G (c.saysD.fact 20 (f := .glo "_law_no_sort") rfl)
  have b__law_no_sort : Binds K fd__law_no_sort ["box"] [] := FunD.bindsN F__law_no_sort fun _ _ _ _ _ _ us hl => match us, hl with | [_], _ => rfl
  obtain ⟨fd__law_is_number, F__law_is_number⟩ := c.saysD.def_ 21 (d := d__law_is_number) rfl
  have m__law_is_number : mg "_law_is_number" = some (.ref (He.ga K "_law_is_number")) := He.glo_ok X G (c.saysD.fact 21 (f := .glo "_law_is_number") rfl)
  have b__law_is_number : Binds K fd__law_is_number ["value"] [] := FunD.bindsN F__law_is_number fun _ _ _ _ _ _ us hl => match us, hl with | [_], _ => rfl
  obtain ⟨fd__law_rooms, F__law_rooms⟩ := c.saysD.def_ 22 (d := d__law_rooms) rfl
  have m__law_rooms : mg "_law_rooms" = some (.ref (He.ga K "_law_rooms")) := He.glo_ok X G (c.saysD.fact 22 (f := .glo "_law_rooms") rfl)
  have b__law_rooms : Binds K fd__law_rooms ["q", "n"] [] := FunD.bindsN F__law_rooms fun _ _ _ _ _ _ us hl => match us, hl with | [_, _], _ => rfl
  obtain ⟨fd__law_shells, F__law_shells⟩ := c.saysD.def_ 23 (d := d__law_shells) rfl
  have m__law_shells : mg "_law_shells" = some (.ref (He.ga K "_law_shells")) := He.glo_ok X G (c.saysD.fact 23 (f := .glo "_law_shells") rfl)
  have b__law_shells : Binds K fd__law_shells ["sort", "length"] [] := FunD.bindsN F__law_shells fun _ _ _ _ _ _ us hl => match us, hl with | [_, _], _ => rfl
  obtain ⟨fd__law_far, F__law_far⟩ := c.saysD.def_ 24 (d := d__law_far) rfl
  have m__law_far : mg "_law_far" = some (.ref (He.ga K "_law_far")) := He.glo_ok X G (c.saysD.fact 24 (f := .glo "_law_far") rfl)
  have b__law_far : Binds K fd__law_far ["sort", "length", "k"] [] := FunD.bindsN F__law_far fun _ _ _ _ _ _ us hl => match us, hl with | [_, _, _], _ => rfl
  obtain ⟨fd__law_product, F__law_product⟩ := c.saysD.def_ 25 (d := d__law_product) rfl
  have m__law_product : mg "_law_product" = some (.ref (He.ga K "_law_product")) := He.glo_ok X G (c.saysD.fact 25 (f := .glo "_law_product") rfl)
  have b__law_product : Binds K fd__law_product ["q", "n", "k"] [] := FunD.bindsN F__law_product fun _ _ _ _ _ _ us hl => match us, hl with | [_, _, _], _ => rfl
  obtain ⟨fd__law_shell_by_shell, F__law_shell_by_shell⟩ := c.saysD.def_ 26 (d := d__law_shell_by_shell) rfl
  have m__law_shell_by_shell : mg "_law_shell_by_shell" = some (.ref (He.ga K "_law_shell_by_shell")) := He.glo_ok X G (c.saysD.fact 26 (f := .glo "_law_shell_by_shell") rfl)
  have b__law_shell_by_shell : Binds K fd__law_shell_by_shell ["box", "sort", "length"] [] := FunD.bindsN F__law_shell_by_shell fun _ _ _ _ _ _ us hl => match us, hl with | [_, _, _], _ => rfl
  obtain ⟨fd_law, F_law⟩ := c.saysD.def_ 27 (d := d_law) rfl
  have m_law : mg "law" = some (.ref (He.ga K "law")) := He.glo_ok X G (c.saysD.fact 27 (f := .glo "law") rfl)
  have b_law : Binds K fd_law ["script"] [] := FunD.bindsN F_law fun _ _ _ _ _ _ us hl => match us, hl with | [_], _ => rfl
  have g_Refused : mg "Refused" = some (.ref (He.ga K "Refused")) := He.glo_ok X G (c.saysD.fact 28 (f := .glo "Refused") rfl)
  have Z : Zs mg := ⟨He.free_ok X G (c.saysD.fact 29 (f := .free "abs") rfl), He.free_ok X G (c.saysD.fact 30 (f := .free "all") rfl), He.free_ok X G (c.saysD.fact 31 (f := .free "bool") rfl), He.free_ok X G (c.saysD.fact 32 (f := .free "int") rfl), He.free_ok X G (c.saysD.fact 33 (f := .free "isinstance") rfl), He.free_ok X G (c.saysD.fact 34 (f := .free "len") rfl), He.free_ok X G (c.saysD.fact 35 (f := .free "range") rfl), He.free_ok X G (c.saysD.fact 36 (f := .free "sorted") rfl), He.free_ok X G (c.saysD.fact 37 (f := .free "str") rfl), He.free_ok X G (c.saysD.fact 38 (f := .free "sum") rfl), He.free_ok X G (c.saysD.fact 39 (f := .free "tuple") rfl)⟩
  have C : Cs K w mg := ⟨c.dic X G 0, c.dicN X G 0, c.dic X G 1, c.dic X G 2⟩
  have e := hfa.symm.trans m_law
  cases e
  have b := FunD.bindsA (ps := ["script"]) F_law fun _ _ _ _ _ _ us hl => match us, hl with | [_], _ => rfl
  have X_Refused := exRefused_ok c.e
  obtain ⟨CRef, hCR⟩ : ∃ C, C = He.ga K "Refused" := ⟨_, rfl⟩
  rw [← hCR] at X_Refused g_Refused
  refine ⟨fd_law, fun s v => b s [v] rfl, fun base _ _ => ?_⟩
  have G__law_box : Fn PR w K mg base CX0 1 "_law_box" s__law_box ["script", "k"] (spBox K) := ⟨_, _, m__law_box, F__law_box, b__law_box, ok__law_box F__law_box Z⟩
  have G__law_take : Fn PR w K mg base CX0 1 "_law_take" s__law_take ["box", "many"] spTake := ⟨_, _, m__law_take, F__law_take, b__law_take, ok__law_take F__law_take Z⟩
  have G__law_pick : Fn PR w K mg base CX0 2 "_law_pick" s__law_pick ["box", "some"] (spPick K) := ⟨_, _, m__law_pick, F__law_pick, b__law_pick, ok__law_pick F__law_pick Z G__law_take⟩
  have G__law_room : Fn PR w K mg base CX0 3 "_law_room" s__law_room ["box", "sort"] spRoom := ⟨_, _, m__law_room, F__law_room, b__law_room, ok__law_room F__law_room Z G__law_take G__law_pick⟩
  have G_has_codes : Fn PR w K mg base CX0 1 "has_codes" s_has_codes ["sort", "length"] spHas := ⟨_, _, m_has_codes, F_has_codes, b_has_codes, ok_has_codes F_has_codes Z C⟩
  have G_some_own : Fn PR w K mg base CX0 2 "some_own" s_some_own ["sort", "length"] (spSome K) := ⟨_, _, m_some_own, F_some_own, b_some_own, ok_some_own F_some_own Z C G_has_codes⟩
  have G_power_of : Fn PR w K mg base CX0 1 "power_of" s_power_of ["base", "times"] spPower := ⟨_, _, m_power_of, F_power_of, b_power_of, ok_power_of F_power_of Z⟩
  have G_product_from : Fn PR w K mg base CX0 2 "product_from" s_product_from ["base", "first", "last"] spProd := ⟨_, _, m_product_from, F_product_from, b_product_from, ok_product_from F_product_from Z G_power_of⟩
  have G_how_many : Fn PR w K mg base CX0 3 "how_many" s_how_many ["sort", "length"] spHow := ⟨_, _, m_how_many, F_how_many, b_how_many, ok_how_many F_how_many Z G_has_codes G_product_from⟩
  have G__law_is_number : Fn PR w K mg base CX0 1 "_law_is_number" s__law_is_number ["value"] spNum := ⟨_, _, m__law_is_number, F__law_is_number, b__law_is_number, ok__law_is_number F__law_is_number Z⟩
  have G__law_plain : Fn PR w K mg base CX0 5 "_law_plain" s__law_plain ["value"] (spPlain K 3) := ⟨_, _, m__law_plain, F__law_plain, b__law_plain, ok__law_plain F__law_plain b__law_plain m__law_plain Z 3⟩
  have G__law_letters : Fn PR w K mg base CX0 1 "_law_letters" s__law_letters ["sort"] (spSrt Srt.q) := ⟨_, _, m__law_letters, F__law_letters, b__law_letters, ok__law_letters F__law_letters Z⟩
  have G__law_by : Fn PR w K mg base CX0 1 "_law_by" s__law_by ["sort"] (spSrt Srt.by_) := ⟨_, _, m__law_by, F__law_by, b__law_by, ok__law_by F__law_by Z⟩
  have G__law_first : Fn PR w K mg base CX0 1 "_law_first" s__law_first ["row"] (spFirst K) := ⟨_, _, m__law_first, F__law_first, b__law_first, ok__law_first F__law_first Z⟩
  have G__law_worth : Fn PR w K mg base CX0 1 "_law_worth" s__law_worth ["letters", "one", "other"] (spWorth K) := ⟨_, _, m__law_worth, F__law_worth, b__law_worth, ok__law_worth F__law_worth Z⟩
  have G__law_inside : Fn PR w K mg base CX0 2 "_law_inside" s__law_inside ["letters", "rows"] (spInside K) := ⟨_, _, m__law_inside, F__law_inside, b__law_inside, ok__law_inside F__law_inside Z G__law_worth⟩
  have G__law_weight : Fn PR w K mg base CX0 1 "_law_weight" s__law_weight ["row"] (spWeight K) := ⟨_, _, m__law_weight, F__law_weight, b__law_weight, ok__law_weight F__law_weight Z⟩
  have G__law_is_one : Fn PR w K mg base CX0 6 "_law_is_one" s__law_is_one ["sort", "length", "value"] (spIsOne K) := ⟨_, _, m__law_is_one, F__law_is_one, b__law_is_one, ok__law_is_one F__law_is_one Z G__law_plain G__law_letters G__law_by G__law_first G__law_inside G__law_weight⟩
  have G__law_rooms : Fn PR w K mg base CX0 1 "_law_rooms" s__law_rooms ["q", "n"] spRooms := ⟨_, _, m__law_rooms, F__law_rooms, b__law_rooms, ok__law_rooms F__law_rooms Z⟩
  have G__law_shells : Fn PR w K mg base CX0 2 "_law_shells" s__law_shells ["sort", "length"] spShells := ⟨_, _, m__law_shells, F__law_shells, b__law_shells, ok__law_shells F__law_shells Z G__law_letters G__law_rooms⟩
  have G_is_sort : Fn PR w K mg base CX0 1 "is_sort" s_is_sort ["value"] spIsSort := ⟨_, _, m_is_sort, F_is_sort, b_is_sort, ok_is_sort F_is_sort Z C⟩
  have G_gauss : Fn PR w K mg base CX0 2 "gauss" s_gauss ["q", "n", "k"] spGauss := ⟨_, _, m_gauss, F_gauss, b_gauss, ok_gauss F_gauss Z G_power_of⟩
  have G_so_far : Fn PR w K mg base (L2.CX PR w) 3 "so_far" s_so_far ["sort", "length", "k"] (spSoFar CRef) := ⟨_, _, m_so_far, F_so_far, b_so_far, ok_so_far F_so_far Z X_Refused g_Refused G_is_sort G_power_of G_gauss⟩
  have G__law_far : Fn PR w K mg base CX0 4 "_law_far" s__law_far ["sort", "length", "k"] (spFar K) := ⟨_, _, m__law_far, F__law_far, b__law_far, ok__law_far F__law_far Z X_Refused g_Refused G_so_far⟩
  have G__law_shell_by_shell : Fn PR w K mg base CX0 5 "_law_shell_by_shell" s__law_shell_by_shell ["box", "sort", "length"] spShell := ⟨_, _, m__law_shell_by_shell, F__law_shell_by_shell, b__law_shell_by_shell, ok__law_shell_by_shell F__law_shell_by_shell Z G__law_shells G__law_far G__law_is_number G__law_take G_how_many⟩
  have G__law_product : Fn PR w K mg base CX0 3 "_law_product" s__law_product ["q", "n", "k"] spProduct := ⟨_, _, m__law_product, F__law_product, b__law_product, ok__law_product F__law_product Z G_gauss G__law_is_number⟩
  have G__law_no_sort : Fn PR w K mg base CX0 3 "_law_no_sort" s__law_no_sort ["box"] spNoSort := ⟨_, _, m__law_no_sort, F__law_no_sort, b__law_no_sort, ok__law_no_sort F__law_no_sort Z G__law_pick⟩
  exact ok_law F_law Z G__law_box G__law_pick G__law_room G__law_take G_some_own G_how_many G__law_is_number G__law_is_one G__law_shell_by_shell G__law_product G__law_far G__law_no_sort
end K45
open PySem PySem.W PySem.Calls PyProof.Rows
theorem PySem.Challenge.cw_ownmirrors_k45_whole_how_many_are_the_sh_holds : PySem.Challenge.rw_ownmirrors_k45_whole_how_many_are_the_sh.Holds := by
  w_on; o_law
  refine HandSHeadRun.head_any (r := OpenLaw.row PySem.Challenge.rw_ownmirrors_k45_whole_how_many_are_the_sh) (q := view (OpenLaw.row PySem.Challenge.rw_ownmirrors_k45_whole_how_many_are_the_sh).prog [37]) (H := K45.hk) (ob := K45.ob) (M := 4000) (loose := K45.looseL) (d := HandSHeadRun.topDef (OpenLaw.row PySem.Challenge.rw_ownmirrors_k45_whole_how_many_are_the_sh).prog 37) (kwd := []) K45.ob_eq
    (by kernel_rfl) (fun s => by kernel_rfl) K45.run (by kernel_rfl) (by kernel_rfl) (by kernel_rfl) (by rfl) (by first | assumption | decide +kernel) (by decide +kernel) ⟨rfl, rfl, rfl, rfl, rfl, by decide +kernel⟩ ?hw ?hc
  case hw => w_witness2
  case hc =>
    refine L2.walk_ofE (l := PySem.Challenge.rw_ownmirrors_k45_whole_how_many_are_the_sh) (n := 63) (k := 7) (x := "script") (CX := L2.CX0) rfl (by decide) (by kernel_rfl) ⟨rfl, by decide, by decide⟩ ?F (fun _ _ _ _ z => z)
    intro w mg fa h Y G hmg0
    obtain ⟨K, KX, c⟩ := Y
    have hmg : mg ("law" : PySem.Str) = some (.ref fa) := by
      have e : (HandSHeadRun.topDef (OpenLaw.row PySem.Challenge.rw_ownmirrors_k45_whole_how_many_are_the_sh).prog 37).name = ("law" : PySem.Str) := by kernel_rfl
      rw [← e]
      exact hmg0
    obtain ⟨fd, hb, hF⟩ := K45.facts (w := w) KX G hmg c
    exact ⟨K, fd, K45.spLaw K, KX, hb, fun H a ns hl _ hS => ⟨a, ns, rfl, hS, by omega, fun _ => rfl⟩, hF⟩
