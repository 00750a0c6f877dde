import PyProof.Rows.All
import Wide.All
import OpenK.AllK
import Wide.FinOn
import HandS.Base
import HandS.Call
import HandS.List
import HandS.Comp
import HandS.Words
import HandS.TupMul
import HandS.TupAny
import PyProof.ListMulRoad
import PyProof.FactsAll.tuple_2
import HandS.SetFor
import HandS.More
import PyProof.EqAt
import OpenK.KMore
import HandS.Defaults
import HandS.Walk
import HandS.Evl
import HandS.Zip
import HandS.Style
import HandS.IsInst
import HandS.Text
import HandS.TupLe
import HandS.Exc
import HandS.TryOnly
import HandS.Conv
import HandS.RevTup
import HandS.HeadHook2
import HandS.HeadEnd
import HandS.Head0
import HandS.Head1
import HandS.Head2
import KE.KIntText
import KE.IntTextLaws
import PyProof.Conv_int
import PyProof.StrOps2
import HandS.Wide
import KE.KEqSeq
import HandS.ExcOwn
import HandS.WordsExc
import HandS.ExcSuper
import KE.KSuper
import KE.KExcSuper
import HandS.HeadHook1
import HandS.Gcd
import HandS.Iter
import KE.KMathGC
import KE.GoesEnum
import KE.GoesMore
import KE.KTupSum
import KE.GoesZip
import HandS.HeadHook3
import HandS.Dict
import HandS.ReplaceLit
import HandS.SortInts
import HandS.Codes
import HandS.SortKw
import HandS.NamedTupSort
import HandS.Rev
import HandS.Small
import KE.SortData
import KE.DataCmp
import KE.DataFind
import PySem.Challenge.RW_ownmirrors_k47_whole_all_neighbours_and
set_option Elab.async false
set_option linter.all false
set_option maxRecDepth 100000
set_option maxHeartbeats 2000000
/-! Tuples tracked together with their very object, so that their methods can be called. -/
namespace Own
open PySem PySem.Spec PyProof.Rows L2

def Tp (K : PySem.W.Frag) (H : Hp) (p : Addr) (xs : List V) : Prop :=
  (∃ o : Obj, o.dict = none ∧ H p = some (.frz o (.tup xs))) ∨
    ∃ (o : Obj) (its : Array Value) (n : Nat), K.lookup p = some o ∧ o.cls = .type "tuple" ∧ o.dict = none ∧ o.data = .seq its n ∧ its.size ≤ sizeLine ∧ Vals xs its.toList
theorem Tp.sq {K : PySem.W.Frag} {H : Hp} {p : Addr} {xs : List V} (h : Tp K H p xs) : SqT K H p xs := by
  rcases h with ⟨o, _, h⟩ | ⟨o, its, n, h1, h2, _, h4, h5, h6⟩
  · exact .inl (.inr ⟨o, h⟩)
  · exact .inr ⟨o, its, n, h1, h2, h4, h5, h6⟩
theorem Tp.of {K : PySem.W.Frag} {H : Hp} {p : Addr} {o : Obj} {xs : List V} (hd : o.dict = none) (h : H p = some (.frz o (.tup xs))) : Tp K H p xs := .inl ⟨o, hd, h⟩
/-- a new tuple: what is wanted of it -/
def NewT (xs : List V) (H : Hp) (Q : VK) : Prop := ∀ (p : Addr) (o : Obj), H p = none → o.dict = none → Q (.ref p) (upd H p (.frz o (.tup xs)))
section
variable {X : Cx} {pins : List (Addr × Obj)} {σ : L2.St} {H : Hp} {s : Shared} {Q : VK}
theorem newT_end {xs : List V} {its : List Value} {tk : Nat} (I : Inv X pins σ H s) (r : Vals xs its) (z : xs.length ≤ sizeLine) (q : NewT xs H Q) :
    EP X pins σ Q (.ref s.heap.objs.size) { s with heap := s.heap.push { cls := .type "tuple", data := .seq its.toArray }, toks := tk } := by
  have hf : H s.heap.objs.size = none := I.hok.fresh (Nat.le_refl _)
  refine ⟨.ref s.heap.objs.size, _, I.laid (t' := tk) (o := .frz { cls := .type "tuple", data := .seq its.toArray } (.tup xs)) (fun b u e => Heap.get?_push_of_some _ e) (Nat.le_refl _) ⟨Heap.get?_push_size _ rfl, z, its, r, IsTup.new _ _⟩, rfl, q _ _ hf rfl⟩
end
def tTupF (t : TA) : TE := fun σ H Q => t σ H fun xs H1 => xs.length ≤ sizeLine ∧ NewT xs H1 Q
section
variable {X : Cx} {es : List Expr} {t : TA} {pos : Pos}
/-- (a, b, ..) -/
theorem pe_tupF {x1} (h : PA X es t) : PE X (.Tuple es x1 pos) (tTupF t) := by
  refine ⟨fun pins s σ H Q I hq => ?_⟩
  refine wpAny_Tuple_spliced (thn (h.run pos pins s σ H _ I hq) fun us s1 ⟨xs, H1, I1, r, z, q⟩ => ⟨by rw [← r.length]; exact z, ?_⟩)
  exact newT_end I1 r z q
/-- tuple(list), tuple(tuple) -/
def rTupF (K : PySem.W.Frag) : List V → Hp → VK → Prop := fun xs H Q => ∃ p ys, xs = [.ref p] ∧ ((SqL K H p ys ∧ NewT ys H Q) ∨ (SqT K H p ys ∧ Q (.ref p) H))
theorem call_tupF : CallR X (.type "tuple") (rTupF X.K) := by
  intro pins s σ H xs us Q I r h
  obtain ⟨p, ys, rfl, h⟩ := h
  obtain ⟨u, rfl, rx⟩ := vals1 r
  cases rx
  rcases h with ⟨hq, q⟩ | ⟨hq, q⟩
  · obtain ⟨its, r', pl, hz⟩ := I.list hq
    have hlen := r'.length
    refine call_tuple_list pl.isList (fun h' kp => ?_) (by simp only [List.size_toArray] <;> omega)
    have I1 : Inv X pins σ H { s with heap := h' } := I.kept (t' := s.toks) kp
    exact newT_end (tk := s.toks) I1 r' hz q
  · obtain ⟨its, r', pl, hz⟩ := I.tuple hq
    exact call_tuple_same pl ⟨.ref p, H, I, rfl, q⟩
/-- t + u -/
def rCatF (K : PySem.W.Frag) : R2 := fun x y H Q => ∃ a b xs ys, x = .ref a ∧ y = .ref b ∧ SqT K H a xs ∧ SqT K H b ys ∧ xs.length + ys.length ≤ sizeLine ∧
  (xs = [] → Q (.ref b) H) ∧ (xs ≠ [] → ys = [] → Q (.ref a) H) ∧ (xs ≠ [] → ys ≠ [] → NewT (xs ++ ys) H Q)
theorem op_catF : OpR X (binaryOp .Add) (rCatF X.K) := by
  intro pins s σ H x y v u Q I rx ry h
  obtain ⟨a, b, xs, ys, rfl, rfl, ha, hb, hz, q0, q1, q2⟩ := h
  cases rx
  cases ry
  obtain ⟨its, r1, p1, _⟩ := I.tuple ha
  obtain ⟨its2, r2, p2, _⟩ := I.tuple hb
  by_cases hx : xs = []
  · subst hx
    cases r1
    exact L2.cat_tup0 p1 p2 ⟨.ref b, H, I, rfl, q0 rfl⟩
  · refine HT.cat_tup p1 p2 (fun z => hx (r1.nil_iff.mp z)) (fun z => ⟨.ref a, H, I, rfl, q1 hx (r2.nil_iff.mp z)⟩) (fun z => ?_) (by rw [← r1.length, ← r2.length]; exact hz)
    exact newT_end (tk := s.toks) I (r1.append r2) (by rw [List.length_append]; exact hz) (q2 hx fun w => z (r2.nil_iff.mpr w))
/-- t[lo:hi] -/
def rSlF (K : PySem.W.Frag) : V → Option Int → Option Int → Hp → VK → Prop := fun x lo hi H Q => ∃ a xs, x = .ref a ∧ SqT K H a xs ∧
  (HT.sIx xs.length 0 lo = 0 ∧ HT.sIx xs.length xs.length hi = xs.length → Q (.ref a) H) ∧ (¬ (HT.sIx xs.length 0 lo = 0 ∧ HT.sIx xs.length xs.length hi = xs.length) → NewT (cutV xs lo hi) H Q)
theorem sl_tupF : SlR X (rSlF X.K) := by
  intro pins s σ H x v vl vu lo hi sl Q I rx hs pl pu h
  obtain ⟨a, xs, rfl, hx, q1, q2⟩ := h
  cases rx
  obtain ⟨its, r, ht, hz⟩ := I.tuple hx
  have hlen : its.toArray.size = xs.length := by rw [List.size_toArray]; exact r.length.symm
  refine ⟨"tuple", _, PyProof.Rows.slot_tuple_getitem.lookup, ht.typeIs, ?_⟩
  by_cases hw : HT.sIx xs.length 0 lo = 0 ∧ HT.sIx xs.length xs.length hi = xs.length
  · exact L2.getItem_tuple_whole ht hs pl pu (by rw [hlen]; exact hw) ⟨.ref a, H, I, rfl, q1 hw⟩
  · refine HT.getItem_tuple_cut ht hs pl pu (by rw [hlen]; exact hw) ?_ (by rw [hlen]; exact hz)
    rw [hlen]
    exact newT_end (tk := s.toks) I ((r.drop (HT.sIx xs.length 0 lo)).take (HT.sIx xs.length xs.length hi - HT.sIx xs.length 0 lo)) (Nat.le_trans (cutV_length xs lo hi) hz) (q2 hw)
end
end Own

namespace Own
open PySem PySem.Spec PyProof.Rows L2
/-- t * 1 (or an empty t): t itself; t * 0 .. : a new empty one -/
theorem tuple_mul_same (l : Addr) (items : Array Value) (n : Nat) (dd : Option Addr) (sl : Array (Option Value)) (x : Int) (u : Tok) (c0 : (decide (x < -(2 ^ 63)) || decide (x ≥ 2 ^ 63)) = false) (c1 : (items.isEmpty || x == 1) = true) :
    Meets (Builtin.«tuple.__mul__» ⟨[.ref l, .int x u], []⟩) (fun _ R s => s.heap.get? l = some { cls := .type "tuple", dict := dd, data := .seq items n, slots := sl } ∧ R (.ok (.ret (Value.ref l))) s) :=
  .of_wp fun prog w A R s h => by
    obtain ⟨hp, g, d, tk, os⟩ := s
    obtain ⟨hl, h⟩ := h
    have f1 := AutoSeq1.idx_int
    wp_walk using wpAny_loadPart' hl
    refine wpAny_ite_false (decide_eq_false (by rw [c0]; exact Bool.false_ne_true)) ?_
    wp_walk using wpAny_loadPart' hl
    exact ⟨_, rfl, h⟩
theorem tuple_mul_none (l : Addr) (items : Array Value) (n : Nat) (dd : Option Addr) (sl : Array (Option Value)) (x : Int) (u : Tok) (c0 : (decide (x < -(2 ^ 63)) || decide (x ≥ 2 ^ 63)) = false) (c1 : (items.isEmpty || x == 1) = false) (c2 : (decide (x ≤ 0) || items.isEmpty) = true) :
    Meets (Builtin.«tuple.__mul__» ⟨[.ref l, .int x u], []⟩) (fun _ R s => s.heap.get? l = some { cls := .type "tuple", dict := dd, data := .seq items n, slots := sl } ∧ R (.ok (.ret (Value.ref s.heap.objs.size))) { s with heap := s.heap.push { cls := .type "tuple", data := .seq #[] } }) :=
  .of_wp fun prog w A R s h => by
    obtain ⟨hp, g, d, tk, os⟩ := s
    obtain ⟨hl, h⟩ := h
    have f1 := AutoSeq1.idx_int
    wp_walk using wpAny_loadPart' hl
    refine wpAny_ite_false (decide_eq_false (by rw [c0]; exact Bool.false_ne_true)) ?_
    wp_walk using wpAny_loadPart' hl
    exact ⟨_, rfl, h⟩
/-- t * k, k from below 0 to 1000 -/
def rRepF (K : PySem.W.Frag) : R2 := fun x y H Q => ∃ l k xs, x = .ref l ∧ y = .int k ∧ SqT K H l xs ∧ -1000 ≤ k ∧ k ≤ 1000 ∧ xs.length ≤ 1000 ∧
  ((xs = [] ∨ k = 1) → Q (.ref l) H) ∧ (xs ≠ [] → k ≠ 1 → NewT (List.replicate k.toNat xs).flatten H Q)
section
variable {X : Cx}
theorem op_repF : OpR X (binaryOp .Mult) (rRepF X.K) := by
  intro pins s σ H x y v u Q I rx ry h
  obtain ⟨l, k, xs, rfl, rfl, hT, h1, h2, hz, q0, q1⟩ := h
  cases rx
  obtain ⟨t, rfl⟩ := ry
  obtain ⟨its, r, ⟨⟨cls, dd, data, sl⟩, ho, hc, n, hd⟩, hs⟩ := I.tuple hT
  simp only at hc hd
  subst hc hd
  have hle : its.length = xs.length := r.length.symm
  have hsz0 : its.toArray.size = xs.length := by rw [List.size_toArray, hle]
  have c0 : (decide (k < -(2 ^ 63)) || decide (k ≥ 2 ^ 63)) = false := by
    rw [decide_eq_false (by omega), decide_eq_false (by omega)] <;> rfl
  have mul : ∀ Q' : Value → Shared → Prop, wpAny (model X.prog X.w) X.A (call (.builtin "tuple.__mul__") [.ref l, .int k t]) Q' X.xe s → wpAny (model X.prog X.w) X.A (binaryOp .Mult (.ref l) (.int k t)) Q' X.xe s := fun Q' hc =>
    wpAny_binaryOp_repeat_ref (T := "tuple") (U := "int") (by decide) ⟨_, ho, rfl⟩ (fun s' => typeIs_int s' k t) noFill_tuple_mul F.fills_int_mul F.slot_int_rmul repeat_tuple F.slot_int_index.lookup
      (call_meets F.slot_int_rmul (typeIs_int s k t) F.entry_int_rmul (F.args_int_rmul_2 _ _) (int_rmul_tuple k t l its.toArray n dd sl) ⟨ho, rfl, ⟨_, ho, rfl⟩, hc⟩)
  refine mul _ ?_
  by_cases hs1 : xs = [] ∨ k = 1
  · have c1 : (its.toArray.isEmpty || k == 1) = true := by
      rcases hs1 with e | e
      · rw [show its = [] from List.eq_nil_of_length_eq_zero (by rw [hle, e] <;> rfl)]
        rfl
      · rw [e, beq_self_eq_true, Bool.or_true]
    exact call_meets F.slot_tuple_mul ⟨_, ho, rfl⟩ F.entry_tuple_mul (F.args_tuple_mul_2 _ _) (tuple_mul_same l its.toArray n dd sl k t c0 c1) ⟨ho, .ref l, H, I, rfl, q0 hs1⟩
  · have hne : xs ≠ [] := fun e => hs1 (.inl e)
    have hk1 : k ≠ 1 := fun e => hs1 (.inr e)
    have hn : its ≠ [] := fun e => hne (List.eq_nil_of_length_eq_zero (by rw [← hle, e] <;> rfl))
    have hi : its.toArray.isEmpty = false := by
      cases its with
      | nil => exact absurd rfl hn
      | cons a b => rfl
    have c1 : (its.toArray.isEmpty || k == 1) = false := by
      rw [hi, Bool.false_or]
      exact beq_eq_false_iff_ne.mpr hk1
    by_cases hk0 : k ≤ 0
    · have c2 : (decide (k ≤ 0) || its.toArray.isEmpty) = true := by rw [decide_eq_true hk0, Bool.true_or]
      refine call_meets F.slot_tuple_mul ⟨_, ho, rfl⟩ F.entry_tuple_mul (F.args_tuple_mul_2 _ _) (tuple_mul_none l its.toArray n dd sl k t c0 c1 c2) ⟨ho, ?_⟩
      have z : k.toNat = 0 := by omega
      have q := q1 hne hk1
      rw [z] at q
      exact newT_end (tk := s.toks) (xs := []) (its := []) I .nil (Nat.zero_le _) q
    · have hm : ((its.toArray.size : Nat) : Int) * k ≤ 1000000 := by
        rw [hsz0]
        have a1 : ((xs.length : Nat) : Int) * k ≤ 1000 * k := Int.mul_le_mul_of_nonneg_right (by omega) (by omega)
        omega
      have flen : k.toNat * xs.length ≤ sizeLine := by
        rw [sizeLine_eq]
        have a1 : k.toNat * xs.length ≤ 1000 * 1000 := Nat.mul_le_mul (by omega) hz
        omega
      have c2 : (decide (k ≤ 0) || its.toArray.isEmpty) = false := by
        rw [hi, Bool.or_false]
        exact decide_eq_false hk0
      have c4 : Builtin.Tuple.tupleTooMany (((its.toArray.size : Nat) : Int) * k) = false := by
        unfold Builtin.Tuple.tupleTooMany
        rw [sizeLine_eq]
        exact decide_eq_false (by omega)
      refine call_meets F.slot_tuple_mul ⟨_, ho, rfl⟩ F.entry_tuple_mul (F.args_tuple_mul_2 _ _) (tuple_mulW l its.toArray n dd sl k t c0 c1 c2 (by omega) c4 (by rw [size_rep, List.size_toArray, PyProof.Rows.lm_len_rep_flat, hle]; exact flen)) ⟨ho, ?_⟩
      rw [size_rep]
      exact newT_end (tk := s.toks) I (r.rep k.toNat) (by rw [PyProof.Rows.lm_len_rep_flat]; exact flen) (q1 hne hk1)
end
end Own

namespace Own
open PySem PySem.Spec PyProof.Rows L2
/-! ### t.count(k) -/
theorem Tp.at {K : PySem.W.Frag} {X : Cx} {pins : List (Addr × Obj)} {σ : L2.St} {H : Hp} {s : Shared} {p : Addr} {xs : List V} (I : Inv X pins σ H s) (h : Tp X.K H p xs) :
    ∃ (its : List Value) (o : Obj) (n : Nat), Vals xs its ∧ s.heap.get? p = some o ∧ o.cls = .type "tuple" ∧ o.dict = none ∧ o.data = .seq its.toArray n := by
  rcases h with ⟨o, hd, h⟩ | ⟨o, its, n, h1, h2, h3, h4, h5, h6⟩
  · obtain ⟨e, _, its, r, ob, e2, c, n, d⟩ := I.hok p _ h
    rw [e] at e2
    cases e2
    exact ⟨its, o, n, r, e, c, hd, d⟩
  · exact ⟨its.toList, o, n, h6, I.kIn p o h1, h2, h3, h4⟩
def rTCnt (K : PySem.W.Frag) : V → List V → Hp → VK → Prop := fun x xs H Q => ∃ (p : Addr) (ns : List Int) (k : Int), x = .ref p ∧ xs = [.int k] ∧ Tp K H p (ns.map V.int) ∧ Q (.int (ns.count k : Nat)) H
/-- t.m(e, ..) of a tuple that is tracked with its object -/
def tTM (K : PySem.W.Frag) (r : V → List V → Hp → VK → Prop) (to : TE) (t : TA) : TE := fun σ H Q => to σ H fun x H1 => (∃ p xs, x = .ref p ∧ Tp K H1 p xs) ∧ t σ H1 fun xs H2 => r x xs H2 Q
section
variable {X : Cx} {o e : Expr} {es : List Expr} {to : TE} {t : TA} {name : Str} {apos cpos : Pos} {id : String} {r : V → List V → Hp → VK → Prop}
theorem mt_tcount : MtR X "tuple.count" (rTCnt X.K) := by
  intro pins s σ H x xs v us Q I rx rxs h
  obtain ⟨p, ns, k, rfl, rfl, hs, q⟩ := h
  cases rx
  obtain ⟨u, rfl, ru⟩ := rxs.one
  obtain ⟨t, rfl⟩ := ru
  obtain ⟨its, ⟨cls, dd, data, sl⟩, n, rv, ho, hc, hdn, hd⟩ := Tp.at (K := X.K) I hs
  simp only at hc hd
  subst hc hd
  have hi := ints_of_vals rv
  refine call_meets PySem.F.slot_tuple_count ⟨_, ho, rfl⟩ PySem.F.entry_tuple_count (PySem.F.args_tuple_count_2 _ _)
    (SeqAt.tuple_countAt p its.toArray n dd sl (.int k t) (eqk k)) ⟨ho, fun y hy => (eqk_gives hi y (by simpa using hy)).at _ _, ?_⟩
  have ec : its.toArray.toList.countP (eqk k) = ns.count k := eqk_count hi
  refine ⟨.int (ns.count k : Nat), H, I.tok _, ⟨s.toks, ?_⟩, q⟩
  show Value.int ((its.toArray.toList.countP (eqk k) : Nat) : Int) s.toks = Value.int ((ns.count k : Nat) : Int) s.toks
  rw [ec]
theorem pe_tm (pa : PlainAttrs "tuple") (slot : Slot "tuple" name id) (hty : typeOf (.builtin id) = pure (.type "method_descriptor")) (hm : MtR X id r) (ho : PE X o to) (ha : PA X (e :: es) t)
    (hbase : attributeBase o name X.env (eval o X.env) = eval o X.env := by rfl)
    (hfew : ((backTo cpos (starEach (e :: es) X.env)).all (fun x => !x.1) && (backToKw cpos (keywordEach [] X.env)).all (fun x => x.1.isSome)
      && decide ((e :: es).length + ([] : List Keyword).length + (if ([] : List Keyword).isEmpty then 0 else 1) < 30)) = true := by rfl)
    (hline : (apos.endLine == cpos.line) = true := by rfl) (hs : starEach (e :: es) X.env = (false, eval e X.env) :: starEach es X.env := by rfl) (hplain : (backTo cpos (starEach es X.env)).any (·.1) = false := by rfl) :
    PE X (.Call (.Attribute o name apos) (e :: es) [] cpos) (tTM X.K r to t) := by
  refine ⟨fun pins s σ H Q I h => ?_⟩
  refine wpAny_Call_method_late hbase hfew hline rfl (thn (ho.run pins s σ H _ I h) fun v s1 ⟨x, H1, I1, r1, ⟨p, xs, ex, ty⟩, q1⟩ => ?_)
  subst ex
  obtain rfl : v = Value.ref p := r1
  obtain ⟨its, ob, n, _, g1, g2, g3, _⟩ := Tp.at (K := X.K) I1 ty
  refine ⟨"tuple", id, pa, slot, hty, ⟨ob, g1, g2⟩, fun a ea => ?_, ?_⟩
  · cases ea
    exact ⟨ob, g1, g3⟩
  have hA := ha.run cpos pins s1 σ H1 _ I1 q1
  rw [hs] at hA ⊢
  refine Calls.callWith_builtin (by show (false || (backTo cpos (starEach es X.env)).any (·.1)) = false; rw [hplain] <;> rfl) (Calls.evalArgs_plain ?_)
  exact thn hA fun us s2 ⟨vs, H2, I2, r2, q2⟩ => hm pins s2 σ H2 (.ref p) vs _ us Q I2 (show RelV (V.ref p) (Value.ref p) from rfl) r2 q2
/-- f(k = v, ..): every argument by its name -/
def tCall0K (sp : Sp) (gV : List V → List V → List V) (E : XK) (tk : TA) : TE := fun σ H Q => tk σ H fun zs H2 => sp (gV [] zs) H2 Q E
theorem pe_call0K {CX : CXT} {k : Nat} {f : Addr} {fd : FuncData} {ps ks : List Str} {sp : Sp} {E : XK} {x : Str} {p pos : Pos} {kws : List Keyword} {tk : TA} {g : List Value → List Value → List Value} {gV : List V → List V → List V}
    (F : FnOk X.prog X.w X.K X.mg X.base CX k f fd ps sp) (hr : Room k X.A) (hg : Gl X x) (hm : X.mg x = some (.ref f)) (hk : PySem.W.keepIn X.K (.ref f) = true) (hb : KBinds X.K fd ps ks g gV) (hx : Passes CX X E)
    (hkw : PK X kws tk) (hall : (backToKw pos (keywordEach kws X.env)).all (·.1.isSome) = true := by rfl) (hks : (backToKw pos (keywordEach kws X.env)).filterMap (·.1) = ks := by rfl)
    (hdb : (x == ("__debug__" : Str)) = false := by decide) (hpl : ((backTo pos (starEach [] X.env)).any (·.1) || (backToKw pos (keywordEach kws X.env)).any (·.1.isNone)) = false := by rfl) : PE X (.Call (.Name x p) [] kws pos) (tCall0K sp gV E tk) := by
  refine ⟨fun pins s σ H Q I h => ?_⟩
  refine wpAny_Call_Name_kw (ld_glob I hg hm ?_ hdb)
  refine PySem.W.callWith_KW0 (h₀ := X.base) I.ok.mod.kin hk hall (thn (hkw.run pos pins s σ H _ I h) fun ws s2 ⟨zs, H2, I2, rz, q2⟩ => ⟨I2.kIn, ?_⟩) hpl
  rw [hks]
  exact run_fnk (us := []) F hr hb hx I2 .nil rz q2
end
end Own

namespace Own
open PySem PySem.Spec PyProof.Rows L2 Evl
/-! ### a def of the text and its promise, by its name -/
def Fn (P : Program) (w : World) (K : PySem.W.Frag) (mg : Str → Option Value) (base : Heap) (CX : CXT) (k : Nat) (x : Str) (st : Stmt) (ps : List Str) (sp : Sp) : Prop :=
  ∃ f fd, mg x = some (.ref f) ∧ FunD K x x (defArgs st) (defBody st) (defScope st) [] [] f fd ∧ Binds K fd ps [] ∧ FnOk P w K mg base CX k f fd ps sp
section
variable {X : Cx} {CX : CXT} {k : Nat} {ps ks : List Str} {sp : Sp} {E : XK} {x : Str} {st : Stmt} {p pos : Pos} {e : Expr} {es : List Expr} {t tk : TA}
theorem Fn.imp {P : Program} {w : World} {K : PySem.W.Frag} {mg : Str → Option Value} {base : Heap} {sp' : Sp} (F : Fn P w K mg base CX k x st ps sp) (h : ∀ vs H Q E, sp' vs H Q E → sp vs H Q E) : Fn P w K mg base CX k x st ps sp' := by
  obtain ⟨f, fd, h1, h2, h3, h4⟩ := F
  exact ⟨f, fd, h1, h2, h3, h4.imp h⟩
theorem Fn.mono {P : Program} {w : World} {K : PySem.W.Frag} {mg : Str → Option Value} {base : Heap} {j : Nat} (F : Fn P w K mg base CX j x st ps sp) (h : j ≤ k) : Fn P w K mg base CX k x st ps sp := by
  obtain ⟨f, fd, h1, h2, h3, h4⟩ := F
  exact ⟨f, fd, h1, h2, h3, h4.mono h⟩
theorem pe_callF (F : Fn X.prog X.w X.K X.mg X.base CX k x st ps sp) (hr : Room k X.A) (hg : Gl X x) (hx : Passes CX X E) (ha : PA X (e :: es) t) (hdb : (x == ("__debug__" : Str)) = false := by decide)
    (he : starEach (e :: es) X.env = (false, eval e X.env) :: starEach es X.env := by rfl) (hpl : (backTo pos (starEach es X.env)).any (·.1) = false := by rfl) :
    PE X (.Call (.Name x p) (e :: es) [] pos) (tCall sp [] E t) := by
  obtain ⟨f, fd, h1, h2, h3, h4⟩ := F
  exact pe_call h4 hr hg h1 h2.kp h3 .nil hx ha hdb he hpl
theorem pe_call0F (F : Fn X.prog X.w X.K X.mg X.base CX k x st ps sp) (hr : Room k X.A) (hg : Gl X x) (hx : Passes CX X E) (hdb : (x == ("__debug__" : Str)) = false := by decide) : PE X (.Call (.Name x p) [] [] pos) (tCall sp [] E tNil) := by
  obtain ⟨f, fd, h1, h2, h3, h4⟩ := F
  exact pe_call0 h4 hr hg h1 h2.kp h3 .nil hx hdb
/-- the values in the parameters' order -/
def pick {α : Type} (n : Nat) (ix : List Nat) (us ws : List α) : List α := match us with
  | [] => if ws.length = n then ix.filterMap fun i => ws[i]? else []
  | _ :: _ => []
theorem pick_rel {n : Nat} {ix : List Nat} {vs : List V} {us : List Value} {zs : List V} {ws : List Value} (r1 : Vals vs us) (r2 : Vals zs ws) : Vals (pick n ix vs zs) (pick n ix us ws) := by
  cases r1 with
  | cons a b => exact .nil
  | nil =>
    show Vals (if zs.length = n then ix.filterMap fun i => zs[i]? else []) (if ws.length = n then ix.filterMap fun i => ws[i]? else [])
    rw [← r2.length]
    by_cases h : zs.length = n
    · rw [if_pos h, if_pos h]
      clear h
      induction ix with
      | nil => exact .nil
      | cons i r ih =>
        rw [List.filterMap_cons, List.filterMap_cons]
        cases e : zs[i]? with
        | none =>
          rw [r2.none_of e]
          exact ih
        | some v =>
          obtain ⟨u, hu, ru⟩ := r2.get e
          rw [hu]
          exact .cons ru ih
    · rw [if_neg h, if_neg h]
      exact .nil
theorem kb_of {K : PySem.W.Frag} {qual : Str} {params : Arguments} {body : List Stmt} {scope : Scope} {f : Addr} {fd : FuncData} (n : Nat) (ix : List Nat) (F : FunD K x qual params body scope [] [] f fd) (hps : ps ≠ [])
    (h : ∀ (kV doc pm : Value) (an : Option Addr) (cdv ct : Value) (ws : List Value), ws.length = n → bindArgs (PySem.W.fnOf x qual params body scope .none kV doc pm an cdv ct) ⟨[], ks.zip ws⟩ = pure (ps.zip (ix.filterMap fun i => ws[i]?))) :
    KBinds K fd ps ks (pick n ix) (pick n ix) := by
  refine ⟨fun s us ws _ hl => ?_, fun r1 r2 => pick_rel r1 r2⟩
  obtain ⟨oc, od, dV, kV, doc, pm, an, cdv, ct, osl, rfl, lk, hcd, hD, hK⟩ := F.ex
  have no : ¬ (([] : List Value).length = ps.length) := fun e => hps (List.eq_nil_of_length_eq_zero e.symm)
  rcases hD with ⟨_, rfl⟩ | ⟨e, _⟩
  · cases us with
    | cons a b => exact absurd hl no
    | nil =>
      by_cases hw : ws.length = n
      · have e : pick n ix ([] : List Value) ws = ix.filterMap fun i => ws[i]? := if_pos hw
        rw [e]
        exact .of_eq (h kV doc pm an cdv ct ws hw)
      · have e : pick n ix ([] : List Value) ws = [] := if_neg hw
        rw [e] at hl
        exact absurd hl no
  · exact absurd rfl e
theorem pe_call0KF {n : Nat} {ix : List Nat} {kws : List Keyword} (F : Fn X.prog X.w X.K X.mg X.base CX k x st ps sp) (hr : Room k X.A) (hb : ∀ {f : Addr} {fd : FuncData}, FunD X.K x x (defArgs st) (defBody st) (defScope st) [] [] f fd → KBinds X.K fd ps ks (pick n ix) (pick n ix)) (hx : Passes CX X E)
    (hkw : PK X kws tk) (hg : Gl X x := by rfl) (hall : (backToKw pos (keywordEach kws X.env)).all (·.1.isSome) = true := by rfl) (hks : (backToKw pos (keywordEach kws X.env)).filterMap (·.1) = ks := by rfl)
    (hdb : (x == ("__debug__" : Str)) = false := by decide) (hpl : ((backTo pos (starEach [] X.env)).any (·.1) || (backToKw pos (keywordEach kws X.env)).any (·.1.isNone)) = false := by rfl) : PE X (.Call (.Name x p) [] kws pos) (tCall0K sp (pick n ix) E tk) := by
  obtain ⟨f, fd, h1, h2, h3, h4⟩ := F
  exact pe_call0K h4 hr hg h1 h2.kp (hb h2) hx hkw hall hks hdb hpl
end
/-! ### promises that leave all that was known -/
/-- a new tuple -/
def RetU (K : PySem.W.Frag) (xs : List V) (H : Hp) (Q : VK) : Prop := ∀ p H2, Ex H H2 → Tp K H2 p xs → Q (.ref p) H2
theorem RetU.new {K : PySem.W.Frag} {xs : List V} {H H1 : Hp} {Q : VK} (k : RetU K xs H Q) (e : Ex H H1) : NewT xs H1 Q := fun p o hp ho => k p _ (e.trans (Ex.new hp)) (Tp.of ho upd_same)
theorem Tp.ex {K : PySem.W.Frag} {H H1 : Hp} {p : Addr} {xs : List V} (h : Tp K H p xs) (e : Ex H H1) : Tp K H1 p xs := by
  rcases h with ⟨o, h1, h2⟩ | h
  · exact .inl ⟨o, h1, e _ _ h2⟩
  · exact .inr h
theorem NewT.any {xs ys : List V} {H : Hp} {Q : VK} (h : NewT xs H Q) (e : xs = ys) : NewT ys H Q := e ▸ h
/-! ### comprehensions that change nothing that was known -/
section
variable {K : PySem.W.Frag} {J : It} {n : Nat} {G : Hp → Prop} {Y : Nat → Hp → V → Hp → Prop} {g : TG} {tt : TT} {te : TE} {vs : List Nat} {σ : L2.St} {H : Hp}
/-- what a comprehension gives, from the list it walks -/
theorem lcP {Q : Addr → Hp → Prop} (w : Walk J n G Y) (hG : ∀ H', Ex H H' → G H') (hn : n ≤ 40000) (f : Nat → Bool) (v : Nat → V)
    (turn : ∀ i H1 x H2, i < n → Ex H H1 → Y i H1 x H2 → ∀ (K1 : VK) (K0 : Hp → Prop), (f i = true → ∀ H5, Ex H1 H5 → K1 (v i) H5) → (f i = false → ∀ H5, Ex H1 H5 → K0 H5) →
      g x (wipe σ vs) H2 fun σ2 H3 => wipe σ2 vs = wipe σ vs ∧ tt σ2 H3 fun b H4 => if b = true then te σ2 H4 K1 else K0 H4)
    (q : ∀ p H2, H p = none → Ex H H2 → H2 p = some (.lst (given n f v)) → Q p H2) :
    ∀ D, H D = none → ∃ W : Nat → Nat → Hp → Prop, (∃ m, W 0 m (upd H D (.lst []))) ∧ ∀ i m H, W i m H →
      (J.stop i H ∧ Q D H) ∨ (J.go i H ∧ ∃ Nx : Hp → Prop, (∀ H', Nx H' → ∃ m', m' < m ∧ W (i + 1) m' H') ∧ ∀ x H', J.yld i H x H' → g x (wipe σ vs) H' fun σ2 H2 => wipe σ2 vs = wipe σ vs ∧ tt σ2 H2 fun b H3 =>
        if b = true then te σ2 H3 fun y H4 => ∃ acc, H4 D = some (.lst acc) ∧ acc.length < sizeLine ∧ Nx (upd H4 D (.lst (acc ++ [y]))) else Nx H3) := fun D hD =>
  lc_it w (Cw H f v D) ⟨hD, Ex.new hD, upd_same⟩ (fun i H' _ p => hG H' p.2.1) (fun i x H1 H2 hi p y => by
    obtain ⟨p1, p2, p3⟩ := p
    refine turn i H1 x H2 hi p2 y _ _ (fun hf H5 e5 => ?_) (fun hf H5 e5 => ?_)
    · refine ⟨given i f v, e5 D _ p3, sz_lt (by have := given_len i f v; omega), p1, Ex.mut (p2.trans e5) p1, ?_⟩
      rw [given_yes hf]
      exact upd_same
    · refine ⟨p1, p2.trans e5, ?_⟩
      rw [given_no hf]
      exact e5 D _ p3) (fun H' p => q D H' p.1 p.2.1 p.2.2)
end
theorem yes_go {te : TE} {σ : L2.St} {H : Hp} {K1 : VK} {K0 : Hp → Prop} (h : te σ H K1) : tYes σ H (fun b H4 => if b = true then te σ H4 K1 else K0 H4) := by
  show (if true = true then te σ H K1 else K0 H)
  rw [if_pos rfl]
  exact h
theorem given_all (n : Nat) (v : Nat → V) : given n (fun _ => true) v = (List.range n).map v := by
  unfold given
  rw [List.filter_eq_self.mpr (by simp)]
end Own

set_option maxHeartbeats 4000000
/-! More rules: int(long text), text * int, list(range(n)), tuple(reversed(list)). -/
namespace PySem
namespace OwI
open PySem PySem.W PySem.Calls PySem.NumText PyProof.Rows
theorem wp_long {M : Model} {A : Around} {E : Value → Shared → Prop} {s : Shared} {Q : Value → Shared → Prop} {v : Value} {text : List Nat} {n : Int}
    (hs : ¬ (text.takeWhile (· != 0)).length ≤ 640) (hr : (int_private% "readNumeral") 4300 10 (text.takeWhile (· != 0)) = (int_private% "Numeral.value") n)
    (ha : ((text.takeWhile (· != 0)).length == text.length) = true) (hk : Looks M s.heap (nsGet cStatics "sys.int_max_str_digits") none) (h : Q (.int n s.toks) { s with toks := s.toks + 1 }) :
    wpAny M A ((int_private% "intFromText") v text 10) Q E s := by
  have hlim : ∀ {Q' : Nat → Shared → Prop}, Q' 4300 s → wpAny M A Builtin.intMaxStrDigits Q' E s := fun {Q'} q => by
    unfold Builtin.intMaxStrDigits
    exact wpAny_bind (hk.at (wpAny_pure q))
  obtain ⟨hp, g, d, tk, os⟩ := s
  repeat (any_goals (first
    | assumption
    | (with_reducible refine wpAny_ite_false (decide_eq_false hs) ?_)
    | (with_reducible refine wpAny_ite_true (decide_eq_true ha) ?_)
    | (with_reducible refine hlim ?_)
    | wp_step))
  all_goals (try rw [hr])
  all_goals (try dsimp only)
  repeat (any_goals (first
    | assumption
    | (with_reducible refine wpAny_ite_false (decide_eq_false hs) ?_)
    | (with_reducible refine wpAny_ite_true (decide_eq_true ha) ?_)
    | wp_step))
structure Hid (p : Prop) : Prop where
  out : p
theorem meets_long {x : PySem.Str} {u : Tok} {n : Int} (hl : x.length ≤ sizeLine) (hl2 : ¬ (numSeenOf x).length ≤ 640) (hn : PySem.intText? x = some n) :
    Meets (Builtin.«int.__new__» ⟨[.type "int", .str x u], []⟩) (fun _ R s => (∀ M : Model, Looks M s.heap (nsGet cStatics "sys.int_max_str_digits") none) ∧ R (.ok (.ret (.int n s.toks))) { s with toks := s.toks + 1 }) :=
  .of_wp fun prog w A R s h => by
    obtain ⟨hk, h⟩ := h
    obtain ⟨hp, g, d, tk, os⟩ := s
    have f1 := F.conv_sub_int
    have f2 := F.madeHere_int
    have f3 := KIN.str_int
    have f4 := KIN.str_idx
    have f5 := KIN.str_trunc
    have f6 : typeOf (.str x u) = pure (.type "str") := rfl
    have hr : (int_private% "readNumeral") 4300 10 (numSeenOf x) = (int_private% "Numeral.value") n ∧ ((numSeenOf x).length == (numTextOf x).length) = true := by
      rcases read4300 x hl with ⟨m, h1, h2, h3⟩ | ⟨h1, _⟩
      · rw [hn] at h1
        injection h1 with h1
        subst h1
        exact ⟨h3, h2⟩
      · rw [hn] at h1
        cases h1
    have hd := Hid.mk (And.intro hl2 hr)
    have hk' := Hid.mk hk
    clear hr hl hl2 hn hk
    repeat (any_goals (first
      | assumption
      | ((with_reducible show wpAny _ _ ((int_private% "intFromText") _ _ _) _ _ _); refine wp_long hd.out.1 hd.out.2.1 hd.out.2.2 (hk'.out _) ?_)
      | wp_step))
    all_goals first | exact ⟨_, rfl, h⟩ | skip
end OwI
end PySem
namespace Own
open PySem PySem.Spec PyProof.Rows L2 Evl
section
variable {X : Cx}
/-- int(text), up to 4,300 figures -/
def rIntS : List V → Hp → VK → Prop := fun xs H Q => ∃ a n, xs = [.str a] ∧ PySem.intText? a = some n ∧ a.length ≤ 4300 ∧ (numSeenOf a).length = a.length ∧ Q (.int n) H
theorem call_intS (hk : PySem.W.nsIn X.K cStatics "sys.int_max_str_digits" = some none) : CallR X (.type "int") rIntS := by
  intro pins s σ H xs us Q I rs h
  obtain ⟨a, n, rfl, hn, hl, hse, h⟩ := h
  cases rs with
  | cons r1 rs =>
    cases rs
    obtain ⟨t, rfl⟩ := r1
    by_cases h6 : (numSeenOf a).length ≤ 640
    · exact PySem.W.KIN.call_text hn (by omega) ⟨.int n, H, I.tok _, ⟨_, rfl⟩, h⟩
    · exact PySem.call_int_1 (PySem.OwI.meets_long (by rw [sizeLine_eq]; omega) h6 hn) ⟨fun M => PySem.W.looks_nsIn I.kIn hk, ⟨rfl, .int n, H, I.tok _, ⟨_, rfl⟩, h⟩⟩
/-- text * k -/
def repS (a : Str) (n : Nat) : Str := ⟨(List.replicate n a.cps).foldl (· ++ ·) #[]⟩
theorem repS_len (a : Str) : ∀ (n : Nat) (acc : Array Nat), ((List.replicate n a.cps).foldl (· ++ ·) acc).size = acc.size + n * a.cps.size
  | 0, acc => by simp
  | n + 1, acc => by
    rw [List.replicate_succ, List.foldl_cons, repS_len a n, Array.size_append, Nat.succ_mul]
    omega
theorem repS_length (a : Str) (n : Nat) : (repS a n).length = n * a.length := by
  show ((List.replicate n a.cps).foldl (· ++ ·) #[]).size = n * a.cps.size
  rw [repS_len]
  simp
theorem repS_mem {a : Str} {c : Nat} : ∀ (n : Nat) (acc : Array Nat), c ∈ ((List.replicate n a.cps).foldl (· ++ ·) acc).toList → c ∈ acc.toList ∨ c ∈ a.cps.toList
  | 0, acc, h => .inl h
  | n + 1, acc, h => by
    rw [List.replicate_succ, List.foldl_cons] at h
    rcases repS_mem n _ h with h | h
    · rw [Array.toList_append, List.mem_append] at h
      exact h
    · exact .inr h
def rRepS : R2 := fun x y H Q => ∃ a k, x = .str a ∧ y = .int k ∧ 0 ≤ k ∧ k ≤ 10000 ∧ a.length ≤ 1000 ∧ Q (.str (repS a k.toNat)) H
theorem op_repS : OpR X (binaryOp .Mult) rRepS := by
  intro pins s σ H x y v u Q I rx ry h
  obtain ⟨a, k, rfl, rfl, h0, h1, hz, q⟩ := h
  obtain ⟨t, rfl⟩ := rx
  obtain ⟨t2, rfl⟩ := ry
  have hm : a.length * k.toNat ≤ 1000 * 10000 := Nat.mul_le_mul hz (by omega)
  refine PySem.P.mul_str (by rw [decide_eq_false (by omega), decide_eq_false (by omega)] <;> rfl) (fun _ _ => ?_) (fun _ _ => ?_) ?_
  · have : (a.length : Int) ≤ 1000 := by omega
    have : (1000 : Int) ≤ (2 ^ 63 - 1) / k := by
      by_cases hk : k = 0
      · omega
      · exact Int.le_ediv_of_mul_le (by omega) (by omega)
    omega
  · unfold Builtin.Str.tooLong
    first
      | exact decide_eq_false (by rw [sizeLine_eq]; omega)
      | exact decide_eq_false (by omega)
  · by_cases h1' : k < 1
    · rw [if_pos h1']
      have e0 : repS a k.toNat = Str.empty := by
        rw [show k.toNat = 0 by omega]
        rfl
      rw [e0] at q
      exact ⟨by decide, .str Str.empty, H, I.tok _, ⟨_, rfl⟩, q⟩
    · rw [if_neg h1']
      by_cases h2 : (k == 1 || a.length == 0) = true
      · rw [if_pos h2]
        have e0 : repS a k.toNat = a := by
          rcases Bool.or_eq_true_iff.mp h2 with h3 | h3
          · have : k.toNat = 1 := by
              have := eq_of_beq h3
              omega
            rw [this]
            show (⟨#[] ++ a.cps⟩ : Str) = a
            rw [Array.empty_append]
          · have h4 : a.cps = #[] := Array.eq_empty_of_size_eq_zero (eq_of_beq h3)
            show (⟨(List.replicate k.toNat a.cps).foldl (· ++ ·) #[]⟩ : Str) = a
            have h5 : (List.replicate k.toNat a.cps).foldl (· ++ ·) #[] = #[] := Array.eq_empty_of_size_eq_zero (by
              rw [repS_len, h4]
              simp)
            rw [h5]
            cases a
            simp only at h4
            rw [h4]
        rw [e0] at q
        exact ⟨.str a, H, I.tok _, ⟨_, rfl⟩, q⟩
      · rw [if_neg h2]
        exact ⟨by
          have := repS_length a k.toNat
          show (repS a k.toNat).length ≤ sizeLine
          rw [this, sizeLine_eq, Nat.mul_comm]
          omega, .str (repS a k.toNat), H, I.tok _, ⟨_, rfl⟩, q⟩
/-- list(range(n)) -/
theorem pe_list_range {e : Expr} {te : TE} {p pos p2 pos2 : Pos} (hm : X.mg "list" = none) (hm2 : X.mg "range" = none) (he : PE X e te) (hc : X.calm = true := by rfl) (hg : Gl X "list" := by rfl) (hg2 : Gl X "range" := by rfl)
    (na : starEach [e] X.env = (false, eval e X.env) :: starEach [] X.env := by rfl) (na2 : starEach [.Call (.Name "range" p2) [e] [] pos2] X.env = (false, eval (.Call (.Name "range" p2) [e] [] pos2) X.env) :: starEach [] X.env := by rfl) :
    PE X (.Call (.Name "list" p) [.Call (.Name "range" p2) [e] [] pos2] [] pos) (tLstRg (tRg1 te)) := pe_listRg hc hg hm (prg_1 hg2 hm2 he na) na2
/-- tuple(reversed(xs)) -/
def tTupRev (K : PySem.W.Frag) (ta : TA) : TE := fun σ H Q => ta σ H fun vs H1 => ∃ (a : Addr) (xs : List V), vs = [.ref a] ∧ SqL K H1 a xs ∧ NewT xs.reverse H1 Q
theorem pe_tuple_reversed {e : Expr} {ta : TA} {p pos p2 pos2 : Pos} (hm : X.mg "tuple" = none) (hm2 : X.mg "reversed" = none) (ha : PA X [e] ta) (hc : X.calm = true := by rfl) (hg : Gl X "tuple" := by rfl) (hg2 : Gl X "reversed" := by rfl)
    (hs : starEach [e] X.env = [(false, eval e X.env)] := by rfl) (na2 : starEach [.Call (.Name "reversed" p2) [e] [] pos2] X.env = (false, eval (.Call (.Name "reversed" p2) [e] [] pos2) X.env) :: starEach [] X.env := by rfl) :
    PE X (.Call (.Name "tuple" p) [.Call (.Name "reversed" p2) [e] [] pos2] [] pos) (tTupRev X.K ta) := by
  refine ⟨fun pins s σ H Q I h => ?_⟩
  refine Call_ (ld_blt I hg hm boot_tuple (PyProof.Rows.callWith_type1 (args_cons (Call_ (ld_blt (I.tok _) hg2 hm2 PyProof.Rows.boot_reversed (PyProof.Rows.callWith_type1 (thn (ha.run pos2 pins _ σ H _ (I.tok _) h) fun us s1 ⟨vs, H1, I1, r1, q1⟩ => ?_) hs rfl))) na2) na2))
  obtain ⟨a, xs, e, hq, q⟩ := q1
  subst e
  cases r1 with
  | cons r rr =>
    cases rr
    cases r
    obtain ⟨its, rv, pl, hz⟩ := I1.list hq
    have hl := rv.length
    refine call_reversed_list pl.isList (args_nil ?_)
    have hlt : a < s1.heap.objs.size := by
      obtain ⟨o, n, e, _⟩ := pl
      exact Heap.lt_size e
    obtain ⟨oL, nL, eL, cL, dL, sL⟩ := id pl
    refine RT.call_tuple_rev (l := a) (items := its.toArray) (I1.ok.hd hc) ⟨_, Heap.get?_push_size _ rfl, rfl, rfl⟩ ?_ (Nat.ne_of_lt hlt) (by rw [List.size_toArray, ← hl]; exact hz) (fun h' tk acc hk hacc => ?_)
    · obtain ⟨n9, h9, h8⟩ := pl.isList
      exact ⟨n9, Heap.get?_push_of_some _ h9, h8⟩
    · have I2 : Inv X pins σ H1 { s1 with heap := h', toks := tk } := I1.kept (fun b o e => hk b o (Nat.ne_of_lt (Heap.lt_size e)) (Heap.get?_push_of_some _ e))
      have rr : Vals xs.reverse acc.toList := by
        obtain ⟨h1, h2⟩ := hacc
        refine vals_of_at (by rw [List.length_reverse, Array.length_toList]; exact hl.trans ((List.size_toArray ..).symm.trans h1.symm)) (fun j x u hx hu => ?_)
        have hj := h2 j u (by simpa using hu)
        have hj2 : j < xs.length := by
          have := (List.getElem?_eq_some_iff.mp hx).1
          rw [List.length_reverse] at this
          exact this
        rw [List.getElem?_reverse hj2] at hx
        obtain ⟨u2, hu2, ru⟩ := rv.get hx
        have : its[xs.length - 1 - j]? = some u := by
          rw [hl]
          simpa using hj
        rw [hu2] at this
        cases this
        exact ru
      have z := newT_end (tk := tk) I2 rr (by rw [List.length_reverse]; exact hz) q
      rw [Array.toArray_toList] at z
      exact z
end
end Own

namespace Own
open PySem PySem.Spec PyProof.Rows L2 Evl
/-! ### data -/
theorem dp_ints {K : PySem.W.Frag} {H : Hp} : ∀ ns : List Int, DpAll K H (ns.map V.int) (ns.map PyData.int)
  | [] => .nil
  | n :: r => .cons (.int n) (dp_ints r)
theorem eqv_ints_nil (ns : List Int) : PyData.eqv (.list (ns.map PyData.int)) (.list []) = ns.isEmpty := by
  cases ns <;> rfl
/-! ### where draws come from: a list [digits, mix, count] at a, the digits at l -/
structure Deal (N : Nat) (H : Hp) (a l : Addr) : Prop where
  ne : a ≠ l
  at_ : ∃ (cs ms : List Int), H a = some (.lst (.ref l :: ms.map V.int)) ∧ H l = some (.lst (cs.map V.int)) ∧ (∀ x ∈ cs, 0 ≤ x) ∧ ms.length = N ∧ cs.length ≤ 100
/-- R: what is known and stays; the deal beside it -/
structure Wl (N : Nat) (a l : Addr) (R H : Hp) : Prop where
  ex : Ex R H
  na : R a = none
  nl : R l = none
  deal : Deal N H a l
section
variable {N : Nat} {a l : Addr} {R R1 H H1 : Hp} {p : Addr} {o o' : HO}
theorem Deal.dom (d : Deal N H a l) : H a ≠ none ∧ H l ≠ none := by
  obtain ⟨_, cs, ms, h1, h2, _⟩ := d
  refine ⟨fun z => ?_, fun z => ?_⟩
  · rw [h1] at z
    cases z
  · rw [h2] at z
    cases z
theorem Deal.upd (d : Deal N H a l) (h1 : p ≠ a) (h2 : p ≠ l) : Deal N (upd H p o) a l := by
  obtain ⟨n, cs, ms, e1, e2, r⟩ := d
  exact ⟨n, cs, ms, by rw [upd_ne h1.symm]; exact e1, by rw [upd_ne h2.symm]; exact e2, r⟩
theorem Deal.ex (d : Deal N H a l) (e : Ex H H1) : Deal N H1 a l := by
  obtain ⟨n, cs, ms, e1, e2, r⟩ := d
  exact ⟨n, cs, ms, e _ _ e1, e _ _ e2, r⟩
/-- what changes nothing -/
theorem Wl.keep (w : Wl N a l R H) (e : Ex H H1) : Wl N a l R H1 := ⟨w.ex.trans e, w.na, w.nl, w.deal.ex e⟩
/-- a new object -/
theorem Wl.new (w : Wl N a l R H) (h : H p = none) : Wl N a l (upd R p o) (upd H p o) := by
  have h1 : p ≠ a := fun e => w.deal.dom.1 (e ▸ h)
  have h2 : p ≠ l := fun e => w.deal.dom.2 (e ▸ h)
  refine ⟨fun b u e => ?_, by rw [upd_ne h1.symm]; exact w.na, by rw [upd_ne h2.symm]; exact w.nl, w.deal.upd h1 h2⟩
  by_cases hb : b = p
  · subst hb
    rw [upd_same] at e ⊢
    exact e
  · rw [upd_ne hb] at e ⊢
    exact w.ex b u e
/-- a known object is changed -/
theorem Wl.mut (w : Wl N a l R H) (h : R p = some o) : Wl N a l (upd R p o') (upd H p o') := by
  have h1 : p ≠ a := fun e => by
    rw [e, w.na] at h
    cases h
  have h2 : p ≠ l := fun e => by
    rw [e, w.nl] at h
    cases h
  refine ⟨fun b u e => ?_, by rw [upd_ne h1.symm]; exact w.na, by rw [upd_ne h2.symm]; exact w.nl, w.deal.upd h1 h2⟩
  by_cases hb : b = p
  · subst hb
    rw [upd_same] at e ⊢
    exact e
  · rw [upd_ne hb] at e ⊢
    exact w.ex b u e
theorem Wl.free (w : Wl N a l R H) (h : H p = none) : R p = none := fresh_back w.ex h
/-- more is known -/
theorem Wl.more (w : Wl N a l R H) (e : Ex H H1) : ∃ R1, Ex R R1 ∧ Wl N a l R1 H1 ∧ ∀ b o, b ≠ a → b ≠ l → H1 b = some o → R1 b = some o := by
  refine ⟨fun b => if b = a ∨ b = l then none else H1 b, fun b o h => ?_, ⟨fun b o h => ?_, if_pos (.inl rfl), if_pos (.inr rfl), w.deal.ex e⟩, fun b o h1 h2 h => ?_⟩
  · have h1 : b ≠ a := fun z => by
      rw [z, w.na] at h
      cases h
    have h2 : b ≠ l := fun z => by
      rw [z, w.nl] at h
      cases h
    show (if b = a ∨ b = l then none else H1 b) = some o
    rw [if_neg (by simp [h1, h2])]
    exact e _ _ (w.ex _ _ h)
  · have h' : (if b = a ∨ b = l then none else H1 b) = some o := h
    by_cases z : b = a ∨ b = l
    · rw [if_pos z] at h'
      cases h'
    · rw [if_neg z] at h'
      exact h'
  · show (if b = a ∨ b = l then none else H1 b) = some o
    rw [if_neg (by simp [h1, h2])]
    exact h
end
/-- the promise of a drawn number below a bound -/
def spAny (N : Nat) : Sp := fun vs H Q _ => ∃ (a l : Addr) (R : Hp) (b : Int), vs = [.ref a, .int b] ∧ Wl N a l R H ∧ 0 < b ∧ b.natAbs.log2 < 9000 ∧ ∀ (r : Int) (H' : Hp), 0 ≤ r → r < b → Wl N a l R H' → Q (.int r) H'
/-- .. of one of some things, that stand in a list -/
def spOf (N : Nat) (K : PySem.W.Frag) : Sp := fun vs H Q _ => ∃ (a l p : Addr) (R : Hp) (xs : List V), vs = [.ref a, .ref p] ∧ Wl N a l R H ∧ SqL K R p xs ∧ xs ≠ [] ∧ xs.length ≤ 100 ∧ ∀ (v : V) (H' : Hp), v ∈ xs → Wl N a l R H' → Q v H'
/-! ### kinds of values -/
inductive Vk (K : PySem.W.Frag) (H : Hp) : V → String → Prop where
  | non : Vk K H .non "NoneType"
  | bl (b : Bool) : Vk K H (.bl b) "bool"
  | int (i : Int) : Vk K H (.int i) "int"
  | str (x : Str) : Vk K H (.str x) "str"
  | tup {p : Addr} {xs : List V} (h : Tp K H p xs) : Vk K H (.ref p) "tuple"
  | lst {p : Addr} {xs : List V} (h : H p = some (.lst xs)) : Vk K H (.ref p) "list"
theorem Vk.ty {K : PySem.W.Frag} {H : Hp} {x : V} {T : String} (h : Vk K H x T) : TyX K H x (.type T) := by
  cases h with
  | non => exact .base .non
  | bl b => exact .base (.bl b)
  | int i => exact .base (.int i)
  | str z => exact .base (.str z)
  | tup h =>
    rcases h with ⟨o, _, h⟩ | ⟨o, its, n, h1, h2, _⟩
    · exact .fTuple h
    · exact .kTuple h1 h2
  | lst h => exact .base (.lst h)
theorem Vk.ex {K : PySem.W.Frag} {H H1 : Hp} {x : V} {T : String} (h : Vk K H x T) (e : Ex H H1) : Vk K H1 x T := by
  cases h with
  | non => exact .non
  | bl b => exact .bl b
  | int i => exact .int i
  | str z => exact .str z
  | tup h => exact .tup (h.ex e)
  | lst h => exact .lst (e _ _ h)
theorem Vk.known {K : PySem.W.Frag} {H : Hp} {x : V} {T : String} (h : Vk K H x T) : T ∈ ["NoneType", "bool", "int", "str", "tuple", "list"] := by
  cases h <;> decide
/-! ### one thing twice: two values of the same data, to a depth -/
def scalV : V → Bool
  | .non => true
  | .bl _ => true
  | .int _ => true
  | .str _ => true
  | _ => false
def Sm (K : PySem.W.Frag) (H : Hp) : Nat → V → V → Prop
  | 0, x, y => x = y ∧ scalV x = true
  | n + 1, x, y => (x = y ∧ scalV x = true) ∨ ∃ p q xs ys, x = .ref p ∧ y = .ref q ∧ Tp K H p xs ∧ Tp K H q ys ∧ xs.length = ys.length ∧ xs.length ≤ 1000 ∧ ∀ (i : Nat) u v, xs[i]? = some u → ys[i]? = some v → Sm K H n u v
theorem Sm.ex {K : PySem.W.Frag} {H H1 : Hp} (e : Ex H H1) : ∀ {n : Nat} {x y : V}, Sm K H n x y → Sm K H1 n x y
  | 0, _, _, h => h
  | n + 1, _, _, h => by
    rcases h with h | ⟨p, q, xs, ys, h1, h2, h3, h4, h5, h6, h7⟩
    · exact .inl h
    · exact .inr ⟨p, q, xs, ys, h1, h2, h3.ex e, h4.ex e, h5, h6, fun i u v hu hv => Sm.ex e (h7 i u v hu hv)⟩
theorem Sm.scal {K : PySem.W.Frag} {H : Hp} {x : V} (h : scalV x = true) : ∀ n : Nat, Sm K H n x x
  | 0 => ⟨rfl, h⟩
  | _ + 1 => .inl ⟨rfl, h⟩
/-- two tuples of the same scalars -/
theorem Sm.tup {K : PySem.W.Frag} {H : Hp} {p q : Addr} {xs : List V} (hp : Tp K H p xs) (hq : Tp K H q xs) (hs : ∀ x ∈ xs, scalV x = true) (hl : xs.length ≤ 1000) (n : Nat) : Sm K H (n + 1) (.ref p) (.ref q) :=
  .inr ⟨p, q, xs, xs, rfl, rfl, hp, hq, rfl, hl, fun i u v hu hv => by
    rw [hu] at hv
    cases hv
    exact Sm.scal (hs u (List.mem_of_getElem? hu)) n⟩
theorem scal_ints (ns : List Int) : ∀ x ∈ ns.map V.int, scalV x = true := fun x h => by
  obtain ⟨n, _, rfl⟩ := List.mem_map.mp h
  rfl
def spSame (K : PySem.W.Frag) (n : Nat) : Sp := fun vs H Q _ => ∃ x y, vs = [x, y] ∧ Sm K H n x y ∧ ∀ H', Ex H H' → Q (.bl true) H'
end Own

namespace Own
open PySem PySem.Spec PyProof.Rows L2 Evl
abbrev FnP (K : PySem.W.Frag) (x : Str) (st : Stmt) (f : Addr) (fd : FuncData) : Prop := FunD K x x (defArgs st) (defBody st) (defScope st) [] [] f fd
/-! ### isinstance of what is known -/
theorem kit_all : ∀ T ∈ ["NoneType", "bool", "int", "str", "tuple", "list"], ∀ c ∈ ["int", "bool", "tuple", "list", "str"], L2.kitB T c = some (decide (T = c) || (decide (T = "bool") && decide (c = "int"))) := by decide +kernel
theorem kit_vk {K : PySem.W.Frag} {H : Hp} {x : V} {T : String} (h : Vk K H x T) (c : String) (hc : c ∈ ["int", "bool", "tuple", "list", "str"] := by decide) : PySem.W.kitOne K (.type T) (.type c) = some (decide (T = c) || (decide (T = "bool") && decide (c = "int"))) := kit_ty (kit_all T h.known c hc)
/-- isinstance(x, c) -/
theorem isi_vk {K : PySem.W.Frag} {H : Hp} {x : V} {T : String} {Q : VK} (h : Vk K H x T) (c : String) (q : Q (.bl (decide (T = c) || (decide (T = "bool") && decide (c = "int")))) H) (hc : c ∈ ["int", "bool", "tuple", "list", "str"] := by decide) : rIsi K [x, .ty c] H Q :=
  ⟨x, .ty c, .type T, .type c, _, rfl, .ty c, h.ty, kit_vk h c hc, q⟩
/-! ### lists by their places -/
theorem range_zip {n : Nat} (f : Int → Int → Int) : ∀ {xs ys : List Int}, xs.length = n → ys.length = n → (List.range n).map (fun i => V.int (f (xs.getD i 0) (ys.getD i 0))) = (List.zipWith f xs ys).map V.int := by
  intro xs ys h1 h2
  apply List.ext_getElem?
  intro i
  rw [List.getElem?_map, List.getElem?_map, List.getElem?_zipWith]
  by_cases hi : i < n
  · rw [List.getElem?_range hi, List.getElem?_eq_getElem (show i < xs.length by omega), List.getElem?_eq_getElem (show i < ys.length by omega)]
    simp [List.getD_eq_getElem?_getD, List.getElem?_eq_getElem (show i < xs.length by omega), List.getElem?_eq_getElem (show i < ys.length by omega)]
  · rw [List.getElem?_eq_none (show (List.range n).length ≤ i by rw [List.length_range]; omega), List.getElem?_eq_none (show xs.length ≤ i by omega)]
    rfl
theorem range_map {α β : Type} (d : α) (f : α → β) (xs : List α) : (List.range xs.length).map (fun i => f (xs.getD i d)) = xs.map f := by
  apply List.ext_getElem?
  intro i
  rw [List.getElem?_map, List.getElem?_map]
  by_cases hi : i < xs.length
  · rw [List.getElem?_range hi, List.getElem?_eq_getElem hi]
    simp [List.getD_eq_getElem?_getD, List.getElem?_eq_getElem hi]
  · rw [List.getElem?_eq_none (show (List.range xs.length).length ≤ i by rw [List.length_range]; omega), List.getElem?_eq_none (show xs.length ≤ i by omega)]
    rfl
theorem int_at {xs : List Int} {i : Nat} {x : V} (h : (xs.map V.int)[i]? = some x) : x = .int (xs.getD i 0) ∧ i < xs.length := by
  rw [List.getElem?_map] at h
  cases e : xs[i]? with
  | none =>
    rw [e] at h
    cases h
  | some n =>
    rw [e] at h
    have h2 := (List.getElem?_eq_some_iff.mp e).1
    refine ⟨?_, h2⟩
    rw [List.getD_eq_getElem?_getD, e]
    exact (Option.some.inj h).symm
theorem at_int {xs : List Int} {i : Nat} (h : i < xs.length) : (xs.map V.int)[i]? = some (.int (xs.getD i 0)) := by
  rw [List.getElem?_map, List.getD_eq_getElem?_getD, List.getElem?_eq_getElem h]
  rfl
theorem atI_int {xs : List Int} {i : Nat} (h : i < xs.length) : atI (xs.map V.int) (i : Int) = some (.int (xs.getD i 0)) := atI_nat (at_int h)
theorem getD_mem {xs : List Int} {i : Nat} (h : i < xs.length) : xs.getD i 0 ∈ xs := by
  rw [List.getD_eq_getElem?_getD, List.getElem?_eq_getElem h]
  exact List.getElem_mem h
/-! ### zip of two tuples -/
theorem walk_zipT {K : PySem.W.Frag} {a b : Addr} {xs ys : List V} {n : Nat} (h1 : xs.length = n) (h2 : ys.length = n) : Walk (RZ.ItzT K a b) n (fun H => SqT K H a xs ∧ SqT K H b ys) (YPair (fun i => xs[i]?) (fun i => ys[i]?)) := by
  subst h1
  refine ⟨fun i _ hi q => ?_, fun _ q => ⟨xs, ys, q.1, q.2, by omega⟩, fun i H v H' _ q y => ?_⟩
  · exact ⟨xs, ys, xs[i], ys[i]'(by omega), q.1, q.2, by simp [hi], by simp [show i < ys.length by omega]⟩
  · obtain ⟨T, x, z, h1, h2, h3, h4, h5⟩ := y
    exact ⟨T, x, z, h1, h2, h3, h4 xs q.1, h5 ys q.2⟩
end Own

/-! The layer's rules with the written part named apart: their readings then hang on no context. -/
namespace Own
open PySem PySem.Spec PyProof.Rows L2 Evl
section
variable {X : Cx} {K : PySem.W.Frag}
theorem kx_list (h : X.K = K := by rfl) : IxR X (rIxL K) := by subst h; exact ix_list
theorem kx_tup (h : X.K = K := by rfl) : IxR X (rIxT K) := by subst h; exact ix_tup
theorem ksl_list (h : X.K = K := by rfl) : SlR X (rSlL K) := by subst h; exact sl_list
theorem ksl_tup (h : X.K = K := by rfl) : SlR X (rSlF K) := by subst h; exact sl_tupF
def rLenK (K : PySem.W.Frag) : List V → Hp → VK → Prop := fun xs H Q => ∃ p ys, xs = [.ref p] ∧ (SqL K H p ys ∨ SqT K H p ys) ∧ Q (.int ys.length) H
theorem kc_len (h : X.K = K := by rfl) : CallR X (.builtin "len") (rLenK K) := by subst h; exact call_len_seq
theorem kc_tuple (h : X.K = K := by rfl) : CallR X (.type "tuple") (rTupF K) := by subst h; exact call_tupF
def rListK (K : PySem.W.Frag) : List V → Hp → VK → Prop := fun xs H Q => ∃ p ys, xs = [.ref p] ∧ (SqL K H p ys ∨ SqT K H p ys) ∧ ∀ l, H l = none → Q (.ref l) (upd H l (.lst ys))
theorem kc_list (h : X.K = K := by rfl) : CallR X (.type "list") (rListK K) := by
  subst h
  intro pins s σ H xs us Q I r hh
  exact call_list_of pins s σ H xs us Q I r hh
theorem kc_isi (h : X.K = K := by rfl) : CallR X (.builtin "isinstance") (rIsi K) := by subst h; exact call_isi
theorem kc_sum (hc : X.calm = true) (h : X.K = K := by rfl) : CallR X (.builtin "sum") (rSum K) := by subst h; exact cr_sum hc
theorem kc_min (hc : X.calm = true) (h : X.K = K := by rfl) : CallR X (.builtin "min") (rMin K) := by subst h; exact cr_min hc
theorem kc_max (hc : X.calm = true) (h : X.K = K := by rfl) : CallR X (.builtin "max") (rMax K) := by subst h; exact cr_max hc
theorem ko_eq (hu : X.A.units + 64 < cLine) (h : X.K = K := by rfl) : OpR X (compareOp .Eq) (rEqD K) := by subst h; exact op_eqD hu
theorem ko_ne (hu : X.A.units + 64 < cLine) (h : X.K = K := by rfl) : OpR X (compareOp .NotEq) (rNeD K) := by subst h; exact op_neD hu
theorem ko_in (h : X.K = K := by rfl) : OpR X (compareOp .In) (rIn K false) := by subst h; exact op_in_seq
theorem ko_notIn (h : X.K = K := by rfl) : OpR X (compareOp .NotIn) (rIn K true) := by subst h; exact op_notIn_seq
theorem ko_cat (h : X.K = K := by rfl) : OpR X (binaryOp .Add) (rCatF K) := by subst h; exact op_catF
theorem ko_rep (h : X.K = K := by rfl) : OpR X (binaryOp .Mult) (rRepF K) := by subst h; exact op_repF
variable {o e : Expr} {es : List Expr} {to : TE} {t : TA} {name : Str} {apos cpos : Pos} {T id : String} {r : V → List V → Hp → VK → Prop}
theorem km_bm0 (pa : PlainAttrs T) (slot : Slot T name id) (hty : typeOf (.builtin id) = pure (.type "method_descriptor")) (hm : MtR X id r) (ho : PE X o to)
    (hbase : attributeBase o name X.env (eval o X.env) = eval o X.env := by rfl) (hline : (apos.endLine == cpos.line) = true := by rfl) (h : X.K = K := by rfl) : PE X (.Call (.Attribute o name apos) [] [] cpos) (tBM0 K T r to) := by
  subst h
  exact pe_bm0 pa slot hty hm ho hbase hline
theorem km_bm (pa : PlainAttrs T) (slot : Slot T name id) (hty : typeOf (.builtin id) = pure (.type "method_descriptor")) (hm : MtR X id r) (ho : PE X o to) (ha : PA X (e :: es) t)
    (hbase : attributeBase o name X.env (eval o X.env) = eval o X.env := by rfl)
    (hfew : ((backTo cpos (starEach (e :: es) X.env)).all (fun x => !x.1) && (backToKw cpos (keywordEach [] X.env)).all (fun x => x.1.isSome)
      && decide ((e :: es).length + ([] : List Keyword).length + (if ([] : List Keyword).isEmpty then 0 else 1) < 30)) = true := by rfl)
    (hline : (apos.endLine == cpos.line) = true := by rfl) (hs : starEach (e :: es) X.env = (false, eval e X.env) :: starEach es X.env := by rfl) (hplain : (backTo cpos (starEach es X.env)).any (·.1) = false := by rfl) (h : X.K = K := by rfl) :
    PE X (.Call (.Attribute o name apos) (e :: es) [] cpos) (tBM K T r to t) := by
  subst h
  exact pe_bm pa slot hty hm ho ha hbase hfew hline hs hplain
theorem km_count (ho : PE X o to) (ha : PA X (e :: es) t)
    (hbase : attributeBase o "count" X.env (eval o X.env) = eval o X.env := by rfl)
    (hfew : ((backTo cpos (starEach (e :: es) X.env)).all (fun x => !x.1) && (backToKw cpos (keywordEach [] X.env)).all (fun x => x.1.isSome)
      && decide ((e :: es).length + ([] : List Keyword).length + (if ([] : List Keyword).isEmpty then 0 else 1) < 30)) = true := by rfl)
    (hline : (apos.endLine == cpos.line) = true := by rfl) (hs : starEach (e :: es) X.env = (false, eval e X.env) :: starEach es X.env := by rfl) (hplain : (backTo cpos (starEach es X.env)).any (·.1) = false := by rfl) (h : X.K = K := by rfl) :
    PE X (.Call (.Attribute o "count" apos) (e :: es) [] cpos) (tTM K (rTCnt K) to t) := by
  subst h
  exact pe_tm PySem.F.plainAttrs_tuple PySem.F.slot_tuple_count PySem.F.type_tuple_count mt_tcount ho ha hbase hfew hline hs hplain
end
end Own

/-! Where draws come from, changed. -/
namespace Own
open PySem PySem.Spec PyProof.Rows L2 Evl
section
variable {N : Nat} {a l : Addr} {R H : Hp}
/-- its things -/
structure DealIs (N : Nat) (H : Hp) (a l : Addr) (cs ms : List Int) : Prop where
  ha : H a = some (.lst (.ref l :: ms.map V.int))
  hl : H l = some (.lst (cs.map V.int))
  pos : ∀ x ∈ cs, 0 ≤ x
  mn : ms.length = N
  len : cs.length ≤ 100
theorem DealIs.deal {cs ms : List Int} (d : DealIs N H a l cs ms) (n : a ≠ l) : Deal N H a l := ⟨n, cs, ms, d.ha, d.hl, d.pos, d.mn, d.len⟩
theorem Deal.is (d : Deal N H a l) : ∃ cs ms, DealIs N H a l cs ms := by
  obtain ⟨_, cs, ms, h1, h2, h3, h4, h5⟩ := d
  exact ⟨cs, ms, h1, h2, h3, h4, h5⟩
theorem DealIs.ex {cs ms : List Int} {H1 : Hp} (d : DealIs N H a l cs ms) (e : Ex H H1) : DealIs N H1 a l cs ms := ⟨e _ _ d.ha, e _ _ d.hl, d.pos, d.mn, d.len⟩
/-- the known heap, the deal at a and l as said -/
structure Wd (N : Nat) (a l : Addr) (R H : Hp) (cs ms : List Int) : Prop where
  ex : Ex R H
  na : R a = none
  nl : R l = none
  ne : a ≠ l
  is : DealIs N H a l cs ms
theorem Wd.wl {cs ms : List Int} (w : Wd N a l R H cs ms) : Wl N a l R H := ⟨w.ex, w.na, w.nl, w.is.deal w.ne⟩
theorem Wl.wd (w : Wl N a l R H) : ∃ cs ms, Wd N a l R H cs ms := by
  obtain ⟨cs, ms, d⟩ := w.deal.is
  exact ⟨cs, ms, w.ex, w.na, w.nl, w.deal.ne, d⟩
theorem Wd.keep {cs ms : List Int} {H1 : Hp} (w : Wd N a l R H cs ms) (e : Ex H H1) : Wd N a l R H1 cs ms := ⟨w.ex.trans e, w.na, w.nl, w.ne, w.is.ex e⟩
theorem ex_side {R H : Hp} {p : Addr} {o : HO} (e : Ex R H) (n : R p = none) : Ex R (upd H p o) := fun b u h => by
  have : b ≠ p := fun z => by
    rw [z, n] at h
    cases h
  rw [upd_ne this]
  exact e b u h
theorem Wd.cells {cs ds ms : List Int} (w : Wd N a l R H cs ms) (hp : ∀ x ∈ ds, 0 ≤ x) (hz : ds.length ≤ 100) : Wd N a l R (upd H l (.lst (ds.map V.int))) ds ms :=
  ⟨ex_side w.ex w.nl, w.na, w.nl, w.ne, by rw [upd_ne w.ne]; exact w.is.ha, upd_same, hp, w.is.mn, hz⟩
theorem Wd.nums {cs ms ms' : List Int} (w : Wd N a l R H cs ms) (h : ms'.length = N) : Wd N a l R (upd H a (.lst (.ref l :: ms'.map V.int))) cs ms' :=
  ⟨ex_side w.ex w.na, w.na, w.nl, w.ne, upd_same, by rw [upd_ne w.ne.symm]; exact w.is.hl, w.is.pos, h, w.is.len⟩
/-- the deal as it is made -/
def spDeal (N : Nat) (K : PySem.W.Frag) : Sp := fun vs H Q _ => ∃ (a : Addr) (ns : List Int) (salt : Int), vs = [.ref a, .int salt] ∧ SqL K H a (ns.map V.int) ∧ 0 ≤ salt ∧ salt ≤ 1000 ∧ ∀ (d l : Addr) (H' : Hp), Wl N d l H H' → Q (.ref d) H'
end
theorem cut_ints (ns : List Int) (lo hi : Option Int) : ∃ ms : List Int, cutV (ns.map V.int) lo hi = ms.map V.int ∧ ms.length ≤ ns.length := by
  refine ⟨(ns.drop (HT.sIx (ns.map V.int).length 0 lo)).take (HT.sIx (ns.map V.int).length (ns.map V.int).length hi - HT.sIx (ns.map V.int).length 0 lo), ?_, ?_⟩
  · unfold cutV
    rw [List.map_take, List.map_drop]
  · rw [List.length_take, List.length_drop]
    omega
theorem cut_len63 (ns : List Int) : (cutV (ns.map V.int) none (some 63)).length ≤ 63 := by
  unfold cutV
  rw [List.length_take]
  have : HT.sIx (ns.map V.int).length (ns.map V.int).length (some (63 : Int)) ≤ 63 := by
    rw [show (63 : Int) = ((63 : Nat) : Int) from rfl, HT.sIx_nat]
    exact Nat.min_le_left _ _
  omega
/-- the ints that a condition leaves -/
theorem given_ints (n : Nat) (f : Nat → Bool) (g : Nat → Int) : given n f (fun i => V.int (g i)) = (((List.range n).filter f).map g).map V.int := by
  unfold given
  rw [List.map_map]
  rfl
theorem while_split {c : TT} {tb : TS} {D : Ends} {σ : L2.St} {H : Hp} (W : Nat → L2.St → Hp → Prop) (End : L2.St → Hp → Prop) (h0 : ∃ m, W m σ H) (after : ∀ σ H, End σ H → D.nx σ H)
    (turn : ∀ (nx : L2.St → Hp → Prop), (∀ σ H, End σ H → nx σ H) → ∀ m σ H, W m σ H → c σ H fun b H1 => if b = true then ∃ N : L2.St → Hp → Prop, (∀ σ' H', N σ' H' → ∃ m', m' < m ∧ W m' σ' H') ∧ tb { D with nx := N, ct := N, bk := D.nx } σ H1 else nx σ H1) :
    tWhile c tb D σ H := ⟨W, h0, fun m σ H w => turn D.nx after m σ H w⟩
theorem sh_ints (cs : List Int) : SeqAt.shaped (.list (cs.map PyData.int)) = true := PySem.W.ke_shaped_ints cs
theorem ne_nil {K : PySem.W.Frag} {H : Hp} {l z : Addr} {cs : List Int} {Q : VK} (hl : H l = some (.lst (cs.map V.int))) (hz : H z = some (.lst [])) (q : Q (.bl (!cs.isEmpty)) H) : rNeD K (.ref l) (.ref z) H Q :=
  ⟨.list (cs.map PyData.int), .list [], .lst (sq_of hl) (dp_ints cs), .lst (sq_of hz) .nil, sh_ints cs, rfl, by rw [eqv_ints_nil]; exact q⟩
theorem at_last (ds : List Int) (x : Int) : atI ((ds ++ [x]).map V.int) (-1) = some (.int x) := by
  unfold atI ixN
  rw [if_neg (by decide), List.length_map, List.length_append, if_pos (by rw [List.length_singleton]; omega)]
  show ((ds ++ [x]).map V.int)[(-1 + ((ds.length + [x].length : Nat) : Int)).toNat]? = _
  rw [show (-1 + ((ds.length + [x].length : Nat) : Int)).toNat = ds.length by rw [List.length_singleton]; omega, List.getElem?_map, List.getElem?_append_right (Nat.le_refl _), Nat.sub_self]
  rfl
theorem pop_last (ds : List Int) (x : Int) : ((ds ++ [x]).map V.int)[((ds ++ [x]).map V.int).length - 1]? = some (.int x) ∧ ((ds ++ [x]).map V.int).dropLast = ds.map V.int := by
  constructor
  · rw [List.length_map, List.length_append, List.length_singleton, Nat.add_sub_cancel, List.getElem?_map, List.getElem?_append_right (Nat.le_refl _), Nat.sub_self]
    rfl
  · rw [List.map_append]
    exact List.dropLast_concat
theorem cases_last (cs : List Int) : cs = [] ∨ ∃ ds x, cs = ds ++ [x] := by
  rcases List.eq_nil_or_concat cs with h | ⟨ds, x, h⟩
  · exact .inl h
  · exact .inr ⟨ds, x, by rw [h, List.concat_eq_append]⟩
theorem not_empty (ds : List Int) (x : Int) : (!(ds ++ [x]).isEmpty) = true := by
  cases ds <;> rfl
/-- recursion of a def: what it promises at a depth; at none nothing -/
def spSameR (K : PySem.W.Frag) : Nat → Sp
  | 0 => fun _ _ _ _ => False
  | n + 1 => spSame K n
end Own

/-! What is known and where draws come from, with tuples beside; texts of one figure many times. -/
namespace Own
open PySem PySem.Spec PyProof.Rows L2 Evl
section
variable {N : Nat} {a l p : Addr} {R R1 H H1 : Hp} {K : PySem.W.Frag} {xs : List V} {Q : VK}
/-- less is known -/
theorem Wl.weak (w : Wl N a l R1 H) (e : Ex R R1) : Wl N a l R H := ⟨e.trans w.ex, fresh_back e w.na, fresh_back e w.nl, w.deal⟩
theorem Tp.ne (h : Tp K H p xs) (w : Deal N H a l) : (p ≠ a ∧ p ≠ l) ∨ ∀ H', Tp K H' p xs := by
  rcases h with ⟨o, h1, h2⟩ | h
  · obtain ⟨_, cs, ms, g1, g2, _⟩ := w
    refine .inl ⟨fun e => ?_, fun e => ?_⟩
    · subst e
      rw [h2] at g1
      cases g1
    · subst e
      rw [h2] at g2
      cases g2
  · exact .inr fun _ => .inr h
/-- a tuple that came beside is known from then on -/
theorem Wl.tp (w : Wl N a l R H) (e : Ex H H1) (h : Tp K H1 p xs) : ∃ R1, Ex R R1 ∧ Wl N a l R1 H1 ∧ Tp K R1 p xs := by
  obtain ⟨R1, e1, w1, m⟩ := w.more e
  refine ⟨R1, e1, w1, ?_⟩
  rcases h.ne w1.deal with ⟨n1, n2⟩ | h'
  · rcases h with ⟨o, h1, h2⟩ | h
    · exact .inl ⟨o, h1, m _ _ n1 n2 h2⟩
    · exact .inr h
  · exact h' _
/-- a new tuple, and what was known stays -/
def RetW (N : Nat) (K : PySem.W.Frag) (a l : Addr) (R : Hp) (xs : List V) (Q : VK) : Prop := ∀ p R1 H1, Ex R R1 → Wl N a l R1 H1 → Tp K R1 p xs → Q (.ref p) H1
theorem RetW.ret (k : RetW N K a l R xs Q) (w : Wl N a l R H) : RetU K xs H Q := fun p H2 e h => by
  obtain ⟨R1, e1, w1, t⟩ := w.tp e h
  exact k p R1 H2 e1 w1 t
theorem RetW.more (k : RetW N K a l R xs Q) (e : Ex R R1) : RetW N K a l R1 xs Q := fun p R2 H2 e2 w t => k p R2 H2 (e.trans e2) w t
end
/-! ### (x,) * n and t + u, with what they give -/
theorem rep_flat {α : Type} (n : Nat) (x : α) : (List.replicate n [x]).flatten = List.replicate n x := by
  induction n with
  | zero => rfl
  | succ n ih => rw [List.replicate_succ, List.flatten_cons, ih]; rfl
theorem rep_one {K : PySem.W.Frag} {x : V} {n : Int} {H : Hp} {Q : VK} (h0 : -1000 ≤ n) (h1 : n ≤ 1000) (k : RetU K (List.replicate n.toNat x) H Q) : NewT [x] H (fun v H1 => rRepF K v (.int n) H1 Q) := by
  intro p o hp ho
  refine ⟨p, n, [x], rfl, rfl, (Tp.of ho upd_same).sq, h0, h1, by show 1 ≤ 1000; omega, fun e => ?_, fun _ e => ?_⟩
  · rcases e with e | rfl
    · cases e
    · exact k p _ (Ex.new hp) (Tp.of ho upd_same)
  · rw [rep_flat]
    exact k.new (Ex.new hp)
theorem cat_ret {K : PySem.W.Frag} {a b : Addr} {xs ys : List V} {H H0 : Hp} {Q : VK} (ha : Tp K H a xs) (hb : Tp K H b ys) (hz : xs.length + ys.length ≤ sizeLine) (e : Ex H0 H) (k : RetU K (xs ++ ys) H0 Q) : rCatF K (.ref a) (.ref b) H Q :=
  ⟨a, b, xs, ys, rfl, rfl, ha.sq, hb.sq, hz, fun h => by
    subst h
    exact k b H e hb, fun _ h => by
    subst h
    rw [List.append_nil] at k
    exact k a H e ha, fun _ _ => k.new e⟩
/-! ### a figure many times -/
theorem rep_arr (a : Array Nat) : ∀ (n : Nat) (acc : Array Nat), ((List.replicate n a).foldl (· ++ ·) acc).toList = acc.toList ++ (List.replicate n a.toList).flatten
  | 0, acc => by simp
  | n + 1, acc => by
    rw [List.replicate_succ, List.foldl_cons, rep_arr a n, List.replicate_succ, List.flatten_cons, Array.toList_append, List.append_assoc]
theorem repS_list (a : Str) (n : Nat) : (repS a n).cps.toList = (List.replicate n a.cps.toList).flatten := by
  have := rep_arr a.cps n #[]
  exact this
theorem fig_int {a : Str} {c n : Nat} (ha : a.cps.toList = [c]) (h0 : 48 ≤ c) (h1 : c ≤ 57) (hn : 0 < n) (hz : n ≤ 4300) : ∃ z : Int, PySem.intText? (repS a n) = some z ∧ (repS a n).length ≤ 4300 ∧ (numSeenOf (repS a n)).length = (repS a n).length := by
  have e : (repS a n).cps.toList = List.replicate n c := by rw [repS_list, ha, rep_flat]
  have el : (repS a n).length = n := by
    have := congrArg List.length e
    rw [List.length_replicate] at this
    exact this
  have hd : ∀ x ∈ (repS a n).cps.toList, x = c := fun x hx => by
    rw [e] at hx
    exact List.eq_of_mem_replicate hx
  refine ⟨_, intText_digits ?_ ?_ (by omega), by omega, ?_⟩
  · intro x hx
    rw [hd x hx]
    exact ⟨h0, h1⟩
  · rw [e]
    intro h
    have := congrArg List.length h
    rw [List.length_replicate] at this
    simp at this
    omega
  · rw [(numText_signs (x := repS a n) fun x hx => .inr (by rw [hd x hx]; exact ⟨h0, h1⟩)).2]
    rfl
end Own

/-! range(n) as a list; tuples that a comprehension makes; plain laws of rows. -/
namespace Own
open PySem PySem.Spec PyProof.Rows L2 Evl
theorem newL {H : Hp} {xs : List V} {Q : VK} (k : ∀ m H1, Ex H H1 → H m = none → H1 m = some (.lst xs) → Q (.ref m) H1) : ∀ m, H m = none → Q (.ref m) (upd H m (.lst xs)) := fun m hm => k m _ (Ex.new hm) hm upd_same
theorem rg_len (n : Nat) : (rgV 0 (n : Int)).length = n := by
  rw [rgV_length]
  omega
theorem rg_at {n i : Nat} {x : V} (h : (rgV 0 (n : Int))[i]? = some x) : x = .int (i : Int) ∧ i < n := by
  unfold rgV at h
  rw [List.getElem?_map] at h
  by_cases hi : i < ((n : Int) - 0).toNat
  · rw [List.getElem?_range hi] at h
    have := Option.some.inj h
    refine ⟨?_, by omega⟩
    rw [← this]
    exact congrArg V.int (by omega)
  · rw [List.getElem?_eq_none (by rw [List.length_range]; omega)] at h
    cases h
theorem rg_ok {n : Nat} (h : n ≤ 10000) : RgOk 0 (n : Int) := RgOk.of_le (by decide) (by omega) (by decide) (by omega)
/-- ints made from ints, place by place -/
theorem range_of {n : Nat} (f : Nat → Int) {ys : List Int} (h1 : ys.length = n) (h : ∀ i, i < n → f i = ys.getD i 0) : (List.range n).map (fun i => V.int (f i)) = ys.map V.int := by
  subst h1
  rw [← range_map 0 V.int ys]
  apply List.map_congr_left
  intro i hi
  rw [h i (List.mem_range.mp hi)]
theorem getD_zip {f : Int → Int → Int} {xs ys : List Int} {i : Nat} (h1 : i < xs.length) (h2 : i < ys.length) : (List.zipWith f xs ys).getD i 0 = f (xs.getD i 0) (ys.getD i 0) := by
  simp only [List.getD_eq_getElem?_getD, List.getElem?_zipWith, List.getElem?_eq_getElem h1, List.getElem?_eq_getElem h2]
  rfl
theorem getD_map {f : Int → Int} {xs : List Int} {i : Nat} (h1 : i < xs.length) : (xs.map f).getD i 0 = f (xs.getD i 0) := by
  simp only [List.getD_eq_getElem?_getD, List.getElem?_map, List.getElem?_eq_getElem h1]
  rfl
theorem less_is (x y q : Int) : (x + 2 * q - y) % q = (x - y) % q := by
  rw [show x + 2 * q - y = (x - y) + q * 2 by omega, Int.add_mul_emod_self_left]
theorem turned_is (y q : Int) : (q - y) % q = y * (-1 % q) % q := by
  have h : y * (-1 % q) % q = y * -1 % q := by
    rw [Int.mul_emod y (-1 % q) q, Int.emod_emod_of_dvd _ (Int.dvd_refl q), ← Int.mul_emod]
  rw [h, show q - y = y * -1 + q * 1 by omega, Int.add_mul_emod_self_left]
end Own
namespace Own
open PySem PySem.Spec PyProof.Rows L2 Evl
theorem given_congr {n : Nat} {f g : Nat → Bool} {v : Nat → V} (h : ∀ i, i < n → f i = g i) : given n f v = given n g v := by
  unfold given
  rw [List.filter_congr fun i hi => h i (List.mem_range.mp hi)]
theorem range_getD (xs : List Int) : (List.range xs.length).map (fun i => xs.getD i 0) = xs := by
  have := range_map (0 : Int) (id : Int → Int) xs
  rw [List.map_id] at this
  exact this
theorem given_count (xs : List Int) (p : Int → Bool) (v : Nat → V) : (given xs.length (fun i => p (xs.getD i 0)) v).length = xs.countP p := by
  unfold given
  rw [List.length_map, ← List.countP_eq_length_filter]
  conv => rhs; rw [← range_getD xs, List.countP_map]
  rfl
theorem given_weight (xs : List Int) (v : Nat → V) : ((given xs.length (fun i => decide (xs.getD i 0 ≠ 0)) v).length : Int) = (xs.length : Int) - (xs.count 0 : Nat) := by
  rw [given_count xs (fun x => decide (x ≠ 0)) v]
  have h1 := List.length_eq_countP_add_countP (fun x : Int => x == 0) (l := xs)
  have h2 : xs.count 0 = xs.countP (fun x => x == 0) := rfl
  have h3 : xs.countP (fun x => decide (x ≠ 0)) = xs.countP (fun a => decide ¬ (a == 0) = true) := by
    apply List.countP_congr
    intro x _
    simp
  omega
end Own

/-! Calls that may raise, by name; a figure many times, its worth. -/
namespace Own
open PySem PySem.Spec PyProof.Rows L2 Evl
section
variable {X : Cx} {CX : CXT} {k : Nat} {ps ks : List Str} {sp : Sp} {E : L2.St → XK} {x : Str} {st : Stmt} {p pos : Pos} {e : Expr} {es : List Expr} {t tk : TA}
theorem pe_callSF (F : Fn X.prog X.w X.K X.mg X.base CX k x st ps sp) (hr : Room k X.A) (hg : Gl X x) (hx : ∀ σ, PassesAt CX X σ (E σ)) (ha : PA X (e :: es) t) (hdb : (x == ("__debug__" : Str)) = false := by decide)
    (he : starEach (e :: es) X.env = (false, eval e X.env) :: starEach es X.env := by rfl) (hpl : (backTo pos (starEach es X.env)).any (·.1) = false := by rfl) :
    PE X (.Call (.Name x p) (e :: es) [] pos) (tCallS sp E t) := by
  obtain ⟨f, fd, h1, h2, h3, h4⟩ := F
  exact pe_callS h4 hr hg h1 h2.kp h3 hx ha hdb he hpl
end
theorem fig_val {a : Str} {c n : Nat} (ha : a.cps.toList = [c]) (h0 : 48 ≤ c) (h1 : c ≤ 57) (hn : 0 < n) (hz : n ≤ 4300) : PySem.intText? (repS a n) = some ((NumText.digitsVal (List.replicate n c) : Nat) : Int) ∧ (repS a n).length ≤ 4300 ∧ (numSeenOf (repS a n)).length = (repS a n).length := by
  have e : (repS a n).cps.toList = List.replicate n c := by rw [repS_list, ha, rep_flat]
  obtain ⟨z, z1, z2, z3⟩ := fig_int ha h0 h1 hn hz
  refine ⟨?_, z2, z3⟩
  rw [← e]
  refine intText_digits ?_ ?_ z2
  · intro x hx
    rw [e] at hx
    rw [List.eq_of_mem_replicate hx]
    exact ⟨h0, h1⟩
  · rw [e]
    intro h
    have := congrArg List.length h
    rw [List.length_replicate] at this
    simp at this
    omega
theorem fold_le : ∀ (l : List Nat) (acc : Nat), acc ≤ l.foldl (fun acc c => acc * 10 + (c - 48)) acc
  | [], _ => Nat.le_refl _
  | c :: r, acc => Nat.le_trans (by omega) (fold_le r (acc * 10 + (c - 48)))
theorem threes (n : Nat) : 3333 ≤ NumText.digitsVal (List.replicate (n + 4) 51) := fold_le (List.replicate n 51) 3333
theorem fig_three {n : Nat} (h : 4 ≤ n) (hz : n ≤ 4300) : ∃ z : Int, 3333 ≤ z ∧ PySem.intText? (repS "3" n) = some z ∧ (repS "3" n).length ≤ 4300 ∧ (numSeenOf (repS "3" n)).length = (repS "3" n).length := by
  obtain ⟨m, rfl⟩ : ∃ m, n = m + 4 := ⟨n - 4, by omega⟩
  obtain ⟨i1, i2, i3⟩ := fig_val (a := "3") (c := 51) (n := m + 4) (by decide +kernel) (by decide) (by decide) (by omega) hz
  exact ⟨_, Int.ofNat_le.mpr (threes m), i1, i2, i3⟩
end Own

namespace Own
open PySem PySem.Spec PyProof.Rows L2 Evl
section
variable {N : Nat} {K : PySem.W.Frag} {H R : Hp} {Q : VK} {a l p : Addr} {xs : List V}
theorem rep_id {α : Type} (xs : List α) : (List.replicate 1 xs).flatten = xs := by simp
theorem rep_nil {α : Type} (n : Nat) : (List.replicate n ([] : List α)).flatten = [] := by
  induction n with
  | zero => rfl
  | succ n ih => rw [List.replicate_succ, List.flatten_cons, ih]; rfl
theorem rep_ret {k : Int} (h : Tp K H l xs) (h0 : -1000 ≤ k) (h1 : k ≤ 1000) (hz : xs.length ≤ 1000) (q : RetU K (List.replicate k.toNat xs).flatten H Q) : rRepF K (.ref l) (.int k) H Q :=
  ⟨l, k, xs, rfl, rfl, h.sq, h0, h1, hz, fun e => by
    rcases e with rfl | rfl
    · rw [rep_nil] at q
      exact q l H (Ex.refl _) h
    · rw [show (1 : Int).toNat = 1 from rfl, rep_id] at q
      exact q l H (Ex.refl _) h, fun _ _ => q.new (Ex.refl _)⟩
theorem sl_ret {lo hi : Option Int} (h : Tp K H l xs) (q : RetU K (cutV xs lo hi) H Q) : rSlF K (.ref l) lo hi H Q :=
  ⟨l, xs, rfl, h.sq, fun e => by
    have : cutV xs lo hi = xs := by
      unfold cutV
      rw [e.1, e.2, List.drop_zero, Nat.sub_zero, List.take_length]
    rw [this] at q
    exact q l H (Ex.refl _) h, fun _ => q.new (Ex.refl _)⟩
theorem cut_from1 (xs : List V) : cutV xs (some 1) none = xs.drop 1 := by
  unfold cutV
  rw [show (1 : Int) = ((1 : Nat) : Int) from rfl, HT.sIx_nat, HT.sIx_none]
  cases xs with
  | nil => rfl
  | cons x r =>
    rw [show min 1 (x :: r).length = 1 by simp, List.take_of_length_le (by rw [List.length_drop]; omega)]
theorem Deal.off (d : Deal N H a l) (h : H p = none) : p ≠ a ∧ p ≠ l := ⟨fun e => d.dom.1 (e ▸ h), fun e => d.dom.2 (e ▸ h)⟩
theorem Tp.mut {wr : Addr} {ys zs : List V} (h : Tp K R p xs) (hw : R wr = some (.lst ys)) : Tp K (upd R wr (.lst zs)) p xs := by
  rcases h with ⟨o, h1, h2⟩ | h
  · have : p ≠ wr := fun e => by
      rw [e, hw] at h2
      cases h2
    exact .inl ⟨o, h1, by rw [upd_ne this]; exact h2⟩
  · exact .inr h
/-- kinds, when a list is changed -/
theorem Vk.mut {wr : Addr} {ys zs : List V} {v : V} {T : String} (h : Vk K R v T) (hw : R wr = some (.lst ys)) : Vk K (upd R wr (.lst zs)) v T := by
  cases h with
  | non => exact .non
  | bl b => exact .bl b
  | int i => exact .int i
  | str z => exact .str z
  | tup h => exact .tup (h.mut hw)
  | lst h =>
    rename_i p xs
    by_cases e : p = wr
    · subst e
      exact .lst upd_same
    · exact .lst (by rw [upd_ne e]; exact h)
theorem least : ∀ ps : List Int, ps ≠ [] → ∃ m, m ∈ ps ∧ ∀ y, y ∈ ps → m ≤ y
  | [], h => (h rfl).elim
  | [x], _ => ⟨x, by simp, fun y hy => by rw [List.mem_singleton.mp hy]; exact Int.le_refl _⟩
  | x :: z :: r, _ => by
    obtain ⟨m, h1, h2⟩ := least (z :: r) (by simp)
    by_cases c : x ≤ m
    · refine ⟨x, by simp, fun y hy => ?_⟩
      rcases List.mem_cons.mp hy with rfl | h
      · exact Int.le_refl _
      · exact Int.le_trans c (h2 y h)
    · refine ⟨m, List.mem_cons_of_mem _ h1, fun y hy => ?_⟩
      rcases List.mem_cons.mp hy with rfl | h
      · omega
      · exact h2 y h
theorem eqv_tup_nil (ns : List Int) : PyData.eqv (.tuple (ns.map PyData.int)) (.tuple []) = ns.isEmpty := by
  cases ns <;> rfl
theorem sh_tup_ints (ns : List Int) : SeqAt.shaped (.tuple (ns.map PyData.int)) = true := by
  simp [SeqAt.shaped, PyData.canLay0, PyData.depth, PySem.W.ke_canLayAll0, PySem.W.ke_depthAll]
theorem tp_known (h : Tp K H p xs) (d : Deal N H a l) (known : ∀ b o, b ≠ a → b ≠ l → H b = some o → R b = some o) : Tp K R p xs := by
  rcases h.ne d with ⟨n1, n2⟩ | h'
  · rcases h with ⟨o, h1, h2⟩ | h
    · exact .inl ⟨o, h1, known _ _ n1 n2 h2⟩
    · exact .inr h
  · exact h' _
theorem if_skip {c : TT} {t : TS} {D : Ends} {σ : L2.St} (J : Hp → Prop) (after : ∀ H', J H' → D.nx σ H') (h : ∀ nx : Hp → Prop, (∀ H', J H' → nx H') → c σ H fun b H1 => if b = true then t D σ H1 else nx H1) : tIfS c t tNext D σ H := h _ after
theorem if_join {c : TT} {t : TS} {D : Ends} {σ : L2.St} (J : L2.St → Hp → Prop) (after : ∀ σ' H', J σ' H' → D.nx σ' H') (h : ∀ nx : L2.St → Hp → Prop, (∀ σ' H', J σ' H' → nx σ' H') → c σ H fun b H1 => if b = true then t { D with nx := nx } σ H1 else nx σ H1) : tIfS c t tNext D σ H := h _ after
theorem asg_join {te : TE} {i : Nat} {D : Ends} {σ : L2.St} (J : V → Hp → Prop) (after : ∀ v H', J v H' → D.nx (σ.set i (some v)) H') (h : ∀ Qk : VK, (∀ v H', J v H' → Qk v H') → te σ H Qk) : tAsg te (gName i) D σ H := h _ after
/-- both branches written -/
theorem if_both {c : TT} {t u : TS} {D : Ends} {σ : L2.St} (J : L2.St → Hp → Prop) (after : ∀ σ' H', J σ' H' → D.nx σ' H') (h : ∀ nx : L2.St → Hp → Prop, (∀ σ' H', J σ' H' → nx σ' H') → c σ H fun b H1 => if b = true then t { D with nx := nx } σ H1 else u { D with nx := nx } σ H1) : tIfS c t u D σ H := h _ after
end
end Own

/-! Own errors two classes below Exception, whose __init__ says super().__init__(text) and then stores its arguments. -/
namespace PySem
namespace OwX
open PySem.W PySem.Calls PyProof.Rows PySem.HandSPX
abbrev exT : List Value := [.type "Exception", .type "BaseException", .type "object"]
section
open Builtin Builtin.ObjectAttr
variable {prog : Program} {w : World} {A : Around} {E : Value → Shared → Prop} {R : Result → Shared → Prop} {hp : Heap} {g : Array GenState} {d : Drawn} {t : Nat} {os : OsState}
theorem tail2_has {C M : Addr} (X : String) (hX : exT.contains (.type X) = true) : (Value.ref C :: .ref M :: exT).contains (.type X) = true := by
  rw [List.contains_cons, List.contains_cons, hX, Bool.or_true, Bool.or_true]
theorem mro2_has {K : W.Frag} {C M : Addr} {cd : ClassData} (hcd : W.clsIn K C = some cd) (hm : cd.mro = .ref C :: .ref M :: exT) {b : Value} (hb : (Value.ref C :: .ref M :: exT).contains b = true) : W.mroIn K C b = some true := by
  unfold W.mroIn
  rw [hcd, Option.bind_some, hm, if_neg (show ¬ (List.isEmpty (Value.ref C :: .ref M :: exT) = true) from Bool.false_ne_true), hb]
/-- up to the object's own dict -/
theorem osa_two {K : W.Frag} {name : Str} {tk : Tok} {v : Value} {x C M : Addr} {ox : Obj} {od : Option Obj} {cd : ClassData}
    (X : K.In hp) (I : W.InstAt hp x ox C od) (hcd : W.clsIn K C = some cd) (hm : cd.mro = .ref C :: .ref M :: exT) (ha : W.findIn K (.ref C) name = some none)
    (hq : wpAny (model prog w) A.in1 (storeInOwnDict (.ref x) (.ref C) (.str name tk) name v false)
      (fun fin s' => match fin with | .done f => R (.ok f) s' | .again c' => c'.quiet = true ∧ codeAny (model prog w) A c' R s') (fun e s' => R (.error e) s') ⟨hp, g, d, t, os⟩) :
    codeAny (model prog w) A (.call (.builtin "object.__setattr__") ⟨[.ref x, .str name tk, v], []⟩) R ⟨hp, g, d, t, os⟩ := by
  have SF := F.store_object
  have sub : W.Looks (model prog w) hp (isInstance (.ref x) (.type "object")) true := I.type.andThen (W.looks_mroIn X (mro2_has hcd hm (tail2_has "object" (by decide +kernel))))
  refine codeAny_call_builtin SF.slot.plain SF.entry (@W.check_slot (model prog w) _ _ ⟨hp, g, d, t, os⟩ "object.__setattr__" "object" "__setattr__" (.ref x) [.str name tk, v] [] _ SF.kind SF.split sub (SF.args (.ref x) (.str name tk) v) ?_)
  have hmr : W.Looks (model prog w) hp (mroOf (.ref C)) cd.mro := (W.looks_clsIn X hcd).andThen .now
  have L3 : W.Looks (model prog w) hp (storeTaker? none) none := .now
  have hpass : refuseLoop (.ref x) "__setattr__" cd.mro = pure () := by
    rw [hm, refuseLoop_ref, refuseLoop_ref]
    exact F.store_Exception.passes _
  rw [W.osa_eq, refuse_eq]
  refine wpAny_bind (wpAny_bind (I.type.at (wpAny_bind (hmr.at ?_))))
  rw [hpass]
  refine wpAny_pure (wpAny_bind (I.type.at (wpAny_bind ((W.looks_findIn X ha).at (wpAny_bind (L3.at ?_))))))
  exact hq
theorem osa_two_new {K : W.Frag} {name : Str} {tk : Tok} {v : Value} {x C M : Addr} {fv : Array Value} {cd : ClassData}
    (X : K.In hp) (hx : hp.get? x = some { cls := .ref C, data := .fields fv }) (hcd : W.clsIn K C = some cd) (hm : cd.mro = .ref C :: .ref M :: exT) (hh : cd.hasDict = true) (ha : W.findIn K (.ref C) name = some none)
    (hq : ∀ h' tk' dx, (∀ b o, b ≠ x → hp.get? b = some o → h'.get? b = some o) → hp.objs.size ≤ dx → dx ≠ x → h'.get? x = some { cls := .ref C, dict := some dx, data := .fields fv } →
      h'.Ns1 dx (fun y => if y = name then some v else none) → R (.ok (.ret .none)) ⟨h', g, d, tk', os⟩) :
    codeAny (model prog w) A (.call (.builtin "object.__setattr__") ⟨[.ref x, .str name tk, v], []⟩) R ⟨hp, g, d, t, os⟩ := by
  have I : W.InstAt hp x { cls := .ref C, data := .fields fv } C none := ⟨hx, rfl, rfl, trivial⟩
  have hxs : x ≠ hp.objs.size := Nat.ne_of_lt (Heap.lt_size hx)
  refine osa_two X I hcd hm ha ?_
  have hcls : W.Looks (model prog w) hp (classData C) cd := W.looks_clsIn X hcd
  obtain ⟨nm, bs, mro, ns, qn, hd, sn, sb, ab, col, del⟩ := cd
  dsimp only at hh
  subst hh
  unfold storeInOwnDict ownDictForStores
  repeat (first | with_reducible refine HandSPX.store_in_new ?_ ?_ | with_reducible refine wpAny_loadPart_at hx ?_ | with_reducible refine hcls.at ?_ | wp_step)
  · exact ⟨_, #[], _, (Heap.get?_update_ne _ _ _ _ hxs.symm).trans (Heap.get?_push_at rfl rfl), rfl, fun e he => absurd he (by simp), fun _ => rfl⟩
  · intro h' tk' hn' hs
    have hx1 : (hp.push { cls := .type "dict", data := .dict #[] }).get? x = some { cls := .ref C, data := .fields fv } := Heap.get?_push_of_some _ hx
    refine hq h' tk' hp.objs.size (fun b o hb ho => ?_) (Nat.le_refl _) hxs.symm ?_ hn'
    · exact (hs.2 b (Nat.ne_of_lt (Heap.lt_size ho))).trans ((Heap.get?_update_ne _ _ _ _ hb).trans (Heap.get?_push_of_some _ ho))
    · exact (hs.2 x hxs).trans (Heap.get?_update_self _ hx1 rfl)
end
end OwX
end PySem

namespace PySem
namespace OwXat
open PySem.W PySem.Calls PyProof.Rows PySem.HandSPX PySem.OwX
/-! ### the text of __init__, for one field -/
def iA (p1 p2 : Pos) : Arguments := { posonlyargs := [], args := [{ arg := "self", annotation := none, pos := p1 }, { arg := "at", annotation := none, pos := p2 }], vararg := none, kwonlyargs := [], kw_defaults := [], kwarg := none, defaults := [] }
def iS : Scope := { kind := .function, names := [(PySem.Str.ofString "self", .local), (PySem.Str.ofString "at", .local), (PySem.Str.ofString "__class__", .free), (PySem.Str.ofString "super", .globalImplicit)], isGenerator := false, isCoroutine := false, more := [] }
def sSup (msg : Str) (p0 p1 p2 p3 p4 p5 : Pos) : Stmt := .Expr (.Call (.Attribute (.Call (.Name "super" p0) [] [] p1) "__init__" p2) [.Constant (.str msg) 0 p3] [] p4) p5
def sStore (q1 q2 q3 q4 : Pos) : Stmt := .Assign [.Attribute (.Name "self" q1) "at" q2] (.Name "at" q3) q4
/-- what the written part says of such a class at C, over the one at M, and of its __init__ at fI -/
structure OexT (P : Program) (K : Frag) (C M fI : Addr) : Prop where
  cls : ∃ nm q N bs sn sub ab col dd k0 k1 k2 k3 k5, K.lookup C = some (excClassObj nm q C N bs (.ref M :: exT) true sn sub ab col dd k0 k1 k2 k3 k5 "Exception.__new__")
  sa : findIn K (.ref C) "__setattr__" = some (some (.builtin "object.__setattr__"))
  ga : findIn K (.ref C) "__getattribute__" = some (some (.builtin "BaseException.__getattribute__"))
  gg : findIn K (.ref C) "__getattr__" = some none
  noN : findIn K (.ref C) "at" = some none
  iC : findIn K (.ref C) "__init__" = some (some (.ref fI))
  tC : typeIn K (.ref fI) = some (.type "function")
  kC : keepIn K (.ref C) = true
  exC : subIn K (.ref C) (.type "BaseException") = some true
  exE : subIn K (.ref C) (.type "Exception") = some true
  tyC : typeIn K (.ref C) = some (.type "type")
  hdC : hasDictIn K C = true
  te : exmOne K (.ref C) (.ref C) = some true
  sI : alongIn K "__init__" (.ref M :: exT) = some (some (.builtin "Exception.__init__"))
  op : nsIn K cStatics "thirdparty.any" = some none
  sup : nsIn K mainGlobals "super" = some none
  top : (P.main.scope.names.lookup ("super" : Str)).isSome = false
  fn : ∃ (qual : Str) (oc : Value) (od : Option Addr) (doc pm : Value) (an : Option Addr) (cda cc : Addr) (ct : Value) (osl : Array (Option Value)) (msg : Str) (p1 p2 r0 r1 r2 r3 r4 r5 q1 q2 q3 q4 : Pos) (ccl cl : Value) (cdd cld : Option Addr) (ccs csl : Array (Option Value)) (vs : Array Value) (tf : Tok),
    K.lookup fI = some ⟨oc, od, .func (ksFn "__init__" qual (iA p1 p2) [sSup msg r0 r1 r2 r3 r4 r5, sStore q1 q2 q3 q4] iS .none .none doc pm an (.ref cda) ct cc), osl⟩ ∧ codeIn K (.ref cda) qual = true ∧
      K.lookup cda = some ⟨ccl, cdd, .fields vs, ccs⟩ ∧ vs[2]? = some (.str P.main.file tf) ∧ K.lookup cc = some ⟨cl, cld, .cell (some (.ref C)), csl⟩ ∧
      (∀ env : Env, ∃ pl : Sem Bool, eval (.Call (.Attribute (.Call (.Name "super" r0) [] [] r1) "__init__" r2) [.Constant (.str msg) 0 r3] [] r4) env = (do
        let ov ← attributeBase (.Call (.Name "super" r0) [] [] r1) "__init__" env (eval (.Call (.Name "super" r0) [] [] r1) env)
        standAt r2.atName
        let (f, first) ← holding [ov] (getMethod ov "__init__" pl)
        callWith r4 f first (backTo r4 (starEach [.Constant (.str msg) 0 r3] env)) [])) ∧
      (∀ env : Env, swapsWith (.Call (.Attribute (.Call (.Name "super" r0) [] [] r1) "__init__" r2) [.Constant (.str msg) 0 r3] [] r4) none r5.line env = pure false) ∧
      (∀ env : Env, swapsWith (.Name "at" q3) (some (.Attribute (.Name "self" q1) "at" q2)) q4.line env = pure false)
/-- what __init__ leaves of a fresh exception at x -/
structure InitEnd (h h' : Heap) (x C dx t1 : Addr) (v : Value) : Prop where
  keep : ∀ b o, b ≠ x → h.get? b = some o → h'.get? b = some o
  obj : h'.get? x = some { cls := .ref C, dict := some dx, data := .fields #[.ref t1, .none, .none, .none, .bool false, .none] }
  dbig : h.objs.size ≤ dx
  dne : dx ≠ x
  ns : h'.Ns1 dx (fun y => if y = "at" then some v else none)
section
variable {prog : Program} {w : World} {A : Around} {E : Value → Shared → Prop} {R : Result → Shared → Prop} {s : Shared} {K : Frag} {mg mb : Str → Option Value} {C M fI : Addr}
theorem inv_init (T : OexT prog K C M fI) {x t0 : Addr} {v : Value} (X : K.In s.heap) (hlim : s.heap.NoLimit) (hg : s.heap.Ns mainGlobals mg) (hb : s.heap.Ns builtinsNs mb) (hbb : ∀ y : Str, y ≠ "__name__" → mb y = bootBuiltins y)
    (hx : s.heap.get? x = some (excO C t0)) (hnx : K.lookup x = none) (hroom : A.depth < recursionLimit)
    (hq : ∀ h' tk dx t1, InitEnd s.heap h' x C dx t1 v → R (.ok (.ret .none)) { s with heap := h', toks := tk }) :
    codeAny (model prog w) A (.call (.ref fI) ⟨[.ref x, v], []⟩) R s := by
  obtain ⟨qual, oc, od, doc, pm, an, cda, cc, ct, osl, msg, p1, p2, r0, r1, r2, r3, r4, r5, q1, q2, q3, q4, ccl, cl, cdd, cld, ccs, csl, vs, tf, ho, hcd, hcda, hvs, hcc, hev, hsw, hsw2⟩ := T.fn
  obtain ⟨nm, q, N, bs, sn, sub, ab, col, dd, k0, k1, k2, k3, k5, hC⟩ := T.cls
  have hcl : clsIn K C = some { name := nm, bases := bs, mro := .ref C :: .ref M :: exT, ns := N, qualname := q, hasDict := true, slotNames := sn, subclasses := sub, abstract := ab, collection := col, hasDel := false } := by unfold clsIn; rw [hC] <;> rfl
  refine ks_codeAny_call_defAt (fd := ksFn "__init__" qual (iA p1 p2) [sSup msg r0 r1 r2 r3 r4 r5, sStore q1 q2 q3 q4] iS .none .none doc pm an (.ref cda) ct cc) (body := [sSup msg r0 r1 r2 r3 r4 r5, sStore q1 q2 q3 q4]) (binds := [("self", .ref x), ("at", v)])
    hroom (X _ _ ho) rfl hlim (codeRec_of X hcd) rfl (BindsTo.of_eq (by first | rfl | with_unfolding_all rfl)) (show ∀ y ∈ iS.names, y.2 ≠ .cell by decide +kernel) (by simp only [List.mem_cons, List.not_mem_nil, or_false]; rintro y (rfl | rfl) <;> rfl) (fun h1 hns hk => ?_) rfl rfl rfl
  have X1 : K.In h1 := X.keeps hk
  have hx1 := hk _ _ hx
  have hD1 : h1.get? C = some (excClassObj nm q C N bs (.ref M :: exT) true sn sub ab col dd k0 k1 k2 k3 k5 "Exception.__new__") := X1 _ _ hC
  have hxC : x ≠ C := fun e => by
    rw [e, hD1] at hx1
    cases hx1
  have hmC : Looks (model prog w) h1 (isSubtype (.ref C) (.ref C)) true := looks_mroIn X1 (OwX.mro2_has hcl rfl (by simp))
  have hmg : mg "super" = none := mg_none_of X hg T.sup
  generalize hen : callEnv (ksFn "__init__" qual (iA p1 p2) [sSup msg r0 r1 r2 r3 r4 r5, sStore q1 q2 q3 q4] iS .none .none doc pm an (.ref cda) ct cc) s.heap.objs.size fI = en
  have en1 : en.scope = iS := by rw [← hen] <;> rfl
  have en2 : en.func = some fI := by rw [← hen] <;> rfl
  have en3 : en.code = .ref cda := by rw [← hen] <;> rfl
  have en4 : en.globals = mainGlobals := by rw [← hen] <;> rfl
  have en5 : en.builtins = builtinsNs := by rw [← hen] <;> rfl
  have en6 : en.cells = [(PySem.Str.ofString "__class__", cc)] := by rw [← hen] <;> rfl
  have en7 : en.locals = s.heap.objs.size := by rw [← hen] <;> rfl
  have kd : ∀ y : Str, en.kindOf y = iS.names.lookup y := fun y => by
    show en.scope.names.lookup y = _
    rw [en1]
  obtain ⟨pl, hev1⟩ := hev en
  -- super()
  refine ks_wpAt_execs_cons (ks_wpAt_Expr_any (ks_wpAt_MethodCall (pl := pl) (ks_wpAt_super_base (hks := by rw [kd]; decide +kernel) (hkc := by rw [kd]; decide +kernel) (hat := by decide) (hfu := en2) (hf := X1 _ _ ho) (hfd := rfl) (hp := rfl) (hco := en3) (hcc := X1 _ _ hcda) (hoc := rfl) (hvs := hvs) (hfile := by simp) (htop := T.top) ?_) hev1) (by unfold interactive; rw [en1]; rfl) (hsw en))
  have kf : en.scope.kind = .function := by rw [en1] <;> rfl
  refine ks_loadName_global kf (by rw [kd]; decide +kernel) (loadGlobal_builtin (by rw [en4]; exact hg.keeps hk) hmg (by rw [en5]; exact hb.keeps hk) ((hbb _ (by decide +kernel)).trans (by decide +kernel)) ⟨rfl, ?_⟩)
  refine wpAny_loadName_free kf (by rw [kd]; decide +kernel) (by rw [en6]; rfl) ⟨_, X1 _ _ hcc, rfl⟩ ?_
  refine wpAny_loadName_local (v := .ref x) kf (show en.kindOf "self" = some .local by rw [kd]; decide +kernel) (by rw [en7]; exact hns) (by rfl) ?_
  refine ks_wpAny_isType_cls hD1 rfl ⟨rfl, ?_⟩
  refine ks_wpAny_call_super hD1 rfl hx1 rfl (fun c e => by cases e) hmC (fun h2 hso k2 => ?_)
  have X2 : K.In h2 := X1.keeps k2
  have hx2 := k2 _ _ hx1
  have I2 : InstAt h2 x (excO C t0) C none := ⟨hx2, rfl, rfl, trivial⟩
  refine ESX.getMethod_super hso (looks_opaque X2 T.op) (l₀ := .ref C :: .ref M :: exT) (l := .ref M :: exT) ?_ (by simp [List.dropWhile_cons]) X2 T.sI hxC (by decide) (I2.type.andThen (looks_subIn X2 T.exE)) ?_
  · exact (looks_clsIn X2 hcl).andThen .now
  refine ESX.callWith_bound (x := x) (first := []) ?_
  refine Calls.spliced_cons (Calls.Constant_str (pos := r3) (k := 0) (Calls.spliced_nil ?_))
  have k3 : ∀ b o, h2.get? b = some o → (h2.push (ESX.bw x)).get? b = some o := fun b o e => Heap.get?_push_of_some _ e
  refine ⟨Heap.get?_push_size _ rfl, ?_⟩
  refine ESX.call_bw (C := C) (e := x) (t0 := t0) (k3 _ _ (k2 _ _ hD1)) (k3 _ _ hx2) (Heap.get?_push_size _ rfl) (by rw [sizeLine_eq]; show (1 : Nat) ≤ 16777216; decide) (fun h4 t1 k4 hx4 => ?_)
  have kk : ∀ b o, b ≠ x → s.heap.get? b = some o → h4.get? b = some o := fun b o hb e => k4 b o hb (k3 b o (k2 b o (hk b o e)))
  have X4 : K.In h4 := fun a o e => kk a o (fun z => by
    rw [z, hnx] at e
    cases e) (X a o e)
  have hns4 : h4.Ns en.locals (fun y => [(PySem.Str.ofString "self", Value.ref x), (PySem.Str.ofString "at", v)].reverse.lookup y) := by
    rw [en7]
    obtain ⟨o, es, ep, e1, e2⟩ := id hns
    exact ⟨o, es, ep, k4 _ _ (fun z => absurd (Heap.lt_size hx) (by rw [← z]; exact Nat.lt_irrefl _)) (k3 _ _ (k2 _ _ e1)), e2⟩
  show wpAt _ _ _ _ _ _ _
  refine wpAt_of_wpAny ?_
  -- self."at" = "at"
  show wpAny _ _ (execs _ _) _ _ _
  refine wpAny_execs_cons (plainObj_wpAny_Assign_Attribute ?_ (hsw2 en))
  refine wpAny_Name (wpAny_loadName_local (v := v) kf (by rw [kd]; decide +kernel) hns4 (by rfl) ?_) (by decide)
  refine wpAny_Name (wpAny_loadName_local (v := .ref x) kf (by rw [kd]; decide +kernel) hns4 (by rfl) ?_) (by decide)
  refine set_plain X4 (ox := excO C t1) (od := none) ⟨hx4, rfl, rfl, trivial⟩ T.sa ?_
  refine OwX.osa_two_new X4 hx4 hcl rfl rfl T.noN (fun h5 tk5 dx k5 dn dne hx5 hn5 => ?_)
  show wpAny _ _ (execs _ _) _ _ _
  refine wpAny_execs_nil (hq h5 tk5 dx t1 ⟨fun b o hb e => k5 b o hb (kk b o hb e), hx5, ?_, dne, hn5⟩)
  obtain ⟨o, es, ep, e1, e2⟩ := hns4
  rw [en7] at e1
  exact Nat.le_trans (Nat.le_of_lt (Heap.lt_size e1)) dn
/-- a made error: what stands at e (its dict at d) -/
structure Made (h h' : Heap) (e C d : Addr) (v : Value) : Prop where
  keep : ∀ b o, h.get? b = some o → h'.get? b = some o
  new : h.objs.size ≤ e
  obj : ∃ oe vs, h'.get? e = some oe ∧ oe.cls = .ref C ∧ oe.dict = some d ∧ oe.data = .fields vs ∧ vs[1]? = some .none
  dbig : h.objs.size ≤ d
  dne : d ≠ e
  ns : h'.Ns1 d (fun y => if y = "at" then some v else none)
theorem inv_made (T : OexT prog K C M fI) {v : Value} (X : K.In s.heap) (hlim : s.heap.NoLimit) (hg : s.heap.Ns mainGlobals mg) (hb : s.heap.Ns builtinsNs mb) (hbb : ∀ y : Str, y ≠ "__name__" → mb y = bootBuiltins y) (hroom : A.depth + 1 < recursionLimit)
    (hq : ∀ h' tk e d, Made s.heap h' e C d v → R (.ok (.ret (.ref e))) { s with heap := h', toks := tk }) :
    codeAny (model prog w) A (.call (.ref C) ⟨[v], []⟩) R s := by
  obtain ⟨nm, q, N, bs, sn, sub, ab, col, dd, k0, k1, k2, k3, k5, hC⟩ := T.cls
  obtain ⟨hp, g, dr, tk, os⟩ := s
  have k : ∀ b o, hp.get? b = some o → ((hp.push (kdv_tup [v])).push (excO C hp.objs.size)).get? b = some o := fun b o e => Heap.get?_push_of_some _ (Heap.get?_push_of_some _ e)
  have hget : ((hp.push (kdv_tup [v])).push (excO C hp.objs.size)).get? (hp.objs.size + 1) = some (excO C hp.objs.size) := by heap_get
  have hnx : K.lookup (hp.objs.size + 1) = none := by
    cases e : K.lookup (hp.objs.size + 1) with
    | none => rfl
    | some o =>
      have z : hp.get? (hp.objs.size + 1) = some o := X _ _ e
      exact absurd (Nat.lt_of_succ_lt (Heap.lt_size z)) (Nat.lt_irrefl _)
  refine call_own F.excBase_Exception (bm := .ref M :: exT) (fun Y => by rw [List.contains_cons]; rfl) (X _ _ hC) (looks_findIn X T.iC) (fun self => bind_fn X self T.tC) (by rw [sizeLine_eq]; show (1 : Nat) ≤ 16777216; decide) ?_
  refine inv_init (s := ⟨(hp.push (kdv_tup [v])).push (excO C hp.objs.size), g, dr, tk, os⟩) T (X.keeps k) (hlim.keeps k) (hg.keeps k) (hb.keeps k) hbb hget hnx ?_ fun h' tk' dx t1 ⟨k', hx, dn, dne, hns⟩ => ?_
  · show A.depth + 1 < recursionLimit
    exact hroom
  · have old : ∀ b o, hp.get? b = some o → h'.get? b = some o := fun b o e => k' b o (Nat.ne_of_lt (Nat.lt_succ_of_lt (Heap.lt_size e))) (k b o e)
    have z : hp.objs.size + 1 + 1 ≤ dx := by
      have q := dn
      rw [Heap.size_push, Heap.size_push] at q
      exact q
    exact ⟨rfl, hq h' tk' (hp.objs.size + 1) dx ⟨old, Nat.le_succ _, ⟨_, _, hx, rfl, rfl, rfl, rfl⟩, Nat.le_trans (Nat.le_trans (Nat.le_succ _) (Nat.le_succ _)) z, dne, hns⟩⟩
end
end OwXat
end PySem

namespace Own
open PySem PySem.Spec PyProof.Rows L2
theorem relO_at {v : V} {v' : Value} (r : RelV v v') (f : Str) : RelO (List.lookup f [(("at" : Str), v)]) (if f = "at" then some v' else none) := by
  by_cases hw : f = "at"
  · subst hw
    rw [if_pos rfl]
    have q : List.lookup ("at" : Str) [(("at" : Str), v)] = some v := by simp [List.lookup]
    rw [q]
    exact r
  · rw [if_neg hw]
    have qw : (f == ("at" : Str)) = false := by simpa using hw
    have q2 : List.lookup f [(("at" : Str), v)] = none := by simp [List.lookup, qw]
    rw [q2]
    trivial
/-- C(e) -/
def tMk_at (C : Addr) (ta : TA) : L2.St → Hp → XK → Prop := fun σ H Q => ta σ H fun vs H1 => ∃ v, vs = [v] ∧ ∀ d, H1 d = none → Q (.ref C) (some d) (upd H1 d (.xd [(("at" : Str), v)]))
section
variable {X : Cx} {C M fI : Addr} {nm : Str}
theorem pmk_at {a : Expr} {ta : TA} {p pos : Pos} {k : Nat} (T : PySem.OwXat.OexT X.prog X.K C M fI) (gC : X.mg nm = some (.ref C)) (hr : Room k X.A) (ha : PA X [a] ta) (hg : Gl X nm) (hdb : (nm == ("__debug__" : Str)) = false := by decide)
    (he : starEach (a :: []) X.env = (false, eval a X.env) :: starEach [] X.env := by rfl) (hpl : (backTo pos (starEach [] X.env)).any (·.1) = false := by rfl) :
    PMk X (.Call (.Name nm p) [a] [] pos) (tMk_at C ta) := by
  intro pins s σ H Q I h
  refine wpAny_Call_Name_kw (ld_glob I hg gC ?_ hdb)
  refine PySem.W.callWith_K (h₀ := X.base) I.ok.mod.kin T.kC (thn (ha.run pos pins s σ H _ I h) fun us s1 hh => ?_) he hpl
  obtain ⟨vs, H1, I1, r1, v, ev, q1⟩ := hh
  subst ev
  refine ⟨I1.kIn, ?_⟩
  cases r1 with
  | cons rv rn =>
    rename_i v' us'
    cases rn
    show wpAny _ _ (call (.ref C) [v']) _ _ _
    have hlim := I1.nolimit
    obtain ⟨mb, hb, hbb⟩ := I1.ok.mod.blt
    have hg1 := I1.ok.mod.glob.keeps I1.bk
    have hb1 := hb.keeps I1.bk
    obtain ⟨hp, g, dr, tk, os⟩ := s1
    refine wpAny_call (PySem.OwXat.inv_made T I1.kIn hlim hg1 hb1 hbb (by have := hr.dp; omega) fun h' tk' e d M => ?_)
    show MkP X pins σ Q (.ref e) ⟨h', g, dr, tk', os⟩
    obtain ⟨oe, fv, hoe, hc, hd, hdat, h1⟩ := M.obj
    have hns := M.ns
    obtain ⟨G', g1, g2⟩ := restrict h' fun b => decide (b ≠ e)
    have gk : ∀ b, b ≠ e → G'.get? b = h'.get? b := fun b hb => g1 b (decide_eq_true hb)
    have ge : G'.get? e = none := g2 e (by simp)
    have old : ∀ b o, hp.get? b = some o → G'.get? b = some o := fun b o q => (gk b (Nat.ne_of_lt (Nat.lt_of_lt_of_le (Heap.lt_size q) M.new))).trans (M.keep b o q)
    have ob : ObjOk X.prog X.w (upd H1 d (.xd [(("at" : Str), v)])) G' d (.xd [(("at" : Str), v)]) :=
      ⟨_, hns.at (fun o q => (gk d M.dne).trans q), fun f => relO_at rv f⟩
    have J : Inv X pins σ (upd H1 d (.xd [(("at" : Str), v)])) ⟨G', g, dr, tk', os⟩ := I1.laid (t' := tk') old M.dbig ob
    refine ⟨e, oe, fv, ⟨G', g, dr, tk', os⟩, _, .ref C, some d, rfl, J, fun b o q => ?_, ge, hoe, ⟨hc, hd⟩, hdat, h1, ?_, rfl, I1.bare, raises_own T.exC T.tyC, q1 d (I1.hok.fresh M.dbig)⟩
    · by_cases hb : b = e
      · have q' : G'.get? b = some o := q
        rw [hb, ge] at q'
        cases q'
      · exact (gk b hb).symm.trans q
    · rw [upd_ne (Ne.symm M.dne)]
      exact I1.hok.fresh M.new
/-- e."at" of the exception that the suite holds -/
def tBy_at (C : Addr) (a : Addr) (cls : Value) (d : Option Addr) (te : TE) : TE := fun σ H Q => te σ H fun x H1 => x = .ref a ∧ cls = .ref C ∧ ∃ (dd : Addr) (v : V), d = some dd ∧ H1 dd = some (.xd [(("at" : Str), v)]) ∧ Q v H1
theorem pe_by_at {a : Addr} {oe : Obj} {cls : Value} {d : Option Addr} {pn : List (Addr × Obj)} {e : Expr} {te : TE} {pos : Pos} (T : PySem.OwXat.OexT X.prog X.K C M fI) (hz : Zc cls d oe) (hf : ∃ vs, oe.data = .fields vs) (he : PE (X.suite a ((a, oe) :: pn)) e te)
    (hb : attributeBase e "at" X.env (eval e X.env) = eval e X.env := by rfl) :
    PE (X.suite a ((a, oe) :: pn)) (.Attribute e "at" pos) (tBy_at C a cls d te) := by
  refine ⟨fun pins s σ H Q I h => ?_⟩
  refine attr_of hb (thn (he.run pins s σ H _ I h) fun u s1 hh => ?_)
  obtain ⟨x, H1, I1, rx, ex, ec, dd, v, ed, ea, q⟩ := hh
  subst ex
  obtain rfl : u = Value.ref a := rx
  subst ec
  subst ed
  obtain ⟨ha, _⟩ := I1.pin (a, oe) (List.mem_append_left _ List.mem_cons_self)
  obtain ⟨vs, hd⟩ := hf
  have hx : ObjOk X.prog X.w H1 s1.heap dd (.xd [(("at" : Str), v)]) := I1.hok dd _ ea
  obtain ⟨mA, hns, hr⟩ := hx
  obtain ⟨od, ho, hl⟩ := lookIn_ns hns
  have l : List.lookup ("at" : Str) [(("at" : Str), v)] = some v := by simp [List.lookup]
  obtain ⟨u, hu, ru⟩ := RelO.some_of (v := v) (o := mA "at") (by rw [← l]; exact hr "at")
  have J : PySem.W.InstAt s1.heap a oe C (some od) := ⟨ha, hz.1, by unfold PySem.W.notCls; rw [hd] <;> rfl, by rw [hz.2]; exact ho⟩
  exact PySem.HandSPX.exc_get I1.kIn J T.ga T.gg T.exC (PySem.W.findObj_own T.hdC T.noN rfl (by rw [hl, hu])) (handed_of ru) ⟨v, H1, I1.tok _, ru, q⟩
end
end Own

/-! The head's facts, with the statics beside, and one's own exceptions. -/
namespace Own
open PySem PySem.Spec PyProof.Rows L2
open He (ga ma fAd eqO eqO_ok ba)
abbrev ExW : Type := Option (Str × Str × Arguments × FuncBody × Scope × Addr × List Str × Addr)
def exW (K : PySem.W.Frag) (x : Str) : ExW := match K.lookup (ma K (ga K x) "__init__") with
  | some ⟨_, _, .func fd, _⟩ => some (fd.name, fd.qualname, fd.params, fd.body, fd.scope, fd.globals, fd.closure.map (·.1), fd.builtins)
  | _ => none
/-- an own exception: its name, its base's name, its field, its __init__ -/
structure ExD where
  name : Str
  base : Str
  field : Str
  qual : Str
  params : Arguments
  body : List Stmt
  scope : Scope
def ExD.val (e : ExD) : ExW := some ("__init__", e.qual, e.params, .stmts e.body, e.scope, mainGlobals, ["__class__"], builtinsNs)
/-- a class one above another, both errors -/
def clsB (K : PySem.W.Frag) (C M : Addr) : Bool := match K.lookup C with
  | some ⟨.type "type", _, .cls cd, sl⟩ => (match sl.toList with
    | [_, _, _, _, some (.builtin n), _] => decide (cd.mro = .ref C :: .ref M :: PySem.OwX.exT) && decide (n = "Exception.__new__") && cd.hasDict && !cd.hasDel
    | _ => false)
  | _ => false
theorem clsB_ok {K : PySem.W.Frag} {C M : Addr} (h : clsB K C M = true) : ∃ nm q N bs sn sub ab col dd k0 k1 k2 k3 k5, K.lookup C = some (excClassObj nm q C N bs (.ref M :: PySem.OwX.exT) true sn sub ab col dd k0 k1 k2 k3 k5 "Exception.__new__") := by
  unfold clsB at h
  split at h
  · rename_i dd cd sl ho
    split at h
    · rename_i k0 k1 k2 k3 n k5 hs
      simp only [Bool.and_eq_true, decide_eq_true_eq, Bool.not_eq_true'] at h
      obtain ⟨⟨⟨hm, rfl⟩, hd⟩, hdel⟩ := h
      obtain ⟨nm, bs, mro, ns, qn, hdd, sn, sub, ab, col, del⟩ := cd
      dsimp only at hm hd hdel
      subst hm hd hdel
      have hsl : sl = #[k0, k1, k2, k3, some (.builtin "Exception.__new__"), k5] := by
        obtain ⟨l⟩ := sl
        simp only at hs
        rw [hs]
      subst hsl
      exact ⟨nm, qn, ns, bs, sn, sub, ab, col, dd, k0, k1, k2, k3, k5, ho⟩
    · cases h
  · cases h
/-- its __init__'s code, its cell -/
def initB (K : PySem.W.Frag) (file qual : Str) (C fI : Addr) : Bool := match K.lookup fI with
  | some ⟨_, _, .func fd, _⟩ => (match fd.defaults, fd.kwdefaults, fd.code, fd.closure with
    | .none, .none, .ref cda, [(_, cc)] => PySem.W.codeIn K (.ref cda) qual && (match K.lookup cda with
      | some ⟨_, _, .fields vs, _⟩ => (match (vs[2]? : Option Value) with
        | some (.str z _) => decide (z = file)
        | _ => false)
      | _ => false) && (match K.lookup cc with
      | some ⟨_, _, .cell (some (.ref D)), _⟩ => decide (D = C)
      | _ => false)
    | _, _, _, _ => false)
  | _ => false
theorem initB_ok {K : PySem.W.Frag} {file : Str} {C : Addr} {x : Str} {e : ExD} (h : initB K file e.qual C (ma K (ga K x) "__init__") = true) (w : exW K x = e.val) :
    ∃ (oc : Value) (od : Option Addr) (doc pm : Value) (an : Option Addr) (cda cc : Addr) (ct : Value) (osl : Array (Option Value)) (ccl cl : Value) (cdd cld : Option Addr) (ccs csl : Array (Option Value)) (vs : Array Value) (tf : Tok),
      K.lookup (ma K (ga K x) "__init__") = some ⟨oc, od, .func (PySem.W.ksFn "__init__" e.qual e.params e.body e.scope .none .none doc pm an (.ref cda) ct cc), osl⟩ ∧ PySem.W.codeIn K (.ref cda) e.qual = true ∧
        K.lookup cda = some ⟨ccl, cdd, .fields vs, ccs⟩ ∧ vs[2]? = some (.str file tf) ∧ K.lookup cc = some ⟨cl, cld, .cell (some (.ref C)), csl⟩ := by
  unfold initB at h
  unfold exW at w
  split at h
  · rename_i oc od fd osl ho
    rw [ho] at w
    have w2 : (some (fd.name, fd.qualname, fd.params, fd.body, fd.scope, fd.globals, fd.closure.map (·.1), fd.builtins) : ExW) = e.val := w
    obtain ⟨n1, n2, n3, n4, n5, n6, n7, n8, n9, n10, n11, n12, n13, n14, n15⟩ := fd
    dsimp only at h w2
    split at h
    · rename_i cda q cc
      rename_i e1 e2 e3 e4
      unfold ExD.val at w2
      simp only [Option.some.injEq, Prod.mk.injEq, List.map_cons, List.map_nil, List.cons.injEq, and_true] at w2
      obtain ⟨rfl, rfl, rfl, rfl, rfl, rfl, rfl, rfl⟩ := w2
      simp only [Bool.and_eq_true] at h
      obtain ⟨⟨h1, h2⟩, h3⟩ := h
      split at h2
      · rename_i ccl cdd vs ccs hc
        split at h2
        · rename_i z tf hz
          obtain rfl := of_decide_eq_true h2
          split at h3
          · rename_i cl cld D csl hcc
            obtain rfl := of_decide_eq_true h3
            exact ⟨oc, od, _, _, _, cda, cc, _, osl, ccl, cl, cdd, cld, ccs, csl, vs, tf, ho, h1, hc, hz, hcc⟩
          · cases h3
        · cases h2
      · cases h2
    · cases h
  · cases h
end Own

/-! .. the Hook, what it says. -/
namespace Own
open PySem PySem.Spec PyProof.Rows L2
open He (ga ma fAd eqO eqO_ok ba)
def ExD.ok (file : Str) (K : PySem.W.Frag) (e : ExD) : Bool :=
  clsB K (ga K e.name) (ga K e.base) && (initB K file e.qual (ga K e.name) (ma K (ga K e.name) "__init__") && (eqO (PySem.W.findIn K (.ref (ga K e.name)) "__setattr__") (some (some (.builtin "object.__setattr__"))) &&
  (eqO (PySem.W.findIn K (.ref (ga K e.name)) "__getattribute__") (some (some (.builtin "BaseException.__getattribute__"))) && (eqO (PySem.W.findIn K (.ref (ga K e.name)) "__getattr__") (some none) &&
  (eqO (PySem.W.findIn K (.ref (ga K e.name)) e.field) (some none) && (eqO (PySem.W.findIn K (.ref (ga K e.name)) "__init__") (some (some (.ref (ma K (ga K e.name) "__init__")))) &&
  (decide (PySem.W.typeIn K (.ref (ma K (ga K e.name) "__init__")) = some (.type "function")) && (PySem.W.keepIn K (.ref (ga K e.name)) && (decide (PySem.W.subIn K (.ref (ga K e.name)) (.type "BaseException") = some true) &&
  (decide (PySem.W.subIn K (.ref (ga K e.name)) (.type "Exception") = some true) && (decide (PySem.W.typeIn K (.ref (ga K e.name)) = some (.type "type")) && (PySem.W.hasDictIn K (ga K e.name) &&
  (decide (PySem.W.exmOne K (.ref (ga K e.name)) (.ref (ga K e.name)) = some true) && (eqO (PySem.W.alongIn K "__init__" (.ref (ga K e.base) :: PySem.OwX.exT)) (some (some (.builtin "Exception.__init__"))) &&
  eqO (PySem.W.nsIn K mainGlobals "super") (some none)))))))))))))))
def statB (K : PySem.W.Frag) : Bool := eqO (PySem.W.nsIn K cStatics "sys.int_max_str_digits") (some none) && eqO (PySem.W.nsIn K cStatics "thirdparty.any") (some none)
abbrev AlE : Type := He.AlD × Bool × List ExW
def obsE (file : Str) (fa : List He.Fa) (fn : List He.DefD) (ex : List ExD) (K : PySem.W.Frag) : AlE := (He.obsD fa fn K, statB K && ex.all (fun e => e.ok file K), ex.map fun e => exW K e.name)
def valE (fn : List He.DefD) (ex : List ExD) : AlE := (He.valD fn, true, ex.map ExD.val)
def SaysE (file : Str) (fa : List He.Fa) (fn : List He.DefD) (ex : List ExD) (K : PySem.W.Frag) : Prop := obsE file fa fn ex K = valE fn ex
def obsEG (file : Str) (n : Nat) (fa : List He.Fa) (fn : List He.DefD) (ex : List ExD) (g : Addr → Option Obj) : AlE := obsE file fa fn ex (He.frG g (cStatics :: He.asD g n))
def hookE (file : Str) (n : Nat) (fa : List He.Fa) (fn : List He.DefD) (ex : List ExD) : PySem.W.Hook where
  α := AlE
  obs := fun s => obsEG file n fa fn ex s.heap.get?
  val := fun _ => valE fn ex
  says := fun _ h => ∃ K : PySem.W.Frag, K.In h ∧ SaysE file fa fn ex K
  of := fun _ _ e => ⟨_, He.frG_in, e⟩
  keeps := fun _ _ _ ⟨K, hK, c⟩ k => ⟨K, PySem.W.Frag.In.keeps hK k, c⟩
theorem obsEG_eq {file : Str} {n : Nat} {fa : List He.Fa} {fn : List He.DefD} {ex : List ExD} {g : Addr → Option Obj} {s : Shared} (h : ∀ a, g a = s.heap.get? a) : obsEG file n fa fn ex g = (hookE file n fa fn ex).obs s := by
  have e : g = s.heap.get? := funext h
  rw [e] <;> rfl
section
variable {file : Str} {fa : List He.Fa} {fn : List He.DefD} {ex : List ExD} {K : PySem.W.Frag}
theorem SaysE.saysD (c : SaysE file fa fn ex K) : He.SaysD fa fn K := congrArg (fun z : AlE => z.1) c
theorem SaysE.st (c : SaysE file fa fn ex K) : statB K = true := (ba (show (statB K && ex.all (fun e => e.ok file K)) = true from congrArg (fun z : AlE => z.2.1) c)).1
theorem SaysE.ex_ (c : SaysE file fa fn ex K) (i : Nat) {e : ExD} (h : ex[i]? = some e := by rfl) : e.ok file K = true ∧ exW K e.name = e.val := by
  have c2 := (ba (show (statB K && ex.all (fun e => e.ok file K)) = true from congrArg (fun z : AlE => z.2.1) c)).2
  have e1 : ex.map (fun e => exW K e.name) = ex.map ExD.val := congrArg (fun z : AlE => z.2.2) c
  have e2 : (ex.map fun e => exW K e.name)[i]? = (ex.map ExD.val)[i]? := by rw [e1]
  rw [List.getElem?_map, List.getElem?_map, h] at e2
  exact ⟨List.all_eq_true.mp c2 e (List.mem_of_getElem? h), Option.some.inj e2⟩
theorem SaysE.digits (c : SaysE file fa fn ex K) : PySem.W.nsIn K cStatics "sys.int_max_str_digits" = some none := eqO_ok (ba c.st).1
/-- one of at -/
def exAt (nm base msg qual : Str) (p1 p2 r0 r1 r2 r3 r4 r5 q1 q2 q3 q4 : Pos) : ExD := ⟨nm, base, "at", qual, PySem.OwXat.iA p1 p2, [PySem.OwXat.sSup msg r0 r1 r2 r3 r4 r5, PySem.OwXat.sStore q1 q2 q3 q4], PySem.OwXat.iS⟩
theorem oex_at {P : Program} {nm base msg qual : Str} {p1 p2 r0 r1 r2 r3 r4 r5 q1 q2 q3 q4 : Pos} (st : statB K = true) (c : (exAt nm base msg qual p1 p2 r0 r1 r2 r3 r4 r5 q1 q2 q3 q4).ok P.main.file K = true ∧ exW K nm = (exAt nm base msg qual p1 p2 r0 r1 r2 r3 r4 r5 q1 q2 q3 q4).val)
    (top : (P.main.scope.names.lookup ("super" : Str)).isSome = false)
    (h1 : ∀ env : Env, ∃ pl : Sem Bool, eval (.Call (.Attribute (.Call (.Name "super" r0) [] [] r1) "__init__" r2) [.Constant (.str msg) 0 r3] [] r4) env = (do
        let ov ← attributeBase (.Call (.Name "super" r0) [] [] r1) "__init__" env (eval (.Call (.Name "super" r0) [] [] r1) env)
        standAt r2.atName
        let (f, first) ← holding [ov] (getMethod ov "__init__" pl)
        callWith r4 f first (backTo r4 (starEach [.Constant (.str msg) 0 r3] env)) []))
    (h2 : ∀ env : Env, swapsWith (.Call (.Attribute (.Call (.Name "super" r0) [] [] r1) "__init__" r2) [.Constant (.str msg) 0 r3] [] r4) none r5.line env = pure false)
    (h3 : ∀ env : Env, swapsWith (.Name "at" q3) (some (.Attribute (.Name "self" q1) "at" q2)) q4.line env = pure false) :
    PySem.OwXat.OexT P K (ga K nm) (ga K base) (ma K (ga K nm) "__init__") := by
  obtain ⟨c, w⟩ := c
  obtain ⟨c1, c⟩ := ba c
  obtain ⟨c2, c⟩ := ba c
  obtain ⟨c3, c⟩ := ba c
  obtain ⟨c4, c⟩ := ba c
  obtain ⟨c5, c⟩ := ba c
  obtain ⟨c6, c⟩ := ba c
  obtain ⟨c7, c⟩ := ba c
  obtain ⟨c8, c⟩ := ba c
  obtain ⟨c9, c⟩ := ba c
  obtain ⟨c10, c⟩ := ba c
  obtain ⟨c11, c⟩ := ba c
  obtain ⟨c12, c⟩ := ba c
  obtain ⟨c13, c⟩ := ba c
  obtain ⟨c14, c⟩ := ba c
  obtain ⟨c15, c16⟩ := ba c
  refine ⟨clsB_ok c1, eqO_ok c3, eqO_ok c4, eqO_ok c5, eqO_ok c6, eqO_ok c7, of_decide_eq_true c8, c9, of_decide_eq_true c10, of_decide_eq_true c11, of_decide_eq_true c12, c13, of_decide_eq_true c14, eqO_ok c15, eqO_ok (ba st).2, eqO_ok c16, top, ?_⟩
  obtain ⟨oc, od, doc, pm, an, cda, cc, ct, osl, ccl, cl, cdd, cld, ccs, csl, vs, tf, g1, g2, g3, g4, g5⟩ := initB_ok c2 w
  exact ⟨_, oc, od, doc, pm, an, cda, cc, ct, osl, msg, p1, p2, r0, r1, r2, r3, r4, r5, q1, q2, q3, q4, ccl, cl, cdd, cld, ccs, csl, vs, tf, g1, g2, g3, g4, g5, h1, h2, h3⟩
end
end Own

/-! tuple(range(n)); comprehensions that draw. -/
namespace Own
open PySem PySem.Spec PyProof.Rows L2 Evl
def tTupRange (te : TE) : TE := fun σ H Q => tRg1 te σ H fun a b H1 => RgOk a b ∧ NewT (rgV a b) H1 Q
section
variable {X : Cx}
theorem pe_tuple_range {e : Expr} {te : TE} {p pos p2 pos2 : Pos} (hm : X.mg "tuple" = none) (hm2 : X.mg "range" = none) (he : PE X e te) (hc : X.calm = true := by rfl) (hg : Gl X "tuple" := by rfl) (hg2 : Gl X "range" := by rfl)
    (na : starEach [e] X.env = (false, eval e X.env) :: starEach [] X.env := by rfl) (na2 : starEach [.Call (.Name "range" p2) [e] [] pos2] X.env = (false, eval (.Call (.Name "range" p2) [e] [] pos2) X.env) :: starEach [] X.env := by rfl) :
    PE X (.Call (.Name "tuple" p) [.Call (.Name "range" p2) [e] [] pos2] [] pos) (tTupRange te) := by
  have hr0 : PRg X (.Call (.Name "range" p2) [e] [] pos2) (tRg1 te) := prg_1 hg2 hm2 he na
  refine ⟨fun pins s σ H Q I h => ?_⟩
  refine Call_ (ld_blt I hg hm boot_tuple (PyProof.Rows.callWith_type1 (args_cons (thn (hr0 pins _ σ H _ (I.tok _) h) fun x s1 ⟨r, a, b, t, u, v, H1, ex, hr, I1, ok, q⟩ => args_nil ?_) na2) na2))
  subst ex
  obtain ⟨b1, b2, b3, b4, b5⟩ := ok
  refine call_tuple_range (n := (b - a).toNat) (I1.ok.hd hc) hr (small_one b1 b2 b3 b4) (rangeSize_nat a b) b5 fun h' tk acc hk hi => ?_
  have I2 : Inv X pins σ H1 { s1 with heap := h', toks := tk } := I1.kept hk
  have z := newT_end (tk := tk) I2 (vals_rg hi) (by rw [rgV_length, sizeLine_eq]; omega) q
  rw [Array.toArray_toList] at z
  exact z
end
section
variable {N : Nat} {a l : Addr} {R H : Hp} {J : It} {n : Nat} {G : Hp → Prop} {Y : Nat → Hp → V → Hp → Prop} {g : TG} {tt : TT} {te : TE} {vs : List Nat} {σ : L2.St}
/-- a comprehension within which draws are made -/
theorem lcW {Q : Addr → Hp → Prop} (S : Nat → List V → Hp → Prop) (w : Walk J n G Y) (hw : Wl N a l R H) (h0 : ∀ D, R D = none → S 0 [] (upd R D (.lst []))) (hG : ∀ Rd H', Ex R Rd → Wl N a l Rd H' → G H') (lenb : ∀ i acc Rd, S i acc Rd → acc.length ≤ 40000)
    (turn : ∀ i D acc Rd H1 x H2, i < n → Ex R Rd → Wl N a l Rd H1 → R D = none → Rd D = some (.lst acc) → S i acc Rd → Y i H1 x H2 → ∀ (K1 : VK) (K0 : Hp → Prop),
      (∀ y R5 H5, Ex R R5 → Wl N a l R5 H5 → R5 D = some (.lst acc) → S (i + 1) (acc ++ [y]) (upd R5 D (.lst (acc ++ [y]))) → K1 y H5) → (∀ R5 H5, Ex R R5 → Wl N a l R5 H5 → R5 D = some (.lst acc) → S (i + 1) acc R5 → K0 H5) →
      g x (wipe σ vs) H2 fun σ2 H3 => wipe σ2 vs = wipe σ vs ∧ tt σ2 H3 fun b H4 => if b = true then te σ2 H4 K1 else K0 H4)
    (q : ∀ D acc Rd H2, R D = none → Ex R Rd → Wl N a l Rd H2 → Rd D = some (.lst acc) → S n acc Rd → Q D H2) :
    ∀ D, H D = none → ∃ W : Nat → Nat → Hp → Prop, (∃ m, W 0 m (upd H D (.lst []))) ∧ ∀ i m H, W i m H →
      (J.stop i H ∧ Q D H) ∨ (J.go i H ∧ ∃ Nx : Hp → Prop, (∀ H', Nx H' → ∃ m', m' < m ∧ W (i + 1) m' H') ∧ ∀ x H', J.yld i H x H' → g x (wipe σ vs) H' fun σ2 H2 => wipe σ2 vs = wipe σ vs ∧ tt σ2 H2 fun b H3 =>
        if b = true then te σ2 H3 fun y H4 => ∃ acc, H4 D = some (.lst acc) ∧ acc.length < sizeLine ∧ Nx (upd H4 D (.lst (acc ++ [y]))) else Nx H3) := fun D hD => by
  have hR := hw.free hD
  refine lc_it w (fun i H' => ∃ acc Rd, Ex R Rd ∧ Wl N a l Rd H' ∧ Rd D = some (.lst acc) ∧ S i acc Rd) ⟨[], _, Ex.new hR, hw.new hD, upd_same, h0 D hR⟩ (fun i H' _ p => ?_) (fun i x H1 H2 hi p y => ?_) (fun H' p => ?_)
  · obtain ⟨acc, Rd, p1, p2, _⟩ := p
    exact hG Rd H' p1 p2
  · obtain ⟨acc, Rd, p1, p2, p3, p4⟩ := p
    refine turn i D acc Rd H1 x H2 hi p1 p2 hR p3 p4 y _ _ (fun z R5 H5 e5 w5 k5 s5 => ?_) (fun R5 H5 e5 w5 k5 s5 => ?_)
    · exact ⟨acc, w5.ex _ _ k5, sz_lt (by have := lenb _ _ _ p4; omega), acc ++ [z], _, ex_side e5 hR, w5.mut k5, upd_same, s5⟩
    · exact ⟨acc, R5, e5, w5, k5, s5⟩
  · obtain ⟨acc, Rd, p1, p2, p3, p4⟩ := p
    exact q D acc Rd H' hR p1 p2 p3 p4
end
/-! ### lists of small numbers -/
def nI (ps : List Nat) : List Int := ps.map fun p : Nat => (p : Int)
theorem nI_len (ps : List Nat) : (nI ps).length = ps.length := List.length_map ..
theorem nI_getD (ps : List Nat) (i : Nat) : (nI ps).getD i 0 = ((ps.getD i 0 : Nat) : Int) := by
  unfold nI
  rw [List.getD_eq_getElem?_getD, List.getElem?_map, List.getD_eq_getElem?_getD]
  cases ps[i]? <;> rfl
theorem at_nI {ps : List Nat} {i : Nat} (h : i < ps.length) : atI ((nI ps).map V.int) (i : Int) = some (.int ((ps.getD i 0 : Nat) : Int)) := by
  rw [← nI_getD]
  exact atI_int (by rw [nI_len]; exact h)
theorem nI_at {ps : List Nat} {i : Nat} {x : V} (h : ((nI ps).map V.int)[i]? = some x) : x = .int ((ps.getD i 0 : Nat) : Int) ∧ i < ps.length := by
  obtain ⟨h1, h2⟩ := int_at h
  rw [nI_getD] at h1
  rw [nI_len] at h2
  exact ⟨h1, h2⟩
theorem rgV_nI (n : Nat) : rgV 0 (n : Int) = (nI (List.range n)).map V.int := by
  unfold rgV nI
  rw [List.map_map, show ((n : Int) - 0).toNat = n by omega]
  apply List.map_congr_left
  intro i _
  show V.int ((0 : Int) + (i : Int)) = V.int (i : Int)
  exact congrArg V.int (by omega)
theorem range_ofN {n : Nat} (f : Nat → Nat) {ys : List Nat} (h1 : ys.length = n) (h : ∀ i, i < n → f i = ys.getD i 0) : (List.range n).map (fun i => V.int ((f i : Nat) : Int)) = (nI ys).map V.int :=
  range_of (fun i => ((f i : Nat) : Int)) (by rw [nI_len]; exact h1) fun i hi => by rw [nI_getD, h i hi]
/-! ### a pair of tuples: places and signs -/
def TpX (K : PySem.W.Frag) (H : Hp) (e : Addr) (ps : List Nat) (ss : List Int) : Prop := ∃ a b, Tp K H e [.ref a, .ref b] ∧ Tp K H a ((nI ps).map V.int) ∧ Tp K H b (ss.map V.int)
theorem TpX.ex {K : PySem.W.Frag} {H H1 : Hp} {e : Addr} {ps : List Nat} {ss : List Int} (t : TpX K H e ps ss) (x : Ex H H1) : TpX K H1 e ps ss := by
  obtain ⟨a, b, h1, h2, h3⟩ := t
  exact ⟨a, b, h1.ex x, h2.ex x, h3.ex x⟩
theorem TpX.mut {K : PySem.W.Frag} {R : Hp} {wr : Addr} {ys zs : List V} {e : Addr} {ps : List Nat} {ss : List Int} (t : TpX K R e ps ss) (hw : R wr = some (.lst ys)) : TpX K (upd R wr (.lst zs)) e ps ss := by
  obtain ⟨a, b, h1, h2, h3⟩ := t
  exact ⟨a, b, h1.mut hw, h2.mut hw, h3.mut hw⟩
theorem Sm.pair {K : PySem.W.Frag} {H : Hp} {p q : Addr} {ps : List Nat} {ss : List Int} (hp : TpX K H p ps ss) (hq : TpX K H q ps ss) (h1 : ps.length ≤ 1000) (h2 : ss.length ≤ 1000) (n : Nat) : Sm K H (n + 2) (.ref p) (.ref q) := by
  obtain ⟨a, b, e1, e2, e3⟩ := hp
  obtain ⟨c, d, f1, f2, f3⟩ := hq
  refine .inr ⟨p, q, _, _, rfl, rfl, e1, f1, rfl, by show 2 ≤ 1000; omega, fun i u v hu hv => ?_⟩
  rcases i with _ | _ | i
  · cases hu
    cases hv
    exact Sm.tup e2 f2 (scal_ints _) (by rw [List.length_map, nI_len]; exact h1) n
  · cases hu
    cases hv
    exact Sm.tup e3 f3 (scal_ints _) (by rw [List.length_map]; exact h2) n
  · cases hu
end Own
namespace Own
open PySem PySem.Spec PyProof.Rows L2 Evl
theorem nI_set (ps : List Nat) (j v : Nat) : ((nI ps).map V.int).set j (.int (v : Int)) = (nI (ps.set j v)).map V.int := by
  unfold nI
  rw [List.map_set, List.map_set]
theorem int_set (ps : List Int) (j : Nat) (v : Int) : (ps.map V.int).set j (.int v) = (ps.set j v).map V.int := by
  rw [List.map_set]
theorem nI_rep (n v : Nat) : List.replicate n (V.int (v : Int)) = (nI (List.replicate n v)).map V.int := by
  unfold nI
  rw [List.map_replicate, List.map_replicate]
/-- [x] * n -/
theorem rep_lst {x : V} {n : Nat} {H : Hp} {Q : VK} {l : Addr} (hl : H l = some (.lst [x])) (hn : n ≤ 10000) (k : ∀ p, H p = none → Q (.ref p) (upd H p (.lst (List.replicate n x)))) : rRep (.ref l) (.int (n : Int)) H Q := by
  refine ⟨l, n, [x], rfl, rfl, hl, by omega, by omega, ?_, ?_⟩
  · show 1 * (n : Int).toNat ≤ sizeLine
    rw [sizeLine_eq]
    omega
  · rw [rep_flat, show ((n : Int)).toNat = n by omega]
    exact k
end Own

/-! math.comb; enumerate(tuple); a pair of names, some of them cells; o[i] += e. -/
namespace PySem
namespace OwU
open PySem PySem.W PySem.Calls PyProof.Rows
set_option maxHeartbeats 4000000 in
theorem meets_enum0 {v : Value} {o : Obj} {H : Heap → Prop} (B : Begins v o H) :
    Meets (Builtin.«enumerate.__new__» ⟨[.type "enumerate", v], []⟩) (fun _ R s => H s.heap ∧
      R (.ok (.ret (.ref (s.heap.push o).objs.size))) { s with heap := (s.heap.push o).push { cls := .type "enumerate", data := .fields #[.none, .bool false, .ref s.heap.objs.size, rawInt 0, .none, .none] } }) :=
  .of_wp fun prog w A R s h => by
    obtain ⟨hp, g, d, tk, os⟩ := s; obtain ⟨h1, h⟩ := h
    have hsub := sub_enumerate
    have q1 : ∀ {A' : Around} {E : Value → Shared → Prop} {Q : Value → Shared → Prop}, Q (.ref hp.objs.size) ⟨hp.push o, g, d, tk, os⟩ → wpAny (model prog w) A' (pyIter v) Q E ⟨hp, g, d, tk, os⟩ :=
      fun q => B.iter prog w _ _ ⟨hp, g, d, tk, os⟩ _ h1 q
    wp_walk using q1
    refine wpAny_stack_any fun st => wpAny_pure ?_
    split
    · rename_i c _ _ _ _ _
      cases (c == Value.type "enumerate")
      · wp_walk using q1
        exact ⟨_, rfl, h⟩
      · wp_walk using q1
        exact ⟨_, rfl, h⟩
    · wp_walk using q1
      exact ⟨_, rfl, h⟩
section
variable {prog : Program} {w : World} {A : Around} {E : Value → Shared → Prop} {s : Shared}
theorem enum_begins0 {v : Value} {o : Obj} {H : Heap → Prop} {Q : Value → Shared → Prop} (B : Begins v o H) (h1 : H s.heap)
    (h : ∀ h', IsEnum h' (s.heap.objs.size + 1) s.heap.objs.size 0 .none → h'.get? s.heap.objs.size = some o → h'.objs.size = s.heap.objs.size + 2 →
      (∀ b o, s.heap.get? b = some o → h'.get? b = some o) → Q (.ref (s.heap.objs.size + 1)) { s with heap := h' }) :
    wpAny (model prog w) A (call (.type "enumerate") [v]) Q E s := by
  refine callType_new F.called_enumerate (by decide) (F.typeCall_enumerate_1 _) (F.newCall_enumerate_1 _) (fun obj => F.args_object_init_2 obj _) F.entry_enumerate_new
    (meets_enum0 B) ⟨h1, ?_⟩
  have hz : (s.heap.push o).objs.size = s.heap.objs.size + 1 := Heap.size_push ..
  show _ ∧ _
  rw [hz]
  have he : IsEnum ((s.heap.push o).push { cls := .type "enumerate", data := .fields #[.none, .bool false, .ref s.heap.objs.size, rawInt 0, .none, .none] }) (s.heap.objs.size + 1) s.heap.objs.size 0 .none := by
    have := Heap.get?_push_size (s.heap.push o) (o := { cls := .type "enumerate", data := .fields #[.none, .bool false, .ref s.heap.objs.size, rawInt 0, .none, .none] }) rfl
    rw [hz] at this; exact this
  refine ⟨⟨_, he, rfl⟩, h _ he (Heap.get?_push_of_some _ (Heap.get?_push_size _ B.free)) (by rw [Heap.size_push, hz]) fun b o x => Heap.get?_push_of_some _ (Heap.get?_push_of_some _ x)⟩
theorem enum_endT {e it l : Addr} {i : Nat} {items : Array Value} {old : Value} {Q : Option Value → Shared → Prop} (hh : A.handled = none)
    (he : IsEnum s.heap e it i old) (hit : s.heap.IsTupleIter it l i) (hl : s.heap.IsTuple l items) (hx : items[i]? = none)
    (hQ : ∀ h', Heap.ExtBut it s.heap h' → Q none { s with heap := h' }) : wpAny (model prog w) A (pyNext (.ref e)) Q E s := by
  have hT : s.TypeIs (.ref e) "enumerate" := ⟨_, he, rfl⟩
  unfold pyNext
  refine wpAny_bind (wpAny_attempt (wpAny_callSpecial?_slot (name := Str.ofString "__next__") hT F.slot_enumerate_next
    (wpAny_call_entry F.slot_enumerate_next hT F.entry_enumerate_next ?_ (F.args_enumerate_next_1 _))))
  show wpAny _ _ (field (.ref e) 2 >>= _) _ _ _
  refine wpAny_bind (wpAny_field he rfl (x := .ref it) rfl ?_)
  refine wpAny_bind (wpAny_nextOf_tuple_end hh hit hl hx fun h' x he' hx' => ?_)
  obtain ⟨o, ho, hc⟩ := hx'
  refine wpAny_bind (wpAny_isInstance (T := "StopIteration") (b := true) ⟨o, ho, hc⟩ isSubtype_stop ?_)
  exact wpAny_pure (hQ _ he')
end
end OwU
end PySem
namespace Own
open PySem PySem.Spec PySem.W PyProof.Rows L2 Evl
section
variable {X : Cx}
def rComb : List V → Hp → VK → Prop := fun vs H Q => ∃ a b : Int, vs = [.int a, .int b] ∧ 0 ≤ a ∧ 0 ≤ b ∧ a ≤ 9000 ∧ Q (.int (PySem.W.mcComb a b)) H
theorem cr_comb : CallR X (.builtin "math.comb") rComb := by
  intro pins s σ H vs us Q I r h
  obtain ⟨a, b, rfl, h0, h1, h2, q⟩ := h
  obtain ⟨t, u, rfl⟩ := Vals.int2 r
  exact PySem.W.mc_comb h0 h1 (by omega) (.inr (by omega)) fun _ => ⟨.int _, H, I.tok _, ⟨_, rfl⟩, q⟩
end
/-- xs[i], as o[i] += e reads it -/
theorem get_list {X : Cx} : PGet X (rIxL X.K) := by
  intro pins s σ H o i ov iv Q I ro ri h
  obtain ⟨p, xs, i, z, rfl, rfl, hq, he, q⟩ := h
  cases ro
  obtain ⟨t, rfl⟩ := ri
  obtain ⟨its, r, pl, hz⟩ := I.list hq
  obtain ⟨j, h1, h2, h3, h4, h5⟩ := atI_get he
  obtain ⟨w, ew, rw'⟩ := r.get h2
  have hl := r.length
  have hn := line63
  have fin : EP X pins σ Q w s := ⟨z, H, I, rw', q⟩
  by_cases h0 : 0 ≤ i
  · have hj : i.toNat = j := by
      rw [seqIndex_of h0 h5] at h1
      exact Option.some.inj h1
    exact wpAny_getItem_list pl.isList h0 (by omega) (by rw [hj]; simpa using ew) fin
  · have hj : (i + (its.toArray.size : Int)).toNat = j := by
      rw [seqIndex_neg (by omega) h4] at h1
      rw [List.size_toArray, ← hl]
      exact Option.some.inj h1
    exact wpAny_getItem_list_neg pl.isList (by omega) (by rw [List.size_toArray] <;> omega) (by omega) (by rw [hj]; simpa using ew) fin
theorem kget_list {X : Cx} {K : PySem.W.Frag} (h : X.K = K := by rfl) : PGet X (rIxL K) := by subst h; exact get_list
/-- sum(t) of a tuple of ints -/
theorem sum_rawT {prog : Program} {w : World} {A : Around} {E : Value → Shared → Prop} {s : Shared} {l : Addr} {its : List Value} {ns : List Int} {Q : Value → Shared → Prop} (hh : A.handled = none) (hl : s.heap.IsTuple l its.toArray) (hi : IntsAre its ns)
    (h : ∀ h' tk t', (∀ b o, s.heap.get? b = some o → h'.get? b = some o) → Q (.int ns.sum t') { s with heap := h', toks := tk }) : wpAny (model prog w) A (call (.builtin "sum") [.ref l]) Q E s := by
  obtain ⟨xs, e⟩ := hi.allInts.items
  have hn : numsOf (intItems xs).toList = ns := by rw [← e]; exact hi.numsOf
  rw [nums_intItems] at hn
  rw [e] at hl
  refine PySem.W.ktm_sumG hh hl fun h' tk t' hk => ?_
  have := h h' tk t' hk
  rw [preSum_eq, List.take_of_length_le (by simp), hn]; exact this
def rSumT (K : PySem.W.Frag) : List V → Hp → VK → Prop := fun vs H Q => ∃ (a : Addr) (ns : List Int), vs = [V.ref a] ∧ SqT K H a (ns.map V.int) ∧ Q (.int ns.sum) H
theorem kc_sumT {X : Cx} {K : PySem.W.Frag} (hc : X.calm = true) (h : X.K = K := by rfl) : CallR X (.builtin "sum") (rSumT K) := by
  subst h
  intro pins s σ H vs us Q I r h
  obtain ⟨a, ns, rfl, hs, q⟩ := h
  obtain ⟨its, rv, hl, _⟩ := I.tuple hs
  rw [Vals.ref1 r]
  exact sum_rawT (I.ok.hd hc) (show s.heap.IsTuple a its.toArray from hl) rv.ints fun h' tk t' hk => ⟨.int _, H, I.kept hk, ⟨_, rfl⟩, q⟩
/-! ### enumerate(tuple) -/
def IteT (K : PySem.W.Frag) (a : Addr) : It :=
  ⟨fun i H => ∃ (xs : List V) (x : V), SqT K H a xs ∧ xs[i]? = some x, fun i H v H' => ∃ T x, v = .ref T ∧ H T = none ∧ H' = upd H T (.tup [.int (i : Nat), x]) ∧ ∀ xs, SqT K H a xs → xs[i]? = some x, fun i H => ∃ xs : List V, SqT K H a xs ∧ xs.length ≤ i⟩
theorem turn_enumT {P : Program} {w : World} {K : PySem.W.Frag} {elts : List Expr} {kk : Nat} {tpos : Pos} (a e it : Addr) :
    Turn P w K (.Tuple elts kk tpos) (IteT K a) [e, it] e (fun i h => (∃ old, IsEnum h e it ((i : Nat) : Int) old) ∧ h.IsTupleIter it a i ∧ e ≠ it) where
  mem := by simp
  obj := fun i h st b hb => by
    obtain ⟨⟨old, he⟩, ⟨o, ho, hc, hd⟩, _⟩ := st
    have e' : b = e ∨ b = it := by simpa using hb
    rcases e' with z | z
    · rw [z]; exact ⟨_, he, fun v q => nomatch q⟩
    · rw [z]; exact ⟨o, ho, fun v q => by rw [hd] at q; cases q⟩
  keep := fun i h h' st k => let ⟨⟨old, he⟩, hi, hne⟩ := st; ⟨⟨old, k e (by simp) _ he⟩, hi.at fun o q => k it (by simp) o q, hne⟩
  item := by
    intro X hP hw hK hc i pins s σ H E I hf st hg
    subst hP hw hK
    obtain ⟨⟨old, he⟩, hit, hne⟩ := st
    obtain ⟨xs, x, hq, hx⟩ := hg
    obtain ⟨its, rv, p, hz⟩ := I.tuple hq
    have pt : s.heap.IsTuple a its.toArray := p
    obtain ⟨u, hu, ru⟩ := rv.get hx
    have hel : e < s.heap.objs.size := Heap.lt_size he
    have hil : it < s.heap.objs.size := by obtain ⟨_, q, _⟩ := hit; exact Heap.lt_size q
    have hea : e ≠ a := fun z => by
      obtain ⟨o, ho, hcl, _⟩ := pt
      rw [← z] at ho
      have he' : s.heap.get? e = some _ := he
      rw [ho] at he'
      cases he'
      exact absurd (show Value.type "enumerate" = Value.type "tuple" from hcl) (by decide)
    have hai : a ≠ it := fun z => by
      obtain ⟨o, ho, hcl, _⟩ := pt
      obtain ⟨o2, ho2, hcl2, _⟩ := hit
      rw [z, ho2] at ho
      cases ho
      rw [hcl2] at hcl
      exact absurd hcl (by decide)
    have D := Draws.tuple (prog := X.prog) (w := X.w) (A := X.A.in1) (show X.A.in1.handled = none from I.ok.hd hc) it a hai its.toArray
    have hlt : i < its.toArray.size := by
      have := (List.getElem?_eq_some_iff.mp hu).1
      simpa using this
    refine wpAny_pyNext_enum_itemD D he ⟨hit, pt⟩ hlt hne (by simp [hne, hea]) fun x' h' tk hP ho hst hT hsz hk => ?_
    have ex : x' = u := by
      have h1 : its.toArray[i]? = some x' := hP
      rw [show its.toArray[i]? = its[i]? by simp, hu] at h1
      exact (Option.some.inj h1).symm
    subst ex
    refine ⟨_, rfl, wpAny_letOwnedTupleGo_enum (s := { s with heap := h', toks := tk + 1 }) ho fun h'' he' sb => ?_⟩
    have hT2 : h''.get? s.heap.objs.size = some { cls := .type "tuple", data := .seq #[.int i tk, x'] } := (sb.2 _ (Nat.ne_of_gt hel)).trans hT
    have new : ObjOk X.prog X.w (upd H s.heap.objs.size (.tup [.int (i : Nat), x])) h'' s.heap.objs.size (.tup [.int (i : Nat), x]) :=
      ⟨by show 2 ≤ sizeLine; decide, [.int i tk, x'], .cons ⟨_, rfl⟩ (.cons ru .nil), ⟨_, hT2, rfl, _, rfl⟩⟩
    have I1 : Inv X pins σ (upd H s.heap.objs.size (.tup [.int (i : Nat), x])) { s with heap := h'', toks := tk + 1 } :=
      I.turnedNew (ch := [e, it]) (fun b ob hb q => (sb.2 b (fun z => hb (by simp [z]))).trans (hk b ob (fun z => hb (by simp [z])) (fun z => hb (by simp [z])) q)) hf (Nat.le_refl _) new
    refine ⟨.ref s.heap.objs.size, _, I1, rfl, ⟨_, x, rfl, I.hok.fresh (Nat.le_refl _), rfl, fun ys hy => by rw [I.tuple_inj hy hq]; exact hx⟩, ⟨⟨x', ?_⟩, hst.1.at fun o q => (sb.2 it (Ne.symm hne)).trans q, hne⟩, fun b hb => ?_⟩
    · have e1 : ((i + 1 : Nat) : Int) = (i : Int) + 1 := by omega
      rw [e1]; exact he'
    · have hb' : b < s.heap.objs.size := by
        have e' : b = e ∨ b = it := by simpa using hb
        rcases e' with z | z
        · rw [z]; exact hel
        · rw [z]; exact hil
      rw [upd_ne (Nat.ne_of_lt hb')]
      exact (hf b hb).1
  done := by
    intro X hP hw hK hc i pins s σ H E I hf st hg
    subst hP hw hK
    obtain ⟨⟨old, he⟩, hit, hne⟩ := st
    obtain ⟨xs, hq, hx⟩ := hg
    obtain ⟨its, rv, p, hz⟩ := I.tuple hq
    have pt : s.heap.IsTuple a its.toArray := p
    obtain ⟨f0, f1, f2, f3, f4, f5⟩ := hf it (by simp)
    have hl := rv.length
    exact PySem.OwU.enum_endT (I.ok.hd hc) he hit pt (by simp; omega) fun h' eb => ⟨rfl, I.turned (t' := s.toks) (fun b o hb q => eb b o hb q) f0 f1 f3 f4 f5⟩
  self := fun A i s Q E st h => let ⟨⟨_, he⟩, _⟩ := st; wpAny_pyIter_enum he h
/-- a, b = x, y, not both plain locals -/
theorem walk_enumT {K : PySem.W.Frag} {a : Addr} {xs : List V} : Walk (IteT K a) xs.length (fun H => SqT K H a xs) (fun i H v H' => ∃ T x, v = .ref T ∧ H T = none ∧ H' = upd H T (.tup [.int (i : Nat), x]) ∧ xs[i]? = some x) := by
  refine ⟨fun i _ hi q => ⟨xs, xs[i], q, by simp [hi]⟩, fun _ q => ⟨xs, q, Nat.le_refl _⟩, fun i H v H' _ q y => ?_⟩
  obtain ⟨T, x, h1, h2, h3, h4⟩ := y
  exact ⟨T, x, h1, h2, h3, h4 xs q⟩
theorem walk_enumL {K : PySem.W.Frag} {a : Addr} {xs : List V} : Walk (Ite K a) xs.length (fun H => SqL K H a xs) (fun i H v H' => ∃ T x, v = .ref T ∧ H T = none ∧ H' = upd H T (.tup [.int (i : Nat), x]) ∧ xs[i]? = some x) := by
  refine ⟨fun i _ hi q => ⟨xs, xs[i], q, by simp [hi]⟩, fun _ q => ⟨xs, q, Nat.le_refl _⟩, fun i H v H' _ q y => ?_⟩
  obtain ⟨T, x, h1, h2, h3, h4⟩ := y
  exact ⟨T, x, h1, h2, h3, h4 xs q⟩
def iEnumT (K : PySem.W.Frag) (ta : TA) : TI := fun σ H R => ta σ H fun vs H1 => ∃ a xs, vs = [.ref a] ∧ SqT K H1 a xs ∧ R (IteT K a) H1
theorem pi_enumT {X : Cx} {e : Expr} {ta : TA} {p pos tpos : Pos} {elts : List Expr} {kk : Nat} (hg : Gl X "enumerate") (hm : X.mg "enumerate" = none) (ha : PA X [e] ta) (hs : starEach [e] X.env = [(false, eval e X.env)] := by rfl) :
    PI X (.Tuple elts kk tpos) (.Call (.Name "enumerate" p) [e] [] pos) (iEnumT X.K ta) := by
  refine ⟨fun pins s σ H R I h => ?_⟩
  refine Call_ (ld_blt I hg hm boot_enumerate (PyProof.Rows.callWith_type1 (thn (ha.run pos pins s σ H _ I h) fun us s1 ⟨vs, H1, I1, r1, q1⟩ => ?_) hs rfl))
  obtain ⟨a, xs, ex, hq, q⟩ := q1
  subst ex
  cases r1 with
  | cons r rr =>
    cases rr
    cases r
    obtain ⟨its, rv, p', hz⟩ := I1.tuple hq
    have pt : s1.heap.IsTuple a its.toArray := p'
    refine PySem.OwU.enum_begins0 (begins_tuple a its.toArray) pt fun h' he hit hsz hk => wpAny_pyIter_enum he ?_
    have I2 : Inv X pins σ H1 { s1 with heap := h' } := I1.kept (t' := s1.toks) hk
    refine ⟨s1.heap.objs.size + 1, [s1.heap.objs.size + 1, s1.heap.objs.size], _, _, H1, rfl, I2, turn_enumT a (s1.heap.objs.size + 1) s1.heap.objs.size, ⟨⟨.none, he⟩, ⟨_, hit, rfl, rfl⟩, Nat.succ_ne_self _⟩, fun b hb => ?_, q⟩
    have e' : b = s1.heap.objs.size + 1 ∨ b = s1.heap.objs.size := by simpa using hb
    have hle : s1.heap.objs.size ≤ b := by
      rcases e' with z | z
      · rw [z]; exact Nat.le_add_right _ _
      · rw [z]; exact Nat.le_refl _
    exact I1.fpOk hle (I1.hok.fresh hle)
end Own

/-! Comprehensions whose items are new objects. -/
namespace Own
open PySem PySem.Spec PyProof.Rows L2 Evl
section
variable {H : Hp} {J : It} {n : Nat} {G : Hp → Prop} {Y : Nat → Hp → V → Hp → Prop} {g : TG} {tt : TT} {te : TE} {vs : List Nat} {σ : L2.St}
theorem lcX {Q : Addr → Hp → Prop} (S : Nat → List V → Hp → Prop) (w : Walk J n G Y) (h0 : ∀ D, H D = none → S 0 [] (upd H D (.lst []))) (hG : ∀ H', Ex H H' → G H') (lenb : ∀ i acc H', S i acc H' → acc.length ≤ 40000)
    (turn : ∀ i D acc H1 x H2, i < n → Ex H H1 → H D = none → H1 D = some (.lst acc) → S i acc H1 → Y i H1 x H2 → ∀ (K1 : VK) (K0 : Hp → Prop),
      (∀ y H5, Ex H1 H5 → S (i + 1) (acc ++ [y]) (upd H5 D (.lst (acc ++ [y]))) → K1 y H5) → (∀ H5, Ex H1 H5 → S (i + 1) acc H5 → K0 H5) →
      g x (wipe σ vs) H2 fun σ2 H3 => wipe σ2 vs = wipe σ vs ∧ tt σ2 H3 fun b H4 => if b = true then te σ2 H4 K1 else K0 H4)
    (q : ∀ D acc H2, H D = none → Ex H H2 → H2 D = some (.lst acc) → S n acc H2 → Q D H2) :
    ∀ D, H D = none → ∃ W : Nat → Nat → Hp → Prop, (∃ m, W 0 m (upd H D (.lst []))) ∧ ∀ i m H, W i m H →
      (J.stop i H ∧ Q D H) ∨ (J.go i H ∧ ∃ Nx : Hp → Prop, (∀ H', Nx H' → ∃ m', m' < m ∧ W (i + 1) m' H') ∧ ∀ x H', J.yld i H x H' → g x (wipe σ vs) H' fun σ2 H2 => wipe σ2 vs = wipe σ vs ∧ tt σ2 H2 fun b H3 =>
        if b = true then te σ2 H3 fun y H4 => ∃ acc, H4 D = some (.lst acc) ∧ acc.length < sizeLine ∧ Nx (upd H4 D (.lst (acc ++ [y]))) else Nx H3) := fun D hD => by
  refine lc_it w (fun i H' => Ex H H' ∧ ∃ acc, H' D = some (.lst acc) ∧ S i acc H') ⟨Ex.new hD, [], upd_same, h0 D hD⟩ (fun i H' _ p => hG H' p.1) (fun i x H1 H2 hi p y => ?_) (fun H' p => ?_)
  · obtain ⟨p1, acc, p2, p3⟩ := p
    refine turn i D acc H1 x H2 hi p1 hD p2 p3 y _ _ (fun z H5 e5 s5 => ?_) (fun H5 e5 s5 => ?_)
    · exact ⟨acc, e5 _ _ p2, sz_lt (by have := lenb _ _ _ p3; omega), ex_side (p1.trans e5) hD, acc ++ [z], upd_same, s5⟩
    · exact ⟨p1.trans e5, acc, e5 _ _ p2, s5⟩
  · obtain ⟨p1, acc, p2, p3⟩ := p
    exact q D acc H' hD p1 p2 p3
end
/-- x is True, x is False, x a plain value -/
theorem op_isBg {X : Cx} : OpR X (compareOp .Is) (fun x y H Q => ∃ b : Bool, y = .bl b ∧ scalV x = true ∧ Q (.bl (decide (x = .bl b))) H) := by
  intro pins s σ H x y v u Q I rx ry h
  obtain ⟨b, rfl, hs, q⟩ := h
  cases (show u = Value.bool b from ry)
  cases x <;> first | cases hs | skip
  · cases (show v = Value.none from rx)
    exact wpAny_is_other rfl (fun z => by cases z) ⟨.bl false, H, I, rfl, by simpa using q⟩
  · rename_i a
    cases (show v = Value.bool a from rx)
    by_cases e : a = b
    · subst e
      exact wpAny_is_self rfl ⟨.bl true, H, I, rfl, by simpa using q⟩
    · exact wpAny_is_other rfl (fun z => e (Value.bool.inj z)) ⟨.bl false, H, I, rfl, by simpa [e] using q⟩
  · obtain ⟨t, rfl⟩ := rx
    exact wpAny_is_other rfl (fun z => by cases z) ⟨.bl false, H, I, rfl, by simpa using q⟩
  · obtain ⟨t, rfl⟩ := rx
    exact wpAny_is_other rfl (fun z => by cases z) ⟨.bl false, H, I, rfl, by simpa using q⟩
/-! ### a tuple of pairs of ints -/
def pairL (f : Int × Int) : List V := [.int f.1, .int f.2]
structure LstP (K : PySem.W.Frag) (H : Hp) (es : List Addr) (fs : List (Int × Int)) : Prop where
  len : es.length = fs.length
  at_ : ∀ (i : Nat) e f, es[i]? = some e → fs[i]? = some f → Tp K H e (pairL f)
def TpP (K : PySem.W.Frag) (H : Hp) (p : Addr) (fs : List (Int × Int)) : Prop := ∃ es, Tp K H p (es.map V.ref) ∧ LstP K H es fs
section
variable {K : PySem.W.Frag} {H H1 : Hp} {es : List Addr} {fs : List (Int × Int)}
theorem LstP.ex (l : LstP K H es fs) (e : Ex H H1) : LstP K H1 es fs := ⟨l.len, fun i a f h1 h2 => (l.at_ i a f h1 h2).ex e⟩
theorem LstP.mut {wr : Addr} {ys zs : List V} (l : LstP K H es fs) (hw : H wr = some (.lst ys)) : LstP K (upd H wr (.lst zs)) es fs := ⟨l.len, fun i a f h1 h2 => (l.at_ i a f h1 h2).mut hw⟩
theorem LstP.push {e : Addr} {f : Int × Int} (l : LstP K H es fs) (t : Tp K H e (pairL f)) : LstP K H (es ++ [e]) (fs ++ [f]) := by
  refine ⟨by rw [List.length_append, List.length_append, l.len]; rfl, fun i a y h1 h2 => ?_⟩
  by_cases c : i < es.length
  · rw [List.getElem?_append_left c] at h1
    rw [List.getElem?_append_left (by rw [← l.len]; exact c)] at h2
    exact l.at_ i a y h1 h2
  · rw [List.getElem?_append_right (by omega)] at h1
    rw [List.getElem?_append_right (by rw [← l.len]; omega), ← l.len] at h2
    have : i - es.length = 0 := by
      have := (List.getElem?_eq_some_iff.mp h1).1
      simp at this
      omega
    rw [this] at h1 h2
    cases h1
    cases h2
    exact t
theorem TpP.ex {p : Addr} (t : TpP K H p fs) (e : Ex H H1) : TpP K H1 p fs := by
  obtain ⟨es, h1, h2⟩ := t
  exact ⟨es, h1.ex e, h2.ex e⟩
/-- two tuples of the same pairs -/
theorem Sm.pairs {p q : Addr} (hp : TpP K H p fs) (hq : TpP K H q fs) (hl : fs.length ≤ 1000) (n : Nat) : Sm K H (n + 2) (.ref p) (.ref q) := by
  obtain ⟨es, h1, h2⟩ := hp
  obtain ⟨es', g1, g2⟩ := hq
  refine .inr ⟨p, q, _, _, rfl, rfl, h1, g1, by rw [List.length_map, List.length_map, h2.len, g2.len], by rw [List.length_map, h2.len]; exact hl, fun i u v hu hv => ?_⟩
  rw [List.getElem?_map] at hu hv
  cases e : es[i]? with
  | none =>
    rw [e] at hu
    cases hu
  | some a =>
    cases e' : es'[i]? with
    | none =>
      rw [e'] at hv
      cases hv
    | some b =>
      rw [e] at hu
      rw [e'] at hv
      cases hu
      cases hv
      have hi := (List.getElem?_eq_some_iff.mp e).1
      have hf : fs[i]? = some (fs[i]'(by rw [← h2.len]; exact hi)) := List.getElem?_eq_getElem _
      refine Sm.tup (h2.at_ i a _ e hf) (g2.at_ i b _ e' hf) (fun x hx => ?_) (by show 2 ≤ 1000; omega) n
      rcases List.mem_cons.mp hx with rfl | hx
      · rfl
      · rw [List.mem_singleton.mp hx]
        rfl
end
end Own

/-! The Hook with names that stand for built-ins of other modules (math.comb ..). -/
namespace Own
open PySem PySem.Spec PyProof.Rows L2
open He (ga ma fAd eqO eqO_ok ba)
abbrev BiL : Type := List (Str × String)
def biB (K : PySem.W.Frag) (bs : BiL) : Bool := bs.all fun b => eqO (PySem.W.nsIn K mainGlobals b.1) (some (some (.builtin b.2)))
abbrev AlW : Type := AlE × Bool
def obsW (file : Str) (bs : BiL) (fa : List He.Fa) (fn : List He.DefD) (ex : List ExD) (K : PySem.W.Frag) : AlW := (obsE file fa fn ex K, biB K bs)
def valW (fn : List He.DefD) (ex : List ExD) : AlW := (valE fn ex, true)
def SaysW (file : Str) (bs : BiL) (fa : List He.Fa) (fn : List He.DefD) (ex : List ExD) (K : PySem.W.Frag) : Prop := obsW file bs fa fn ex K = valW fn ex
def obsWG (file : Str) (n : Nat) (bs : BiL) (fa : List He.Fa) (fn : List He.DefD) (ex : List ExD) (g : Addr → Option Obj) : AlW := obsW file bs fa fn ex (He.frG g (cStatics :: He.asD g n))
def hookW (file : Str) (n : Nat) (bs : BiL) (fa : List He.Fa) (fn : List He.DefD) (ex : List ExD) : PySem.W.Hook where
  α := AlW
  obs := fun s => obsWG file n bs fa fn ex s.heap.get?
  val := fun _ => valW fn ex
  says := fun _ h => ∃ K : PySem.W.Frag, K.In h ∧ SaysW file bs fa fn ex K
  of := fun _ _ e => ⟨_, He.frG_in, e⟩
  keeps := fun _ _ _ ⟨K, hK, c⟩ k => ⟨K, PySem.W.Frag.In.keeps hK k, c⟩
theorem obsWG_eq {file : Str} {n : Nat} {bs : BiL} {fa : List He.Fa} {fn : List He.DefD} {ex : List ExD} {g : Addr → Option Obj} {s : Shared} (h : ∀ a, g a = s.heap.get? a) : obsWG file n bs fa fn ex g = (hookW file n bs fa fn ex).obs s := by
  have e : g = s.heap.get? := funext h
  rw [e] <;> rfl
section
variable {file : Str} {bs : BiL} {fa : List He.Fa} {fn : List He.DefD} {ex : List ExD} {K : PySem.W.Frag} {h : Heap} {mg : Str → Option Value}
theorem SaysW.e (c : SaysW file bs fa fn ex K) : SaysE file fa fn ex K := congrArg (fun z : AlW => z.1) c
theorem SaysW.saysD (c : SaysW file bs fa fn ex K) : He.SaysD fa fn K := c.e.saysD
theorem SaysW.bi (c : SaysW file bs fa fn ex K) (X : K.In h) (G : h.Ns mainGlobals mg) (i : Nat) {x : Str} {b : String} (e : bs[i]? = some (x, b) := by rfl) : mg x = some (.builtin b) := by
  have c2 : biB K bs = true := congrArg (fun z : AlW => z.2) c
  have := List.all_eq_true.mp c2 (x, b) (List.mem_of_getElem? e)
  exact PySem.W.mg_of X G (eqO_ok this)
end
end Own

/-! What is a list or a tuple: walked, enumerated, zipped, read, measured. -/
namespace Own
open PySem PySem.Spec PySem.W PyProof.Rows L2 Evl
/-- a list (false), a tuple (true) -/
def SqB (K : PySem.W.Frag) (b : Bool) (H : Hp) (a : Addr) (xs : List V) : Prop := match b with
  | true => SqT K H a xs
  | false => SqL K H a xs
def isB (b : Bool) (h : Heap) (l : Addr) (its : Array Value) : Prop := match b with
  | true => h.IsTuple l its
  | false => h.IsList l its
def itB (b : Bool) (h : Heap) (it l : Addr) (i : Nat) : Prop := match b with
  | true => h.IsTupleIter it l i
  | false => h.IsListIter it l i
def obB (b : Bool) (l : Addr) : Obj := { cls := .type (match b with | true => "tuple_iterator" | false => "list_iterator"), data := .fields #[.ref l, .int 0 0] }
theorem itB_ob {b : Bool} {h : Heap} {it l : Addr} {i : Nat} (x : itB b h it l i) : ∃ o vs, h.get? it = some o ∧ o.data = .fields vs := by
  cases b with
  | true =>
    obtain ⟨o, h1, h2, h3⟩ := x
    exact ⟨o, _, h1, h3⟩
  | false =>
    obtain ⟨o, h1, h2, h3⟩ := x
    exact ⟨o, _, h1, h3⟩
theorem itB_at {b : Bool} {h h' : Heap} {it l : Addr} {i : Nat} (x : itB b h it l i) (e : ∀ o, h.get? it = some o → h'.get? it = some o) : itB b h' it l i := by
  cases b with
  | true => exact Heap.IsTupleIter.at x e
  | false => exact Heap.IsListIter.at x e
theorem isB_ne {b : Bool} {h : Heap} {l it l2 : Addr} {i : Nat} {its : Array Value} {b2 : Bool} (x : isB b h l its) (y : itB b2 h it l2 i) : l ≠ it := fun z => by
  subst z
  cases b <;> cases b2 <;>
  · obtain ⟨o, h1, h2, _⟩ := x
    obtain ⟨o', g1, g2, _⟩ := y
    rw [h1] at g1
    cases g1
    rw [h2] at g2
    exact absurd g2 (by decide)
theorem isB_lt {b : Bool} {h : Heap} {l : Addr} {its : Array Value} (x : isB b h l its) : l < h.objs.size := by
  cases b with
  | true =>
    obtain ⟨o, h1, _⟩ := x
    exact Heap.lt_size h1
  | false =>
    obtain ⟨o, h1, _⟩ := x
    exact Heap.lt_size h1
theorem drawsB {P : Program} {w : World} {A : Around} (hh : A.handled = none) : ∀ (b : Bool) (it l : Addr), l ≠ it → ∀ its : Array Value, Draws P w A it [it, l] its.size (fun i v => its[i]? = some v) (fun i h => itB b h it l i ∧ isB b h l its)
  | true, it, l, hne, its => Draws.tuple hh it l hne its
  | false, it, l, hne, its => Draws.list hh it l hne its
theorem beginsB : ∀ (b : Bool) (l : Addr) (its : Array Value), Begins (.ref l) (obB b l) fun h => isB b h l its
  | true, l, its => begins_tuple l its
  | false, l, its => begins_list l its
theorem itB_new : ∀ (b : Bool) {h : Heap} {it l : Addr}, h.get? it = some (obB b l) → itB b h it l 0
  | true, _, _, _, e => ⟨_, e, rfl, rfl⟩
  | false, _, _, _, e => ⟨_, e, rfl, rfl⟩
theorem seqB {X : Cx} {pins : List (Addr × Obj)} {σ : L2.St} {H : Hp} {s : Shared} (I : Inv X pins σ H s) : ∀ {b : Bool} {a : Addr} {xs : List V}, SqB X.K b H a xs → ∃ its : List Value, Vals xs its ∧ isB b s.heap a its.toArray
  | true, _, _, h => by
    obtain ⟨its, r, p, _⟩ := I.tuple h
    exact ⟨its, r, p⟩
  | false, _, _, h => by
    obtain ⟨its, r, p, _⟩ := I.list h
    exact ⟨its, r, p.isList⟩
theorem seqB_inj {X : Cx} {pins : List (Addr × Obj)} {σ : L2.St} {H : Hp} {s : Shared} (I : Inv X pins σ H s) : ∀ {b : Bool} {a : Addr} {xs ys : List V}, SqB X.K b H a xs → SqB X.K b H a ys → xs = ys
  | true, _, _, _, h, h' => I.tuple_inj h h'
  | false, _, _, _, h, h' => I.list_inj h h'
/-! ### zip -/
def ItzB (K : PySem.W.Frag) (b1 b2 : Bool) (a1 a2 : Addr) : It :=
  ⟨fun i H => ∃ (xs ys : List V) (x y : V), SqB K b1 H a1 xs ∧ SqB K b2 H a2 ys ∧ xs[i]? = some x ∧ ys[i]? = some y,
    fun i H v H' => ∃ T x y, v = .ref T ∧ H T = none ∧ H' = upd H T (.tup [x, y]) ∧ (∀ xs, SqB K b1 H a1 xs → xs[i]? = some x) ∧ ∀ ys, SqB K b2 H a2 ys → ys[i]? = some y,
    fun i H => ∃ xs ys : List V, SqB K b1 H a1 xs ∧ SqB K b2 H a2 ys ∧ i ≤ xs.length ∧ i ≤ ys.length ∧ (i = xs.length ∨ i = ys.length)⟩
theorem turn_zipB {P : Program} {w : World} {K : PySem.W.Frag} {elts : List Expr} {kk : Nat} {tpos : Pos} {b1 b2 : Bool} {a1 a2 zz ti tt j1 j2 : Addr} (S : ZipSep2 zz ti tt j1 j2 [j1, a1] [j2, a2]) (n1 : a1 ≠ j1) (n2 : a2 ≠ j2) :
    Turn P w K (.Tuple elts kk tpos) (ItzB K b1 b2 a1 a2) [zz, ti, tt, j1, j2] zz (fun i h => IsZip h zz ti tt .none ∧ IsTupOf2 h ti (.ref j1) (.ref j2) ∧ (∃ x y, IsTupOf2 h tt x y) ∧ itB b1 h j1 a1 i ∧ itB b2 h j2 a2 i) where
  mem := by simp
  obj := fun i h st c hc => by
    obtain ⟨hz, hTI, ⟨x, y, hTO⟩, h1, h2⟩ := st
    have cases5 : c = zz ∨ c = ti ∨ c = tt ∨ c = j1 ∨ c = j2 := by simpa using hc
    rcases cases5 with rfl | rfl | rfl | rfl | rfl
    · exact ⟨_, hz, fun v q => nomatch q⟩
    · exact ⟨_, hTI, fun v q => nomatch q⟩
    · exact ⟨_, hTO, fun v q => nomatch q⟩
    · obtain ⟨o, vs, g1, g2⟩ := itB_ob h1
      exact ⟨o, g1, fun v q => by rw [g2] at q; cases q⟩
    · obtain ⟨o, vs, g1, g2⟩ := itB_ob h2
      exact ⟨o, g1, fun v q => by rw [g2] at q; cases q⟩
  keep := fun i h h' st k => by
    obtain ⟨hz, hTI, ⟨x, y, hTO⟩, h1, h2⟩ := st
    exact ⟨k zz (by simp) _ hz, k ti (by simp) _ hTI, ⟨x, y, k tt (by simp) _ hTO⟩, itB_at h1 fun o q => k j1 (by simp) o q, itB_at h2 fun o q => k j2 (by simp) o q⟩
  item := by
    intro X hP hw hK hc i pins s σ H E I hf st hg
    subst hP hw hK
    obtain ⟨hz, hTI, ⟨x0, y0, hTO⟩, h1, h2⟩ := st
    obtain ⟨xs, ys, x, y, qx, qy, hx, hy⟩ := hg
    obtain ⟨us, r1, p1⟩ := seqB I qx
    obtain ⟨vs, r2, p2⟩ := seqB I qy
    obtain ⟨u, hu, ru⟩ := r1.get hx
    obtain ⟨v, hv, rv⟩ := r2.get hy
    have zlt : zz < s.heap.objs.size := Heap.lt_size hz
    have hh : X.A.in1.handled = none := I.ok.hd hc
    have lu := (List.getElem?_eq_some_iff.mp hu).1
    have lv := (List.getElem?_eq_some_iff.mp hv).1
    refine wpAny_pyNext_zipD2_item S (drawsB hh b1 j1 a1 n1 us.toArray) (drawsB hh b2 j2 a2 n2 vs.toArray) hz hTI hTO ⟨h1, p1⟩ ⟨h2, p2⟩ (by simpa using lu) (by simpa using lv) fun x1 x2 h' tk e1 e2 z' t' s1 s2 hT _ hk => ?_
    have q1 : x1 = u := by
      have e1' : us.toArray[i]? = some x1 := e1
      rw [List.getElem?_toArray, hu] at e1'
      exact (Option.some.inj e1').symm
    have q2 : x2 = v := by
      have e2' : vs.toArray[i]? = some x2 := e2
      rw [List.getElem?_toArray, hv] at e2'
      exact (Option.some.inj e2').symm
    subst q1 q2
    refine ⟨_, rfl, wpAny_letOwnedTupleGo_zip (s := { s with heap := h', toks := tk }) z' fun h'' z'' sb => ?_⟩
    have T2 : h''.get? s.heap.objs.size = some { cls := .type "tuple", data := .seq #[x1, x2] } := (sb.2 _ (Nat.ne_of_gt zlt)).trans hT
    have new : ObjOk X.prog X.w (upd H s.heap.objs.size (.tup [x, y])) h'' s.heap.objs.size (.tup [x, y]) :=
      ⟨by show 2 ≤ sizeLine; decide, [x1, x2], .cons ru (.cons rv .nil), ⟨_, T2, rfl, _, rfl⟩⟩
    have I1 : Inv X pins σ (upd H s.heap.objs.size (.tup [x, y])) { s with heap := h'', toks := tk } :=
      I.turnedNew (ch := [zz, ti, tt, j1, j2]) (fun c o hb q => (sb.2 c (fun q' => hb (by rw [q']; simp))).trans (hk c o (fun q' => hb (by rw [q']; simp)) (fun q' => hb (by rw [q']; simp)) (fun q' => hb (by rw [q']; simp)) (fun q' => hb (by rw [q']; simp)) q)) hf (Nat.le_refl _) new
    have up : ∀ c o, c ≠ zz → h'.get? c = some o → h''.get? c = some o := fun c o hc q => (sb.2 c hc).trans q
    refine ⟨.ref s.heap.objs.size, _, I1, rfl, ⟨_, x, y, rfl, I.hok.fresh (Nat.le_refl _), rfl, fun l hl => by rw [seqB_inj I hl qx]; exact hx, fun l hl => by rw [seqB_inj I hl qy]; exact hy⟩, ⟨z'', ?_, ⟨x1, x2, ?_⟩, ?_, ?_⟩, fun c hcm => ?_⟩
    · exact up _ _ S.TIz (hk _ _ S.TIz S.TITO S.TIi1 S.TIi2 hTI)
    · exact up _ _ S.TOz t'
    · exact itB_at s1.1 fun o q => up _ _ S.zi1.symm q
    · exact itB_at s2.1 fun o q => up _ _ S.zi2.symm q
    · have hlt : c < s.heap.objs.size := by
        have cases5 : c = zz ∨ c = ti ∨ c = tt ∨ c = j1 ∨ c = j2 := by simpa using hcm
        rcases cases5 with rfl | rfl | rfl | rfl | rfl
        · exact zlt
        · exact Heap.lt_size hTI
        · exact Heap.lt_size hTO
        · obtain ⟨_, _, g, _⟩ := itB_ob h1
          exact Heap.lt_size g
        · obtain ⟨_, _, g, _⟩ := itB_ob h2
          exact Heap.lt_size g
      rw [upd_ne (Nat.ne_of_lt hlt)]
      exact (hf c hcm).1
  done := by
    intro X hP hw hK hc i pins s σ H E I hf st hg
    subst hP hw hK
    obtain ⟨hz, hTI, ⟨x0, y0, hTO⟩, h1, h2⟩ := st
    obtain ⟨xs, ys, qx, qy, l1, l2, hend⟩ := hg
    obtain ⟨us, r1, p1⟩ := seqB I qx
    obtain ⟨vs, r2, p2⟩ := seqB I qy
    have hh : X.A.in1.handled = none := I.ok.hd hc
    have e1 : us.toArray.size = xs.length := by rw [List.size_toArray]; exact r1.length.symm
    have e2 : vs.toArray.size = ys.length := by rw [List.size_toArray]; exact r2.length.symm
    refine wpAny_pyNext_zipD2_end S (drawsB hh b1 j1 a1 n1 us.toArray) (drawsB hh b2 j2 a2 n2 vs.toArray) hz hTI hTO ⟨h1, p1⟩ ⟨h2, p2⟩ (by omega) (by omega) (by omega) fun h' tk hk => ⟨rfl, I.turnedL (ch := [zz, ti, tt, j1, j2]) (fun c o hb q =>
      hk c o (fun q' => hb (by rw [q']; simp)) (fun q' => hb (by rw [q']; simp)) (fun q' => hb (by rw [q']; simp)) (fun q' => hb (by rw [q']; simp)) q) hf⟩
  self := fun A i s Q E st h => wpAny_pyIter_zip st.1 h
def iZipB (K : PySem.W.Frag) (ta : TA) : TI := fun σ H R => ta σ H fun vs H1 => ∃ a1 a2 b1 b2 xs ys, vs = [.ref a1, .ref a2] ∧ SqB K b1 H1 a1 xs ∧ SqB K b2 H1 a2 ys ∧ R (ItzB K b1 b2 a1 a2) H1
theorem pi_zipB {X : Cx} {e e2 : Expr} {ta : TA} {p pos tpos : Pos} {elts : List Expr} {kk : Nat} (hg : Gl X "zip") (hm : X.mg "zip" = none) (ha : PA X [e, e2] ta)
    (hs : starEach [e, e2] X.env = (false, eval e X.env) :: starEach [e2] X.env := by rfl) (hpl : (backTo pos (starEach [e2] X.env)).any (·.1) = false := by rfl) :
    PI X (.Tuple elts kk tpos) (.Call (.Name "zip" p) [e, e2] [] pos) (iZipB X.K ta) := by
  refine ⟨fun pins s σ H R I h => ?_⟩
  refine Call_ (ld_blt I hg hm PyProof.Rows.boot_zip (PyProof.Rows.callWith_type1 (thn (ha.run pos pins s σ H _ I h) fun us s1 ⟨vs, H1, I1, r1, q1⟩ => ?_) hs hpl))
  obtain ⟨a1, a2, b1, b2, xs, ys, ex, qx, qy, q⟩ := q1
  subst ex
  obtain ⟨u, v, rfl, ru, rv⟩ : ∃ u v, us = [u, v] ∧ RelV (.ref a1) u ∧ RelV (.ref a2) v := by
    cases r1 with
    | cons r rr =>
      cases rr with
      | cons r' rr =>
        cases rr
        exact ⟨_, _, rfl, r, r'⟩
  cases ru
  cases rv
  obtain ⟨us, r1, p1⟩ := seqB I1 qx
  obtain ⟨vs, r2, p2⟩ := seqB I1 qy
  refine zip_begins2 (beginsB b1 a1 us.toArray) (beginsB b2 a2 vs.toArray) p1 p2 fun h' hz hTI hTO g1 g2 hsz hk => wpAny_pyIter_zip hz ?_
  have I2 : Inv X pins σ H1 { s1 with heap := h' } := I1.kept (t' := s1.toks) hk
  have S := zip_sep2 (N := s1.heap.objs.size) (fp1 := [a1]) (fp2 := [a2]) (fun b hb => by rw [List.mem_singleton.mp hb]; exact isB_lt p1) (fun b hb => by rw [List.mem_singleton.mp hb]; exact isB_lt p2)
  have lt1 := isB_lt p1
  have lt2 := isB_lt p2
  refine ⟨s1.heap.objs.size + 4, [s1.heap.objs.size + 4, s1.heap.objs.size + 2, s1.heap.objs.size + 3, s1.heap.objs.size, s1.heap.objs.size + 1], _, _, H1, rfl, I2, turn_zipB S (Nat.ne_of_lt lt1) (Nat.ne_of_lt (Nat.lt_succ_of_lt lt2)), ⟨hz, hTI, ⟨_, _, hTO⟩, itB_new b1 g1, itB_new b2 g2⟩, fun c hcm => ?_, q⟩
  have hle : s1.heap.objs.size ≤ c := by
    have cases5 : c = s1.heap.objs.size + 4 ∨ c = s1.heap.objs.size + 2 ∨ c = s1.heap.objs.size + 3 ∨ c = s1.heap.objs.size ∨ c = s1.heap.objs.size + 1 := by simpa using hcm
    rcases cases5 with z | z | z | z | z
    · rw [z]; exact Nat.le_add_right _ _
    · rw [z]; exact Nat.le_add_right _ _
    · rw [z]; exact Nat.le_add_right _ _
    · rw [z]; exact Nat.le_refl _
    · rw [z]; exact Nat.le_add_right _ _
  exact I1.fpOk hle (I1.hok.fresh hle)
theorem walk_zipB {K : PySem.W.Frag} {b1 b2 : Bool} {a1 a2 : Addr} {xs ys : List V} {n : Nat} (hn : n = min xs.length ys.length) :
    Walk (ItzB K b1 b2 a1 a2) n (fun H => SqB K b1 H a1 xs ∧ SqB K b2 H a2 ys) (fun i H v H' => ∃ T x y, v = .ref T ∧ H T = none ∧ H' = upd H T (.tup [x, y]) ∧ xs[i]? = some x ∧ ys[i]? = some y) := by
  refine ⟨fun i _ hi q => ?_, fun _ q => ⟨xs, ys, q.1, q.2, by omega, by omega, by omega⟩, fun i H v H' _ q y => ?_⟩
  · have l1 : i < xs.length := by omega
    have l2 : i < ys.length := by omega
    exact ⟨xs, ys, xs[i], ys[i], q.1, q.2, List.getElem?_eq_getElem l1, List.getElem?_eq_getElem l2⟩
  · obtain ⟨T, x, z, h1, h2, h3, h4, h5⟩ := y
    exact ⟨T, x, z, h1, h2, h3, h4 xs q.1, h5 ys q.2⟩
/-! ### enumerate -/
def IteB (K : PySem.W.Frag) (b : Bool) (a : Addr) : It :=
  ⟨fun i H => ∃ (xs : List V) (x : V), SqB K b H a xs ∧ xs[i]? = some x, fun i H v H' => ∃ T x, v = .ref T ∧ H T = none ∧ H' = upd H T (.tup [.int (i : Nat), x]) ∧ ∀ xs, SqB K b H a xs → xs[i]? = some x, fun i H => ∃ xs : List V, SqB K b H a xs ∧ i = xs.length⟩
theorem turn_enumB {P : Program} {w : World} {K : PySem.W.Frag} {elts : List Expr} {kk : Nat} {tpos : Pos} (b : Bool) (a e it : Addr) (ne1 : e ≠ it) (ne2 : a ≠ it) (ne3 : e ≠ a) :
    Turn P w K (.Tuple elts kk tpos) (IteB K b a) [e, it] e (fun i h => (∃ old, IsEnum h e it ((i : Nat) : Int) old) ∧ itB b h it a i) where
  mem := by simp
  obj := fun i h st c hc => by
    obtain ⟨⟨old, he⟩, hi⟩ := st
    have two : c = e ∨ c = it := by simpa using hc
    rcases two with rfl | rfl
    · exact ⟨_, he, fun v q => nomatch q⟩
    · obtain ⟨o, vs, g1, g2⟩ := itB_ob hi
      exact ⟨o, g1, fun v q => by rw [g2] at q; cases q⟩
  keep := fun i h h' st k => by
    obtain ⟨⟨old, he⟩, hi⟩ := st
    exact ⟨⟨old, k e (by simp) _ he⟩, itB_at hi fun o q => k it (by simp) o q⟩
  item := by
    intro X hP hw hK hc i pins s σ H E I hf st hg
    subst hP hw hK
    obtain ⟨⟨old, he⟩, hit⟩ := st
    obtain ⟨xs, x, hq, hx⟩ := hg
    obtain ⟨us, r1, p1⟩ := seqB I hq
    obtain ⟨u, hu, ru⟩ := r1.get hx
    have elt : e < s.heap.objs.size := Heap.lt_size he
    have lu := (List.getElem?_eq_some_iff.mp hu).1
    refine wpAny_pyNext_enum_itemD (drawsB (show X.A.in1.handled = none from I.ok.hd hc) b it a ne2 us.toArray) he ⟨hit, p1⟩ (by simpa using lu) ne1 (by simp [ne1, ne3]) fun x' h' tk hP ho hst hT hsz hk => ?_
    have q1 : x' = u := by
      have e1 : us.toArray[i]? = some x' := hP
      rw [List.getElem?_toArray, hu] at e1
      exact (Option.some.inj e1).symm
    subst q1
    refine ⟨_, rfl, wpAny_letOwnedTupleGo_enum (s := { s with heap := h', toks := tk + 1 }) ho fun h'' he' sb => ?_⟩
    have T2 : h''.get? s.heap.objs.size = some { cls := .type "tuple", data := .seq #[.int i tk, x'] } := (sb.2 _ (Nat.ne_of_gt elt)).trans hT
    have new : ObjOk X.prog X.w (upd H s.heap.objs.size (.tup [.int (i : Nat), x])) h'' s.heap.objs.size (.tup [.int (i : Nat), x]) :=
      ⟨by show 2 ≤ sizeLine; decide, [.int i tk, x'], .cons ⟨_, rfl⟩ (.cons ru .nil), ⟨_, T2, rfl, _, rfl⟩⟩
    have I1 : Inv X pins σ (upd H s.heap.objs.size (.tup [.int (i : Nat), x])) { s with heap := h'', toks := tk + 1 } :=
      I.turnedNew (ch := [e, it]) (fun c ob hb q => (sb.2 c (fun z => hb (by rw [z]; simp))).trans (hk c ob (fun z => hb (by rw [z]; simp)) (fun z => hb (by rw [z]; simp)) q)) hf (Nat.le_refl _) new
    refine ⟨.ref s.heap.objs.size, _, I1, rfl, ⟨_, x, rfl, I.hok.fresh (Nat.le_refl _), rfl, fun ys hy => by rw [seqB_inj I hy hq]; exact hx⟩, ⟨⟨x', ?_⟩, itB_at hst.1 fun o q => (sb.2 it (Ne.symm ne1)).trans q⟩, fun c hb => ?_⟩
    · rw [show ((i + 1 : Nat) : Int) = (i : Int) + 1 by omega]
      exact he'
    · have hlt : c < s.heap.objs.size := by
        have two : c = e ∨ c = it := by simpa using hb
        rcases two with rfl | rfl
        · exact elt
        · obtain ⟨_, _, g, _⟩ := itB_ob hit
          exact Heap.lt_size g
      rw [upd_ne (Nat.ne_of_lt hlt)]
      exact (hf c hb).1
  done := by
    intro X hP hw hK hc i pins s σ H E I hf st hg
    subst hP hw hK
    obtain ⟨⟨old, he⟩, hit⟩ := st
    obtain ⟨xs, hq, rfl⟩ := hg
    obtain ⟨us, r1, p1⟩ := seqB I hq
    have e1 : us.toArray.size = xs.length := by rw [List.size_toArray]; exact r1.length.symm
    rw [← e1] at hit
    obtain ⟨f0, f1, f2, f3, f4, f5⟩ := hf it (by simp)
    exact wpAny_pyNext_enum_endD (drawsB (show X.A.in1.handled = none from I.ok.hd hc) b it a ne2 us.toArray) he ⟨hit, p1⟩ fun h' eb => ⟨rfl, I.turned (t' := s.toks) (fun c o hb q => eb c o hb q) f0 f1 f3 f4 f5⟩
  self := fun A i s Q E st h => let ⟨⟨_, he⟩, _⟩ := st; wpAny_pyIter_enum he h
def iEnumB (K : PySem.W.Frag) (ta : TA) : TI := fun σ H R => ta σ H fun vs H1 => ∃ a b xs, vs = [.ref a] ∧ SqB K b H1 a xs ∧ R (IteB K b a) H1
theorem pi_enumB {X : Cx} {e : Expr} {ta : TA} {p pos tpos : Pos} {elts : List Expr} {kk : Nat} (hg : Gl X "enumerate") (hm : X.mg "enumerate" = none) (ha : PA X [e] ta) (hs : starEach [e] X.env = [(false, eval e X.env)] := by rfl) :
    PI X (.Tuple elts kk tpos) (.Call (.Name "enumerate" p) [e] [] pos) (iEnumB X.K ta) := by
  refine ⟨fun pins s σ H R I h => ?_⟩
  refine Call_ (ld_blt I hg hm boot_enumerate (PyProof.Rows.callWith_type1 (thn (ha.run pos pins s σ H _ I h) fun us s1 ⟨vs, H1, I1, r1, q1⟩ => ?_) hs rfl))
  obtain ⟨a, b, xs, ex, hq, q⟩ := q1
  subst ex
  obtain rfl := Vals.ref1 r1
  obtain ⟨us, r2, p1⟩ := seqB I1 hq
  refine PySem.OwU.enum_begins0 (beginsB b a us.toArray) p1 fun h' he g1 hsz hk => wpAny_pyIter_enum he ?_
  have I2 : Inv X pins σ H1 { s1 with heap := h' } := I1.kept (t' := s1.toks) hk
  have lt1 := isB_lt p1
  refine ⟨s1.heap.objs.size + 1, [s1.heap.objs.size + 1, s1.heap.objs.size], _, _, H1, rfl, I2, turn_enumB b a (s1.heap.objs.size + 1) s1.heap.objs.size (Nat.succ_ne_self _) (Nat.ne_of_lt lt1) (Nat.ne_of_gt (Nat.lt_succ_of_lt lt1)), ⟨⟨.none, he⟩, itB_new b g1⟩, fun c hb => ?_, q⟩
  have hle : s1.heap.objs.size ≤ c := by
    have two : c = s1.heap.objs.size + 1 ∨ c = s1.heap.objs.size := by simpa using hb
    rcases two with z | z
    · rw [z]; exact Nat.le_add_right _ _
    · rw [z]; exact Nat.le_refl _
  exact I1.fpOk hle (I1.hok.fresh hle)
theorem walk_enumB {K : PySem.W.Frag} {b : Bool} {a : Addr} {xs : List V} : Walk (IteB K b a) xs.length (fun H => SqB K b H a xs) (fun i H v H' => ∃ T x, v = .ref T ∧ H T = none ∧ H' = upd H T (.tup [.int (i : Nat), x]) ∧ xs[i]? = some x) := by
  refine ⟨fun i _ hi q => ⟨xs, xs[i], q, by simp [hi]⟩, fun _ q => ⟨xs, q, rfl⟩, fun i H v H' _ q y => ?_⟩
  obtain ⟨T, x, h1, h2, h3, h4⟩ := y
  exact ⟨T, x, h1, h2, h3, h4 xs q⟩
/-! ### for x in it -/
def ItsB (K : PySem.W.Frag) (b : Bool) (a : Addr) : It := match b with
  | true => Itt K a
  | false => Itl K a
def iSeqB (K : PySem.W.Frag) (tl : TE) : TI := fun σ H R => tl σ H fun x H1 => ∃ a b xs, x = .ref a ∧ SqB K b H1 a xs ∧ R (ItsB K b a) H1
theorem pi_seqB {X : Cx} {tg l : Expr} {tl : TE} (hl : PE X l tl) : PI X tg l (iSeqB X.K tl) := by
  refine ⟨fun pins s σ H R I h => ?_⟩
  refine thn (hl.run pins s σ H _ I h) fun v s1 ⟨x, H1, I1, r1, q1⟩ => ?_
  obtain ⟨a, b, xs, rfl, hq, q⟩ := q1
  cases r1
  cases b with
  | true =>
    obtain ⟨its, rv, p, hz⟩ := I1.tuple hq
    exact wpAny_pyIter_tuple (show s1.heap.IsTuple a its.toArray from p) (pi_one (tk := s1.toks) I1 _ (turn_tuple a _) ⟨_, Heap.get?_push_size _ rfl, rfl, rfl⟩ q)
  | false =>
    obtain ⟨its, rv, p, hz⟩ := I1.list hq
    exact wpAny_pyIter_list p.isList (pi_one (tk := s1.toks) I1 _ (turn_list a _) ⟨_, Heap.get?_push_size _ rfl, rfl, rfl⟩ q)
theorem walk_seqB {K : PySem.W.Frag} : ∀ {b : Bool} {a : Addr} {xs : List V}, Walk (ItsB K b a) xs.length (fun H => SqB K b H a xs) (YAt xs)
  | true, _, _ => walk_tup
  | false, _, _ => walk_list
theorem SqB.ex {K : PySem.W.Frag} {H H1 : Hp} {a : Addr} {xs : List V} (e : Ex H H1) : ∀ {b : Bool}, SqB K b H a xs → SqB K b H1 a xs
  | true, h => ex_t e h
  | false, h => ex_l e h
theorem sqb_l {K : PySem.W.Frag} {H : Hp} {a : Addr} {xs : List V} (h : H a = some (.lst xs)) : SqB K false H a xs := sq_of h
theorem sqb_t {K : PySem.W.Frag} {H : Hp} {a : Addr} {xs : List V} (h : Tp K H a xs) : SqB K true H a xs := h.sq
theorem SqB.or {K : PySem.W.Frag} {H : Hp} {a : Addr} {xs : List V} : ∀ {b : Bool}, SqB K b H a xs → SqL K H a xs ∨ SqT K H a xs
  | true, h => .inr h
  | false, h => .inl h
end Own

/-! Written data of the module: tables from texts to ints, texts, tuples of such; the Hook that tells them. -/
namespace Own
open PySem PySem.Spec PyProof.Rows L2
open He (ga ma fAd eqO eqO_ok ba)
inductive Dat where
  | int (i : Int)
  | str (x : Str)
  | tup (ds : List Dat)
mutual
def datB (K : PySem.W.Frag) : Dat → Value → Bool
  | .int i, u => (match u with
    | .int j _ => decide (i = j)
    | _ => false)
  | .str x, u => (match u with
    | .str y _ => decide (x = y)
    | _ => false)
  | .tup ds, u => (match u with
    | .ref a => (match K.lookup a with
      | some ⟨.type c, none, .seq its _, _⟩ => decide (c = "tuple") && (Nat.ble its.size 1000 && datAll K ds its.toList)
      | _ => false)
    | _ => false)
def datAll (K : PySem.W.Frag) : List Dat → List Value → Bool
  | [], us => us.isEmpty
  | d :: ds, us => (match us with
    | u :: r => datB K d u && datAll K ds r
    | [] => false)
end
mutual
def IsDat (K : PySem.W.Frag) : Dat → V → Prop
  | .int i, v => v = .int i
  | .str x, v => v = .str x
  | .tup ds, v => ∃ (p : Addr) (xs : List V), v = .ref p ∧ (∀ H : Hp, Tp K H p xs) ∧ AllDat K ds xs
def AllDat (K : PySem.W.Frag) : List Dat → List V → Prop
  | [], xs => xs = []
  | d :: ds, xs => ∃ x r, xs = x :: r ∧ IsDat K d x ∧ AllDat K ds r
end
mutual
theorem datB_ok {K : PySem.W.Frag} : ∀ (d : Dat) (u : Value), datB K d u = true → ∃ v, RelV v u ∧ IsDat K d v
  | .int i, u, h => by
    unfold datB at h
    split at h
    · obtain rfl := of_decide_eq_true h
      exact ⟨.int i, ⟨_, rfl⟩, rfl⟩
    · cases h
  | .str x, u, h => by
    unfold datB at h
    split at h
    · obtain rfl := of_decide_eq_true h
      exact ⟨.str x, ⟨_, rfl⟩, rfl⟩
    · cases h
  | .tup ds, u, h => by
    unfold datB at h
    split at h
    · rename_i a
      split at h
      · rename_i c its n sl ho
        obtain ⟨h1, h2⟩ := ba h
        obtain ⟨h3, h4⟩ := ba h2
        obtain rfl := of_decide_eq_true h1
        obtain ⟨xs, rx, ix⟩ := datAll_ok ds its.toList h4
        have hz : its.size ≤ sizeLine := by
          rw [sizeLine_eq]
          have := Nat.le_of_ble_eq_true h3
          omega
        exact ⟨.ref a, rfl, a, xs, rfl, fun H => .inr ⟨_, its, n, ho, rfl, rfl, rfl, hz, rx⟩, ix⟩
      · cases h
    · cases h
theorem datAll_ok {K : PySem.W.Frag} : ∀ (ds : List Dat) (us : List Value), datAll K ds us = true → ∃ xs, Vals xs us ∧ AllDat K ds xs
  | [], us, h => by
    unfold datAll at h
    cases us with
    | nil => exact ⟨[], .nil, rfl⟩
    | cons u r => cases h
  | d :: ds, us, h => by
    unfold datAll at h
    cases us with
    | nil => cases h
    | cons u r =>
      obtain ⟨h1, h2⟩ := ba h
      obtain ⟨v, rv, iv⟩ := datB_ok d u h1
      obtain ⟨xs, rx, ix⟩ := datAll_ok ds r h2
      exact ⟨v :: xs, .cons rv rx, v, xs, rfl, iv, ix⟩
end
theorem IsDat.ints {K : PySem.W.Frag} {ns : List Int} {v : V} (h : IsDat K (.tup (ns.map .int)) v) : ∃ p, v = .ref p ∧ ∀ H : Hp, Tp K H p (ns.map V.int) := by
  unfold IsDat at h
  obtain ⟨p, xs, rfl, h1, h2⟩ := h
  have e : ∀ (ns : List Int) (xs : List V), AllDat K (ns.map .int) xs → xs = ns.map V.int := by
    intro ns
    induction ns with
    | nil =>
      intro xs h
      unfold AllDat at h
      exact h
    | cons n r ih =>
      intro xs h
      unfold AllDat at h
      obtain ⟨x, r', rfl, g1, g2⟩ := h
      unfold IsDat at g1
      rw [g1, ih r' g2]
      rfl
  rw [e ns xs h2] at h1
  exact ⟨p, rfl, h1⟩
/-- a table of the module -/
def DicK (K : PySem.W.Frag) (w : World) (mg : Str → Option Value) (x : Str) (kvs : List (Str × Dat)) : Prop := ∃ a, mg x = some (.ref a) ∧ ∀ q ∈ kvs, ∃ v, KDct K w a q.1 v ∧ IsDat K q.2 v
/-- NAME[k] -/
def tKD (K : PySem.W.Frag) (kvs : List (Str × Dat)) (te : TE) : TE := fun σ H Q => te σ H fun y H1 => ∃ z d, y = .str z ∧ (z, d) ∈ kvs ∧ ∀ v, IsDat K d v → Q v H1
section
variable {X : Cx} {K : PySem.W.Frag} {w : World}
theorem PE_imp {e : Expr} {t t' : TE} (h : PE X e t) (i : ∀ σ H Q, t' σ H Q → t σ H Q) : PE X e t' := ⟨fun pins s σ H Q I q => h.run pins s σ H Q I (i σ H Q q)⟩
theorem pe_kd {x : Str} {kvs : List (Str × Dat)} {e : Expr} {te : TE} {p pos : Pos} (D : DicK K w X.mg x kvs) (hg : Gl X x) (he : PE X e te) (hs : PlainIx e) (hK : X.K = K := by rfl) (hw : X.w = w := by rfl)
    (hd : (x == ("__debug__" : Str)) = false := by decide) : PE X (.Subscript (.Name x p) e pos) (tKD K kvs te) := by
  subst hK hw
  obtain ⟨a, ha, hv⟩ := D
  refine ⟨fun pins s σ H Q I h => ?_⟩
  refine Subscript_ (ld_glob I hg ha (thn (he.run pins s σ H _ I h) fun u s2 ⟨y, H2, I2, ry, q⟩ => ?_) hd)
  obtain ⟨z, d, rfl, hm, q⟩ := q
  obtain ⟨v, hk, hi⟩ := hv _ hm
  exact ix_kdict (.Name x p) e pins s2 σ H2 (.ref a) (.str z) (.ref a) u Q I2 rfl ry ⟨a, z, v, rfl, rfl, hk, q v hi⟩ (hs _ _)
/-- NAME, a constant of the module -/
def ConK (K : PySem.W.Frag) (mg : Str → Option Value) (x : Str) (d : Dat) : Prop := ∃ u v, mg x = some u ∧ RelV v u ∧ IsDat K d v
def tCon (K : PySem.W.Frag) (d : Dat) : TE := fun σ H Q => ∀ v, IsDat K d v → Q v H
theorem pe_konst {x : Str} {d : Dat} {p : Pos} (D : ConK K X.mg x d) (hg : Gl X x) (hd : (x == ("__debug__" : Str)) = false := by decide) : PE X (.Name x p) (tCon K d) := by
  obtain ⟨u, v, h1, h2, h3⟩ := D
  exact ⟨fun _ _ _ H _ I h => ld_glob I hg h1 ⟨v, H, I, h2, h v h3⟩ hd⟩
end
/-! ### the Hook -/
structure KoD where
  bs : BiL := []
  dics : List (Str × List (Str × Dat)) := []
  cons : List (Str × Dat) := []
def koB (K : PySem.W.Frag) (k : KoD) : Bool := biB K k.bs && ((k.dics.all fun d => eqO (PySem.W.nsIn K mainGlobals d.1) (some (some (.ref (ga K d.1)))) && d.2.all fun q => match PySem.W.nsIn K (ga K d.1) q.1 with
    | some (some u) => datB K q.2 u
    | _ => false) && k.cons.all fun d => match PySem.W.nsIn K mainGlobals d.1 with
    | some (some u) => datB K d.2 u
    | _ => false)
abbrev AlK : Type := AlE × Bool × List (Option (List (Option (Str × Int))))
def obsK (file : Str) (k : KoD) (fa : List He.Fa) (fn : List He.DefD) (ex : List ExD) (K : PySem.W.Frag) : AlK := (obsE file fa fn ex K, koB K k, k.dics.map fun d => He.dicW K (ga K d.1))
def valK (k : KoD) (fn : List He.DefD) (ex : List ExD) (w : World) : AlK := (valE fn ex, true, k.dics.map fun d => some (He.keysIn w.params (d.2.map (·.1))))
def SaysK (file : Str) (k : KoD) (fa : List He.Fa) (fn : List He.DefD) (ex : List ExD) (w : World) (K : PySem.W.Frag) : Prop := obsK file k fa fn ex K = valK k fn ex w
def obsKG (file : Str) (n : Nat) (k : KoD) (fa : List He.Fa) (fn : List He.DefD) (ex : List ExD) (g : Addr → Option Obj) : AlK := obsK file k fa fn ex (He.frG g (cStatics :: He.asD g n))
def hookK (file : Str) (n : Nat) (k : KoD) (fa : List He.Fa) (fn : List He.DefD) (ex : List ExD) : PySem.W.Hook where
  α := AlK
  obs := fun s => obsKG file n k fa fn ex s.heap.get?
  val := fun w => valK k fn ex w
  says := fun w h => ∃ K : PySem.W.Frag, K.In h ∧ SaysK file k fa fn ex w K
  of := fun _ _ e => ⟨_, He.frG_in, e⟩
  keeps := fun _ _ _ ⟨K, hK, c⟩ q => ⟨K, PySem.W.Frag.In.keeps hK q, c⟩
theorem obsKG_eq {file : Str} {n : Nat} {k : KoD} {fa : List He.Fa} {fn : List He.DefD} {ex : List ExD} {g : Addr → Option Obj} {s : Shared} (h : ∀ a, g a = s.heap.get? a) : obsKG file n k fa fn ex g = (hookK file n k fa fn ex).obs s := by
  have e : g = s.heap.get? := funext h
  rw [e] <;> rfl
section
variable {file : Str} {k : KoD} {fa : List He.Fa} {fn : List He.DefD} {ex : List ExD} {w : World} {K : PySem.W.Frag} {h : Heap} {mg : Str → Option Value}
theorem SaysK.e (c : SaysK file k fa fn ex w K) : SaysE file fa fn ex K := congrArg (fun z : AlK => z.1) c
theorem SaysK.saysD (c : SaysK file k fa fn ex w K) : He.SaysD fa fn K := c.e.saysD
theorem SaysK.ko (c : SaysK file k fa fn ex w K) : koB K k = true := congrArg (fun z : AlK => z.2.1) c
theorem SaysK.bi (c : SaysK file k fa fn ex w K) (X : K.In h) (G : h.Ns mainGlobals mg) (i : Nat) {x : Str} {b : String} (e : k.bs[i]? = some (x, b) := by rfl) : mg x = some (.builtin b) := by
  have := List.all_eq_true.mp (ba c.ko).1 (x, b) (List.mem_of_getElem? e)
  exact PySem.W.mg_of X G (eqO_ok this)
theorem SaysK.dic (c : SaysK file k fa fn ex w K) (X : K.In h) (G : h.Ns mainGlobals mg) (i : Nat) {x : Str} {kvs : List (Str × Dat)} (e : k.dics[i]? = some (x, kvs) := by rfl) : DicK K w mg x kvs := by
  obtain ⟨c1, c2⟩ := ba (List.all_eq_true.mp (ba (ba c.ko).2).1 (x, kvs) (List.mem_of_getElem? e))
  have t1 : k.dics.map (fun d => He.dicW K (ga K d.1)) = k.dics.map fun d => some (He.keysIn w.params (d.2.map (·.1))) := congrArg (fun z : AlK => z.2.2) c
  have t2 : (k.dics.map fun d => He.dicW K (ga K d.1))[i]? = (k.dics.map fun d => some (He.keysIn w.params (d.2.map (·.1))))[i]? := by rw [t1]
  rw [List.getElem?_map, List.getElem?_map, e] at t2
  obtain ⟨es, n, D⟩ := He.dicW_ok (Option.some.inj t2)
  refine ⟨_, PySem.W.mg_of X G (eqO_ok c1), fun q hq => ?_⟩
  have c3 := List.all_eq_true.mp c2 q hq
  cases z : PySem.W.nsIn K (ga K x) q.1 with
  | none =>
    rw [z] at c3
    cases c3
  | some r =>
    rw [z] at c3
    cases r with
    | none => cases c3
    | some u =>
      obtain ⟨v, rv, iv⟩ := datB_ok q.2 u c3
      exact ⟨v, ⟨es, n, u, D.at_, D.lit, z, rv⟩, iv⟩
theorem SaysK.con (c : SaysK file k fa fn ex w K) (X : K.In h) (G : h.Ns mainGlobals mg) (i : Nat) {x : Str} {d : Dat} (e : k.cons[i]? = some (x, d) := by rfl) : ConK K mg x d := by
  have c1 := List.all_eq_true.mp (ba (ba c.ko).2).2 (x, d) (List.mem_of_getElem? e)
  cases z : PySem.W.nsIn K mainGlobals x with
  | none =>
    rw [show (match PySem.W.nsIn K mainGlobals x with
      | some (some u) => datB K d u
      | _ => false) = false by rw [z]] at c1
    cases c1
  | some r =>
    cases r with
    | none =>
      rw [show (match PySem.W.nsIn K mainGlobals x with
        | some (some u) => datB K d u
        | _ => false) = false by rw [z]] at c1
      cases c1
    | some u =>
      have c2 : datB K d u = true := by
        have c1' : (match PySem.W.nsIn K mainGlobals x with
          | some (some u) => datB K d u
          | _ => false) = true := c1
        rw [z] at c1'
        exact c1'
      obtain ⟨v, rv, iv⟩ := datB_ok d u c2
      exact ⟨u, v, PySem.W.mg_of X G z, rv, iv⟩
end
end Own

/-! Tuples by their addresses. -/
namespace Own
open PySem PySem.Spec PyProof.Rows L2 Evl
structure LstG {α : Type} (f : α → List V) (K : PySem.W.Frag) (H : Hp) (es : List Addr) (xs : List α) : Prop where
  len : es.length = xs.length
  at_ : ∀ (i : Nat) e x, es[i]? = some e → xs[i]? = some x → Tp K H e (f x)
section
variable {α : Type} {f : α → List V} {K : PySem.W.Frag} {H H1 : Hp} {es : List Addr} {xs : List α}
theorem LstG.nil : LstG f K H [] [] := ⟨rfl, fun i e x h => by cases h⟩
theorem LstG.ex (l : LstG f K H es xs) (e : Ex H H1) : LstG f K H1 es xs := ⟨l.len, fun i a x h1 h2 => (l.at_ i a x h1 h2).ex e⟩
theorem LstG.mut {wr : Addr} {ys zs : List V} (l : LstG f K H es xs) (hw : H wr = some (.lst ys)) : LstG f K (upd H wr (.lst zs)) es xs := ⟨l.len, fun i a x h1 h2 => (l.at_ i a x h1 h2).mut hw⟩
theorem LstG.push {e : Addr} {x : α} (l : LstG f K H es xs) (t : Tp K H e (f x)) : LstG f K H (es ++ [e]) (xs ++ [x]) := by
  refine ⟨by rw [List.length_append, List.length_append, l.len]; rfl, fun i a y h1 h2 => ?_⟩
  by_cases c : i < es.length
  · rw [List.getElem?_append_left c] at h1
    rw [List.getElem?_append_left (by rw [← l.len]; exact c)] at h2
    exact l.at_ i a y h1 h2
  · rw [List.getElem?_append_right (by omega)] at h1
    rw [List.getElem?_append_right (by rw [← l.len]; omega), ← l.len] at h2
    have : i - es.length = 0 := by
      have := (List.getElem?_eq_some_iff.mp h1).1
      simp at this
      omega
    rw [this] at h1 h2
    cases h1
    cases h2
    exact t
theorem LstG.app {es2 : List Addr} {xs2 : List α} (l : LstG f K H es xs) (l2 : LstG f K H es2 xs2) : LstG f K H (es ++ es2) (xs ++ xs2) := by
  refine ⟨by rw [List.length_append, List.length_append, l.len, l2.len], fun i a y h1 h2 => ?_⟩
  by_cases c : i < es.length
  · rw [List.getElem?_append_left c] at h1
    rw [List.getElem?_append_left (by rw [← l.len]; exact c)] at h2
    exact l.at_ i a y h1 h2
  · rw [List.getElem?_append_right (by omega)] at h1
    rw [List.getElem?_append_right (by rw [← l.len]; omega), ← l.len] at h2
    exact l2.at_ _ a y h1 h2
/-- the i-th -/
theorem LstG.get {i : Nat} {v : V} (l : LstG f K H es xs) (h : (es.map V.ref)[i]? = some v) : ∃ e x, v = .ref e ∧ es[i]? = some e ∧ xs[i]? = some x ∧ Tp K H e (f x) := by
  rw [List.getElem?_map] at h
  cases he : es[i]? with
  | none =>
    rw [he] at h
    cases h
  | some e =>
    rw [he] at h
    cases h
    have hi := (List.getElem?_eq_some_iff.mp he).1
    have hx : xs[i]? = some (xs[i]'(by rw [← l.len]; exact hi)) := List.getElem?_eq_getElem _
    exact ⟨e, _, rfl, rfl, hx, l.at_ i e _ he hx⟩
theorem LstG.known {N : Nat} {a l : Addr} {R : Hp} (t : LstG f K H es xs) (d : Deal N H a l) (m : ∀ b o, b ≠ a → b ≠ l → H b = some o → R b = some o) : LstG f K R es xs := ⟨t.len, fun i e x h1 h2 => tp_known (t.at_ i e x h1 h2) d m⟩
end
/-- ints -/
def iL (ns : List Int) : List V := ns.map V.int
end Own

namespace PySem
namespace OwXword
open PySem.W PySem.Calls PyProof.Rows PySem.HandSPX PySem.OwX
/-! ### the text of __init__, for one field -/
def iA (p1 p2 : Pos) : Arguments := { posonlyargs := [], args := [{ arg := "self", annotation := none, pos := p1 }, { arg := "word", annotation := none, pos := p2 }], vararg := none, kwonlyargs := [], kw_defaults := [], kwarg := none, defaults := [] }
def iS : Scope := { kind := .function, names := [(PySem.Str.ofString "self", .local), (PySem.Str.ofString "word", .local), (PySem.Str.ofString "__class__", .free), (PySem.Str.ofString "super", .globalImplicit)], isGenerator := false, isCoroutine := false, more := [] }
def sSup (msg : Str) (p0 p1 p2 p3 p4 p5 : Pos) : Stmt := .Expr (.Call (.Attribute (.Call (.Name "super" p0) [] [] p1) "__init__" p2) [.Constant (.str msg) 0 p3] [] p4) p5
def sStore (q1 q2 q3 q4 : Pos) : Stmt := .Assign [.Attribute (.Name "self" q1) "word" q2] (.Name "word" q3) q4
/-- what the written part says of such a class at C, over the one at M, and of its __init__ at fI -/
structure OexT (P : Program) (K : Frag) (C M fI : Addr) : Prop where
  cls : ∃ nm q N bs sn sub ab col dd k0 k1 k2 k3 k5, K.lookup C = some (excClassObj nm q C N bs (.ref M :: exT) true sn sub ab col dd k0 k1 k2 k3 k5 "Exception.__new__")
  sa : findIn K (.ref C) "__setattr__" = some (some (.builtin "object.__setattr__"))
  ga : findIn K (.ref C) "__getattribute__" = some (some (.builtin "BaseException.__getattribute__"))
  gg : findIn K (.ref C) "__getattr__" = some none
  noN : findIn K (.ref C) "word" = some none
  iC : findIn K (.ref C) "__init__" = some (some (.ref fI))
  tC : typeIn K (.ref fI) = some (.type "function")
  kC : keepIn K (.ref C) = true
  exC : subIn K (.ref C) (.type "BaseException") = some true
  exE : subIn K (.ref C) (.type "Exception") = some true
  tyC : typeIn K (.ref C) = some (.type "type")
  hdC : hasDictIn K C = true
  te : exmOne K (.ref C) (.ref C) = some true
  sI : alongIn K "__init__" (.ref M :: exT) = some (some (.builtin "Exception.__init__"))
  op : nsIn K cStatics "thirdparty.any" = some none
  sup : nsIn K mainGlobals "super" = some none
  top : (P.main.scope.names.lookup ("super" : Str)).isSome = false
  fn : ∃ (qual : Str) (oc : Value) (od : Option Addr) (doc pm : Value) (an : Option Addr) (cda cc : Addr) (ct : Value) (osl : Array (Option Value)) (msg : Str) (p1 p2 r0 r1 r2 r3 r4 r5 q1 q2 q3 q4 : Pos) (ccl cl : Value) (cdd cld : Option Addr) (ccs csl : Array (Option Value)) (vs : Array Value) (tf : Tok),
    K.lookup fI = some ⟨oc, od, .func (ksFn "__init__" qual (iA p1 p2) [sSup msg r0 r1 r2 r3 r4 r5, sStore q1 q2 q3 q4] iS .none .none doc pm an (.ref cda) ct cc), osl⟩ ∧ codeIn K (.ref cda) qual = true ∧
      K.lookup cda = some ⟨ccl, cdd, .fields vs, ccs⟩ ∧ vs[2]? = some (.str P.main.file tf) ∧ K.lookup cc = some ⟨cl, cld, .cell (some (.ref C)), csl⟩ ∧
      (∀ env : Env, ∃ pl : Sem Bool, eval (.Call (.Attribute (.Call (.Name "super" r0) [] [] r1) "__init__" r2) [.Constant (.str msg) 0 r3] [] r4) env = (do
        let ov ← attributeBase (.Call (.Name "super" r0) [] [] r1) "__init__" env (eval (.Call (.Name "super" r0) [] [] r1) env)
        standAt r2.atName
        let (f, first) ← holding [ov] (getMethod ov "__init__" pl)
        callWith r4 f first (backTo r4 (starEach [.Constant (.str msg) 0 r3] env)) [])) ∧
      (∀ env : Env, swapsWith (.Call (.Attribute (.Call (.Name "super" r0) [] [] r1) "__init__" r2) [.Constant (.str msg) 0 r3] [] r4) none r5.line env = pure false) ∧
      (∀ env : Env, swapsWith (.Name "word" q3) (some (.Attribute (.Name "self" q1) "word" q2)) q4.line env = pure false)
/-- what __init__ leaves of a fresh exception at x -/
structure InitEnd (h h' : Heap) (x C dx t1 : Addr) (v : Value) : Prop where
  keep : ∀ b o, b ≠ x → h.get? b = some o → h'.get? b = some o
  obj : h'.get? x = some { cls := .ref C, dict := some dx, data := .fields #[.ref t1, .none, .none, .none, .bool false, .none] }
  dbig : h.objs.size ≤ dx
  dne : dx ≠ x
  ns : h'.Ns1 dx (fun y => if y = "word" then some v else none)
section
variable {prog : Program} {w : World} {A : Around} {E : Value → Shared → Prop} {R : Result → Shared → Prop} {s : Shared} {K : Frag} {mg mb : Str → Option Value} {C M fI : Addr}
theorem inv_init (T : OexT prog K C M fI) {x t0 : Addr} {v : Value} (X : K.In s.heap) (hlim : s.heap.NoLimit) (hg : s.heap.Ns mainGlobals mg) (hb : s.heap.Ns builtinsNs mb) (hbb : ∀ y : Str, y ≠ "__name__" → mb y = bootBuiltins y)
    (hx : s.heap.get? x = some (excO C t0)) (hnx : K.lookup x = none) (hroom : A.depth < recursionLimit)
    (hq : ∀ h' tk dx t1, InitEnd s.heap h' x C dx t1 v → R (.ok (.ret .none)) { s with heap := h', toks := tk }) :
    codeAny (model prog w) A (.call (.ref fI) ⟨[.ref x, v], []⟩) R s := by
  obtain ⟨qual, oc, od, doc, pm, an, cda, cc, ct, osl, msg, p1, p2, r0, r1, r2, r3, r4, r5, q1, q2, q3, q4, ccl, cl, cdd, cld, ccs, csl, vs, tf, ho, hcd, hcda, hvs, hcc, hev, hsw, hsw2⟩ := T.fn
  obtain ⟨nm, q, N, bs, sn, sub, ab, col, dd, k0, k1, k2, k3, k5, hC⟩ := T.cls
  have hcl : clsIn K C = some { name := nm, bases := bs, mro := .ref C :: .ref M :: exT, ns := N, qualname := q, hasDict := true, slotNames := sn, subclasses := sub, abstract := ab, collection := col, hasDel := false } := by unfold clsIn; rw [hC] <;> rfl
  refine ks_codeAny_call_defAt (fd := ksFn "__init__" qual (iA p1 p2) [sSup msg r0 r1 r2 r3 r4 r5, sStore q1 q2 q3 q4] iS .none .none doc pm an (.ref cda) ct cc) (body := [sSup msg r0 r1 r2 r3 r4 r5, sStore q1 q2 q3 q4]) (binds := [("self", .ref x), ("word", v)])
    hroom (X _ _ ho) rfl hlim (codeRec_of X hcd) rfl (BindsTo.of_eq (by first | rfl | with_unfolding_all rfl)) (show ∀ y ∈ iS.names, y.2 ≠ .cell by decide +kernel) (by simp only [List.mem_cons, List.not_mem_nil, or_false]; rintro y (rfl | rfl) <;> rfl) (fun h1 hns hk => ?_) rfl rfl rfl
  have X1 : K.In h1 := X.keeps hk
  have hx1 := hk _ _ hx
  have hD1 : h1.get? C = some (excClassObj nm q C N bs (.ref M :: exT) true sn sub ab col dd k0 k1 k2 k3 k5 "Exception.__new__") := X1 _ _ hC
  have hxC : x ≠ C := fun e => by
    rw [e, hD1] at hx1
    cases hx1
  have hmC : Looks (model prog w) h1 (isSubtype (.ref C) (.ref C)) true := looks_mroIn X1 (OwX.mro2_has hcl rfl (by simp))
  have hmg : mg "super" = none := mg_none_of X hg T.sup
  generalize hen : callEnv (ksFn "__init__" qual (iA p1 p2) [sSup msg r0 r1 r2 r3 r4 r5, sStore q1 q2 q3 q4] iS .none .none doc pm an (.ref cda) ct cc) s.heap.objs.size fI = en
  have en1 : en.scope = iS := by rw [← hen] <;> rfl
  have en2 : en.func = some fI := by rw [← hen] <;> rfl
  have en3 : en.code = .ref cda := by rw [← hen] <;> rfl
  have en4 : en.globals = mainGlobals := by rw [← hen] <;> rfl
  have en5 : en.builtins = builtinsNs := by rw [← hen] <;> rfl
  have en6 : en.cells = [(PySem.Str.ofString "__class__", cc)] := by rw [← hen] <;> rfl
  have en7 : en.locals = s.heap.objs.size := by rw [← hen] <;> rfl
  have kd : ∀ y : Str, en.kindOf y = iS.names.lookup y := fun y => by
    show en.scope.names.lookup y = _
    rw [en1]
  obtain ⟨pl, hev1⟩ := hev en
  -- super()
  refine ks_wpAt_execs_cons (ks_wpAt_Expr_any (ks_wpAt_MethodCall (pl := pl) (ks_wpAt_super_base (hks := by rw [kd]; decide +kernel) (hkc := by rw [kd]; decide +kernel) (hat := by decide) (hfu := en2) (hf := X1 _ _ ho) (hfd := rfl) (hp := rfl) (hco := en3) (hcc := X1 _ _ hcda) (hoc := rfl) (hvs := hvs) (hfile := by simp) (htop := T.top) ?_) hev1) (by unfold interactive; rw [en1]; rfl) (hsw en))
  have kf : en.scope.kind = .function := by rw [en1] <;> rfl
  refine ks_loadName_global kf (by rw [kd]; decide +kernel) (loadGlobal_builtin (by rw [en4]; exact hg.keeps hk) hmg (by rw [en5]; exact hb.keeps hk) ((hbb _ (by decide +kernel)).trans (by decide +kernel)) ⟨rfl, ?_⟩)
  refine wpAny_loadName_free kf (by rw [kd]; decide +kernel) (by rw [en6]; rfl) ⟨_, X1 _ _ hcc, rfl⟩ ?_
  refine wpAny_loadName_local (v := .ref x) kf (show en.kindOf "self" = some .local by rw [kd]; decide +kernel) (by rw [en7]; exact hns) (by rfl) ?_
  refine ks_wpAny_isType_cls hD1 rfl ⟨rfl, ?_⟩
  refine ks_wpAny_call_super hD1 rfl hx1 rfl (fun c e => by cases e) hmC (fun h2 hso k2 => ?_)
  have X2 : K.In h2 := X1.keeps k2
  have hx2 := k2 _ _ hx1
  have I2 : InstAt h2 x (excO C t0) C none := ⟨hx2, rfl, rfl, trivial⟩
  refine ESX.getMethod_super hso (looks_opaque X2 T.op) (l₀ := .ref C :: .ref M :: exT) (l := .ref M :: exT) ?_ (by simp [List.dropWhile_cons]) X2 T.sI hxC (by decide) (I2.type.andThen (looks_subIn X2 T.exE)) ?_
  · exact (looks_clsIn X2 hcl).andThen .now
  refine ESX.callWith_bound (x := x) (first := []) ?_
  refine Calls.spliced_cons (Calls.Constant_str (pos := r3) (k := 0) (Calls.spliced_nil ?_))
  have k3 : ∀ b o, h2.get? b = some o → (h2.push (ESX.bw x)).get? b = some o := fun b o e => Heap.get?_push_of_some _ e
  refine ⟨Heap.get?_push_size _ rfl, ?_⟩
  refine ESX.call_bw (C := C) (e := x) (t0 := t0) (k3 _ _ (k2 _ _ hD1)) (k3 _ _ hx2) (Heap.get?_push_size _ rfl) (by rw [sizeLine_eq]; show (1 : Nat) ≤ 16777216; decide) (fun h4 t1 k4 hx4 => ?_)
  have kk : ∀ b o, b ≠ x → s.heap.get? b = some o → h4.get? b = some o := fun b o hb e => k4 b o hb (k3 b o (k2 b o (hk b o e)))
  have X4 : K.In h4 := fun a o e => kk a o (fun z => by
    rw [z, hnx] at e
    cases e) (X a o e)
  have hns4 : h4.Ns en.locals (fun y => [(PySem.Str.ofString "self", Value.ref x), (PySem.Str.ofString "word", v)].reverse.lookup y) := by
    rw [en7]
    obtain ⟨o, es, ep, e1, e2⟩ := id hns
    exact ⟨o, es, ep, k4 _ _ (fun z => absurd (Heap.lt_size hx) (by rw [← z]; exact Nat.lt_irrefl _)) (k3 _ _ (k2 _ _ e1)), e2⟩
  show wpAt _ _ _ _ _ _ _
  refine wpAt_of_wpAny ?_
  -- self."word" = "word"
  show wpAny _ _ (execs _ _) _ _ _
  refine wpAny_execs_cons (plainObj_wpAny_Assign_Attribute ?_ (hsw2 en))
  refine wpAny_Name (wpAny_loadName_local (v := v) kf (by rw [kd]; decide +kernel) hns4 (by rfl) ?_) (by decide)
  refine wpAny_Name (wpAny_loadName_local (v := .ref x) kf (by rw [kd]; decide +kernel) hns4 (by rfl) ?_) (by decide)
  refine set_plain X4 (ox := excO C t1) (od := none) ⟨hx4, rfl, rfl, trivial⟩ T.sa ?_
  refine OwX.osa_two_new X4 hx4 hcl rfl rfl T.noN (fun h5 tk5 dx k5 dn dne hx5 hn5 => ?_)
  show wpAny _ _ (execs _ _) _ _ _
  refine wpAny_execs_nil (hq h5 tk5 dx t1 ⟨fun b o hb e => k5 b o hb (kk b o hb e), hx5, ?_, dne, hn5⟩)
  obtain ⟨o, es, ep, e1, e2⟩ := hns4
  rw [en7] at e1
  exact Nat.le_trans (Nat.le_of_lt (Heap.lt_size e1)) dn
/-- a made error: what stands at e (its dict at d) -/
structure Made (h h' : Heap) (e C d : Addr) (v : Value) : Prop where
  keep : ∀ b o, h.get? b = some o → h'.get? b = some o
  new : h.objs.size ≤ e
  obj : ∃ oe vs, h'.get? e = some oe ∧ oe.cls = .ref C ∧ oe.dict = some d ∧ oe.data = .fields vs ∧ vs[1]? = some .none
  dbig : h.objs.size ≤ d
  dne : d ≠ e
  ns : h'.Ns1 d (fun y => if y = "word" then some v else none)
theorem inv_made (T : OexT prog K C M fI) {v : Value} (X : K.In s.heap) (hlim : s.heap.NoLimit) (hg : s.heap.Ns mainGlobals mg) (hb : s.heap.Ns builtinsNs mb) (hbb : ∀ y : Str, y ≠ "__name__" → mb y = bootBuiltins y) (hroom : A.depth + 1 < recursionLimit)
    (hq : ∀ h' tk e d, Made s.heap h' e C d v → R (.ok (.ret (.ref e))) { s with heap := h', toks := tk }) :
    codeAny (model prog w) A (.call (.ref C) ⟨[v], []⟩) R s := by
  obtain ⟨nm, q, N, bs, sn, sub, ab, col, dd, k0, k1, k2, k3, k5, hC⟩ := T.cls
  obtain ⟨hp, g, dr, tk, os⟩ := s
  have k : ∀ b o, hp.get? b = some o → ((hp.push (kdv_tup [v])).push (excO C hp.objs.size)).get? b = some o := fun b o e => Heap.get?_push_of_some _ (Heap.get?_push_of_some _ e)
  have hget : ((hp.push (kdv_tup [v])).push (excO C hp.objs.size)).get? (hp.objs.size + 1) = some (excO C hp.objs.size) := by heap_get
  have hnx : K.lookup (hp.objs.size + 1) = none := by
    cases e : K.lookup (hp.objs.size + 1) with
    | none => rfl
    | some o =>
      have z : hp.get? (hp.objs.size + 1) = some o := X _ _ e
      exact absurd (Nat.lt_of_succ_lt (Heap.lt_size z)) (Nat.lt_irrefl _)
  refine call_own F.excBase_Exception (bm := .ref M :: exT) (fun Y => by rw [List.contains_cons]; rfl) (X _ _ hC) (looks_findIn X T.iC) (fun self => bind_fn X self T.tC) (by rw [sizeLine_eq]; show (1 : Nat) ≤ 16777216; decide) ?_
  refine inv_init (s := ⟨(hp.push (kdv_tup [v])).push (excO C hp.objs.size), g, dr, tk, os⟩) T (X.keeps k) (hlim.keeps k) (hg.keeps k) (hb.keeps k) hbb hget hnx ?_ fun h' tk' dx t1 ⟨k', hx, dn, dne, hns⟩ => ?_
  · show A.depth + 1 < recursionLimit
    exact hroom
  · have old : ∀ b o, hp.get? b = some o → h'.get? b = some o := fun b o e => k' b o (Nat.ne_of_lt (Nat.lt_succ_of_lt (Heap.lt_size e))) (k b o e)
    have z : hp.objs.size + 1 + 1 ≤ dx := by
      have q := dn
      rw [Heap.size_push, Heap.size_push] at q
      exact q
    exact ⟨rfl, hq h' tk' (hp.objs.size + 1) dx ⟨old, Nat.le_succ _, ⟨_, _, hx, rfl, rfl, rfl, rfl⟩, Nat.le_trans (Nat.le_trans (Nat.le_succ _) (Nat.le_succ _)) z, dne, hns⟩⟩
end
end OwXword
end PySem

namespace Own
open PySem PySem.Spec PyProof.Rows L2
theorem relO_word {v : V} {v' : Value} (r : RelV v v') (f : Str) : RelO (List.lookup f [(("word" : Str), v)]) (if f = "word" then some v' else none) := by
  by_cases hw : f = "word"
  · subst hw
    rw [if_pos rfl]
    have q : List.lookup ("word" : Str) [(("word" : Str), v)] = some v := by simp [List.lookup]
    rw [q]
    exact r
  · rw [if_neg hw]
    have qw : (f == ("word" : Str)) = false := by simpa using hw
    have q2 : List.lookup f [(("word" : Str), v)] = none := by simp [List.lookup, qw]
    rw [q2]
    trivial
/-- C(e) -/
def tMk_word (C : Addr) (ta : TA) : L2.St → Hp → XK → Prop := fun σ H Q => ta σ H fun vs H1 => ∃ v, vs = [v] ∧ ∀ d, H1 d = none → Q (.ref C) (some d) (upd H1 d (.xd [(("word" : Str), v)]))
section
variable {X : Cx} {C M fI : Addr} {nm : Str}
theorem pmk_word {a : Expr} {ta : TA} {p pos : Pos} {k : Nat} (T : PySem.OwXword.OexT X.prog X.K C M fI) (gC : X.mg nm = some (.ref C)) (hr : Room k X.A) (ha : PA X [a] ta) (hg : Gl X nm) (hdb : (nm == ("__debug__" : Str)) = false := by decide)
    (he : starEach (a :: []) X.env = (false, eval a X.env) :: starEach [] X.env := by rfl) (hpl : (backTo pos (starEach [] X.env)).any (·.1) = false := by rfl) :
    PMk X (.Call (.Name nm p) [a] [] pos) (tMk_word C ta) := by
  intro pins s σ H Q I h
  refine wpAny_Call_Name_kw (ld_glob I hg gC ?_ hdb)
  refine PySem.W.callWith_K (h₀ := X.base) I.ok.mod.kin T.kC (thn (ha.run pos pins s σ H _ I h) fun us s1 hh => ?_) he hpl
  obtain ⟨vs, H1, I1, r1, v, ev, q1⟩ := hh
  subst ev
  refine ⟨I1.kIn, ?_⟩
  cases r1 with
  | cons rv rn =>
    rename_i v' us'
    cases rn
    show wpAny _ _ (call (.ref C) [v']) _ _ _
    have hlim := I1.nolimit
    obtain ⟨mb, hb, hbb⟩ := I1.ok.mod.blt
    have hg1 := I1.ok.mod.glob.keeps I1.bk
    have hb1 := hb.keeps I1.bk
    obtain ⟨hp, g, dr, tk, os⟩ := s1
    refine wpAny_call (PySem.OwXword.inv_made T I1.kIn hlim hg1 hb1 hbb (by have := hr.dp; omega) fun h' tk' e d M => ?_)
    show MkP X pins σ Q (.ref e) ⟨h', g, dr, tk', os⟩
    obtain ⟨oe, fv, hoe, hc, hd, hdat, h1⟩ := M.obj
    have hns := M.ns
    obtain ⟨G', g1, g2⟩ := restrict h' fun b => decide (b ≠ e)
    have gk : ∀ b, b ≠ e → G'.get? b = h'.get? b := fun b hb => g1 b (decide_eq_true hb)
    have ge : G'.get? e = none := g2 e (by simp)
    have old : ∀ b o, hp.get? b = some o → G'.get? b = some o := fun b o q => (gk b (Nat.ne_of_lt (Nat.lt_of_lt_of_le (Heap.lt_size q) M.new))).trans (M.keep b o q)
    have ob : ObjOk X.prog X.w (upd H1 d (.xd [(("word" : Str), v)])) G' d (.xd [(("word" : Str), v)]) :=
      ⟨_, hns.at (fun o q => (gk d M.dne).trans q), fun f => relO_word rv f⟩
    have J : Inv X pins σ (upd H1 d (.xd [(("word" : Str), v)])) ⟨G', g, dr, tk', os⟩ := I1.laid (t' := tk') old M.dbig ob
    refine ⟨e, oe, fv, ⟨G', g, dr, tk', os⟩, _, .ref C, some d, rfl, J, fun b o q => ?_, ge, hoe, ⟨hc, hd⟩, hdat, h1, ?_, rfl, I1.bare, raises_own T.exC T.tyC, q1 d (I1.hok.fresh M.dbig)⟩
    · by_cases hb : b = e
      · have q' : G'.get? b = some o := q
        rw [hb, ge] at q'
        cases q'
      · exact (gk b hb).symm.trans q
    · rw [upd_ne (Ne.symm M.dne)]
      exact I1.hok.fresh M.new
/-- e."word" of the exception that the suite holds -/
def tBy_word (C : Addr) (a : Addr) (cls : Value) (d : Option Addr) (te : TE) : TE := fun σ H Q => te σ H fun x H1 => x = .ref a ∧ cls = .ref C ∧ ∃ (dd : Addr) (v : V), d = some dd ∧ H1 dd = some (.xd [(("word" : Str), v)]) ∧ Q v H1
theorem pe_by_word {a : Addr} {oe : Obj} {cls : Value} {d : Option Addr} {pn : List (Addr × Obj)} {e : Expr} {te : TE} {pos : Pos} (T : PySem.OwXword.OexT X.prog X.K C M fI) (hz : Zc cls d oe) (hf : ∃ vs, oe.data = .fields vs) (he : PE (X.suite a ((a, oe) :: pn)) e te)
    (hb : attributeBase e "word" X.env (eval e X.env) = eval e X.env := by rfl) :
    PE (X.suite a ((a, oe) :: pn)) (.Attribute e "word" pos) (tBy_word C a cls d te) := by
  refine ⟨fun pins s σ H Q I h => ?_⟩
  refine attr_of hb (thn (he.run pins s σ H _ I h) fun u s1 hh => ?_)
  obtain ⟨x, H1, I1, rx, ex, ec, dd, v, ed, ea, q⟩ := hh
  subst ex
  obtain rfl : u = Value.ref a := rx
  subst ec
  subst ed
  obtain ⟨ha, _⟩ := I1.pin (a, oe) (List.mem_append_left _ List.mem_cons_self)
  obtain ⟨vs, hd⟩ := hf
  have hx : ObjOk X.prog X.w H1 s1.heap dd (.xd [(("word" : Str), v)]) := I1.hok dd _ ea
  obtain ⟨mA, hns, hr⟩ := hx
  obtain ⟨od, ho, hl⟩ := lookIn_ns hns
  have l : List.lookup ("word" : Str) [(("word" : Str), v)] = some v := by simp [List.lookup]
  obtain ⟨u, hu, ru⟩ := RelO.some_of (v := v) (o := mA "word") (by rw [← l]; exact hr "word")
  have J : PySem.W.InstAt s1.heap a oe C (some od) := ⟨ha, hz.1, by unfold PySem.W.notCls; rw [hd] <;> rfl, by rw [hz.2]; exact ho⟩
  exact PySem.HandSPX.exc_get I1.kIn J T.ga T.gg T.exC (PySem.W.findObj_own T.hdC T.noN rfl (by rw [hl, hu])) (handed_of ru) ⟨v, H1, I1.tok _, ru, q⟩
end
end Own

/-! Errors with a word; texts in tables; a box of draws: one list [cell, mix, count]. -/
namespace Own
open PySem PySem.Spec PyProof.Rows L2 Evl
open He (ga ma fAd eqO eqO_ok ba)
section
variable {file : Str} {K : PySem.W.Frag}
/-- one of word -/
def exWord (nm base msg qual : Str) (p1 p2 r0 r1 r2 r3 r4 r5 q1 q2 q3 q4 : Pos) : ExD := ⟨nm, base, "word", qual, PySem.OwXword.iA p1 p2, [PySem.OwXword.sSup msg r0 r1 r2 r3 r4 r5, PySem.OwXword.sStore q1 q2 q3 q4], PySem.OwXword.iS⟩
theorem oex_word {P : Program} {nm base msg qual : Str} {p1 p2 r0 r1 r2 r3 r4 r5 q1 q2 q3 q4 : Pos} (st : statB K = true) (c : (exWord nm base msg qual p1 p2 r0 r1 r2 r3 r4 r5 q1 q2 q3 q4).ok P.main.file K = true ∧ exW K nm = (exWord nm base msg qual p1 p2 r0 r1 r2 r3 r4 r5 q1 q2 q3 q4).val)
    (top : (P.main.scope.names.lookup ("super" : Str)).isSome = false)
    (h1 : ∀ env : Env, ∃ pl : Sem Bool, eval (.Call (.Attribute (.Call (.Name "super" r0) [] [] r1) "__init__" r2) [.Constant (.str msg) 0 r3] [] r4) env = (do
        let ov ← attributeBase (.Call (.Name "super" r0) [] [] r1) "__init__" env (eval (.Call (.Name "super" r0) [] [] r1) env)
        standAt r2.atName
        let (f, first) ← holding [ov] (getMethod ov "__init__" pl)
        callWith r4 f first (backTo r4 (starEach [.Constant (.str msg) 0 r3] env)) []))
    (h2 : ∀ env : Env, swapsWith (.Call (.Attribute (.Call (.Name "super" r0) [] [] r1) "__init__" r2) [.Constant (.str msg) 0 r3] [] r4) none r5.line env = pure false)
    (h3 : ∀ env : Env, swapsWith (.Name "word" q3) (some (.Attribute (.Name "self" q1) "word" q2)) q4.line env = pure false) :
    PySem.OwXword.OexT P K (ga K nm) (ga K base) (ma K (ga K nm) "__init__") := by
  obtain ⟨c, w⟩ := c
  obtain ⟨c1, c⟩ := ba c
  obtain ⟨c2, c⟩ := ba c
  obtain ⟨c3, c⟩ := ba c
  obtain ⟨c4, c⟩ := ba c
  obtain ⟨c5, c⟩ := ba c
  obtain ⟨c6, c⟩ := ba c
  obtain ⟨c7, c⟩ := ba c
  obtain ⟨c8, c⟩ := ba c
  obtain ⟨c9, c⟩ := ba c
  obtain ⟨c10, c⟩ := ba c
  obtain ⟨c11, c⟩ := ba c
  obtain ⟨c12, c⟩ := ba c
  obtain ⟨c13, c⟩ := ba c
  obtain ⟨c14, c⟩ := ba c
  obtain ⟨c15, c16⟩ := ba c
  refine ⟨clsB_ok c1, eqO_ok c3, eqO_ok c4, eqO_ok c5, eqO_ok c6, eqO_ok c7, of_decide_eq_true c8, c9, of_decide_eq_true c10, of_decide_eq_true c11, of_decide_eq_true c12, c13, of_decide_eq_true c14, eqO_ok c15, eqO_ok (ba st).2, eqO_ok c16, top, ?_⟩
  obtain ⟨oc, od, doc, pm, an, cda, cc, ct, osl, ccl, cl, cdd, cld, ccs, csl, vs, tf, g1, g2, g3, g4, g5⟩ := initB_ok c2 w
  exact ⟨_, oc, od, doc, pm, an, cda, cc, ct, osl, msg, p1, p2, r0, r1, r2, r3, r4, r5, q1, q2, q3, q4, ccl, cl, cdd, cld, ccs, csl, vs, tf, g1, g2, g3, g4, g5, h1, h2, h3⟩
end
/-! ### a text in a table of the module -/
theorem nsIn_in {K : PySem.W.Frag} {P : Params} {a : Addr} {ks : List Str} (h : He.dicW K a = some (He.keysIn P ks)) (z : Str) : ∃ r, PySem.W.nsIn K a z = some r ∧ r.isSome = decide (z ∈ ks) := by
  unfold He.dicW at h
  unfold PySem.W.nsIn
  cases q : K.lookup a with
  | none =>
    rw [q] at h
    cases h
  | some o =>
    obtain ⟨oc, od, dt, osl⟩ := o
    rw [q] at h
    cases dt with
    | dict es n =>
      have h1 : es.toList.map He.keyOf = He.keysIn P ks := by
        cases oc with
        | type c =>
          cases od with
          | none =>
            have h1 : (match decide (c = "dict") && (osl.isEmpty && !(a == sysModules)) with
              | true => some (es.toList.map He.keyOf)
              | false => none) = some (He.keysIn P ks) := h
            cases z : decide (c = "dict") && (osl.isEmpty && !(a == sysModules)) with
            | false =>
              rw [z] at h1
              cases h1
            | true =>
              rw [z] at h1
              exact Option.some.inj h1
          | some d => cases h
        | _ => cases h
      have key : ∀ (l : List DictEntry) (ks : List Str), l.map He.keyOf = He.keysIn P ks → (l.any (·.refKey)) = false ∧ ((l.find? (·.key.isStr z)).isSome = decide (z ∈ ks)) := by
        intro l
        induction l with
        | nil =>
          intro ks h
          cases ks with
          | nil => exact ⟨rfl, rfl⟩
          | cons k r => cases h
        | cons e r ih =>
          intro ks h
          cases ks with
          | nil => cases h
          | cons k ks =>
            have h1 : He.keyOf e :: r.map He.keyOf = some (k, PyData.keyHash P k) :: He.keysIn P ks := h
            injection h1 with h2 h3
            obtain ⟨i1, i2⟩ := ih ks h3
            unfold He.keyOf at h2
            split at h2
            · rename_i x t q
              have h4 := Option.some.inj h2
              obtain ⟨rfl, h6⟩ := Prod.mk.inj h4
              refine ⟨?_, ?_⟩
              · rw [List.any_cons, i1, Bool.or_false]
                unfold DictEntry.refKey
                rw [q]
              · rw [List.find?_cons]
                by_cases c : x = z
                · subst c
                  have : e.key.isStr x = true := by rw [q]; simp [Value.isStr]
                  rw [this]
                  simp
                · have : e.key.isStr z = false := by rw [q]; simp [Value.isStr, c]
                  rw [this]
                  show (List.find? _ r).isSome = _
                  rw [i2]
                  simp [Ne.symm c]
            · cases h2
      obtain ⟨k1, k2⟩ := key _ _ h1
      show ∃ r, (match es.toList.find? (·.key.isStr z) with
        | some e => some (some e.val)
        | none => if es.toList.any (·.refKey) then none else some none) = some r ∧ _
      cases c : es.toList.find? (·.key.isStr z) with
      | none =>
        rw [c] at k2
        rw [k1]
        exact ⟨none, rfl, k2⟩
      | some e =>
        rw [c] at k2
        exact ⟨some e.val, rfl, k2⟩
    | _ =>
      cases oc with
      | type c =>
        cases od with
        | none => cases h
        | some d => cases h
      | _ => cases h
/-- the keys of a table -/
def DicN (K : PySem.W.Frag) (w : World) (mg : Str → Option Value) (x : Str) (ks : List Str) : Prop := ∃ a es n, mg x = some (.ref a) ∧ KDict K w a es n ∧ ∀ z, ∃ r, PySem.W.nsIn K a z = some r ∧ r.isSome = decide (z ∈ ks)
theorem SaysK.dicN {file : Str} {k : KoD} {fa : List He.Fa} {fn : List He.DefD} {ex : List ExD} {w : World} {K : PySem.W.Frag} {h : Heap} {mg : Str → Option Value} (c : SaysK file k fa fn ex w K) (X : K.In h) (G : h.Ns mainGlobals mg) (i : Nat) {x : Str} {kvs : List (Str × Dat)} (e : k.dics[i]? = some (x, kvs) := by rfl) : DicN K w mg x (kvs.map (·.1)) := by
  obtain ⟨c1, c2⟩ := ba (List.all_eq_true.mp (ba (ba c.ko).2).1 (x, kvs) (List.mem_of_getElem? e))
  have t1 : k.dics.map (fun d => He.dicW K (ga K d.1)) = k.dics.map fun d => some (He.keysIn w.params (d.2.map (·.1))) := congrArg (fun z : AlK => z.2.2) c
  have t2 : (k.dics.map fun d => He.dicW K (ga K d.1))[i]? = (k.dics.map fun d => some (He.keysIn w.params (d.2.map (·.1))))[i]? := by rw [t1]
  rw [List.getElem?_map, List.getElem?_map, e] at t2
  obtain ⟨es, n, D⟩ := He.dicW_ok (Option.some.inj t2)
  exact ⟨_, es, n, PySem.W.mg_of X G (eqO_ok c1), D, nsIn_in (Option.some.inj t2)⟩
/-- e in NAME -/
def tInKD (ks : List Str) (te : TE) : TE := fun σ H Q => te σ H fun y H1 => ∃ z, y = .str z ∧ Q (.bl (decide (z ∈ ks))) H1
section
variable {X : Cx} {K : PySem.W.Frag} {w : World}
theorem pe_inKD {x : Str} {ks : List Str} {e : Expr} {te : TE} {p pos : Pos} (D : DicN K w X.mg x ks) (hg : Gl X x) (he : PE X e te) (hK : X.K = K := by rfl) (hw : X.w = w := by rfl)
    (hm : behindInMarks .In (.Name x p) = false := by rfl) (hd : (x == ("__debug__" : Str)) = false := by decide) : PE X (.Compare e [.In] [.Name x p] pos) (tInKD ks te) := by
  subst hK hw
  obtain ⟨a, es, n, ha, hv, hn⟩ := D
  refine ⟨fun pins s σ H Q I h => ?_⟩
  refine wpAny_Compare1 (thn (he.run pins s σ H _ I h) fun v s1 hh => ?_) hm
  obtain ⟨y, H1, I1, ry, z, rfl, q⟩ := hh
  refine ld_glob I1 hg ha ?_ hd
  obtain ⟨r, hr, hs⟩ := hn z
  exact op_in_kd hv pins _ σ H1 (.str z) (.ref a) v (.ref a) Q I1 ry rfl ⟨z, r, rfl, rfl, hr, by rw [hs]; exact q⟩
/-! ### texts -/
/-- a written text ahead: a token is out -/
theorem pa_strT {c : Str} {j : Nat} {cpos : Pos} {es : List Expr} {ta : TA} (h : PAT X es ta)
    (hs : starEach (.Constant (.str c) j cpos :: es) X.env = (false, eval (.Constant (.str c) j cpos) X.env) :: starEach es X.env := by rfl) : PA X (.Constant (.str c) j cpos :: es) (tCons (tC (.str c)) ta) := by
  refine ⟨fun pos pins s σ H Q I q => ?_⟩
  rw [hs]
  show wpAny _ _ (spliced ((false, eval (.Constant (.str c) j cpos) X.env) :: backTo pos (starEach es X.env))) _ _ s
  refine Calls.spliced_cons (Calls.Constant_str ?_)
  exact thn (h pos pins { s with toks := s.toks + 1 } σ H _ (Nat.succ_le_succ (Nat.zero_le _)) (I.tok _) q) fun us s2 ⟨xs, H2, I2, r2, q2⟩ => ⟨.str c :: xs, H2, I2, .cons ⟨s.toks, rfl⟩ r2, q2⟩
end
/-! ### a box of draws -/
structure Bx (a : Addr) (R H : Hp) : Prop where
  ex : Ex R H
  na : R a = none
  box : ∃ c m k : Int, H a = some (.lst [.int c, .int m, .int k]) ∧ 0 ≤ c
section
variable {a p : Addr} {R R1 H H1 : Hp} {o o' : HO} {K : PySem.W.Frag} {xs : List V} {Q : VK}
theorem Bx.ne (w : Bx a R H) : H a ≠ none := by
  obtain ⟨c, m, k, h, _⟩ := w.box
  rw [h]
  exact fun z => by cases z
theorem Bx.keep (w : Bx a R H) (e : Ex H H1) : Bx a R H1 := by
  obtain ⟨c, m, k, h, h0⟩ := w.box
  exact ⟨w.ex.trans e, w.na, c, m, k, e _ _ h, h0⟩
theorem Bx.new (w : Bx a R H) (h : H p = none) : Bx a (upd R p o) (upd H p o) := by
  have h1 : p ≠ a := fun e => w.ne (e ▸ h)
  obtain ⟨c, m, k, hb, h0⟩ := w.box
  refine ⟨fun b u e => ?_, by rw [upd_ne h1.symm]; exact w.na, c, m, k, by rw [upd_ne h1.symm]; exact hb, h0⟩
  by_cases hb : b = p
  · subst hb
    rw [upd_same] at e ⊢
    exact e
  · rw [upd_ne hb] at e ⊢
    exact w.ex b u e
theorem Bx.mut (w : Bx a R H) (h : R p = some o) : Bx a (upd R p o') (upd H p o') := by
  have h1 : p ≠ a := fun e => by
    rw [e, w.na] at h
    cases h
  obtain ⟨c, m, k, hb, h0⟩ := w.box
  refine ⟨fun b u e => ?_, by rw [upd_ne h1.symm]; exact w.na, c, m, k, by rw [upd_ne h1.symm]; exact hb, h0⟩
  by_cases hb : b = p
  · subst hb
    rw [upd_same] at e ⊢
    exact e
  · rw [upd_ne hb] at e ⊢
    exact w.ex b u e
theorem Bx.free (w : Bx a R H) (h : H p = none) : R p = none := fresh_back w.ex h
theorem Bx.more (w : Bx a R H) (e : Ex H H1) : ∃ R1, Ex R R1 ∧ Bx a R1 H1 ∧ ∀ b o, b ≠ a → H1 b = some o → R1 b = some o := by
  have k := w.keep e
  refine ⟨fun b => if b = a then none else H1 b, fun b o h => ?_, ⟨fun b o h => ?_, if_pos rfl, k.box⟩, fun b o h1 h => ?_⟩
  · have h1 : b ≠ a := fun z => by
      rw [z, w.na] at h
      cases h
    show (if b = a then none else H1 b) = some o
    rw [if_neg h1]
    exact e _ _ (w.ex _ _ h)
  · have h' : (if b = a then none else H1 b) = some o := h
    by_cases z : b = a
    · rw [if_pos z] at h'
      cases h'
    · rw [if_neg z] at h'
      exact h'
  · show (if b = a then none else H1 b) = some o
    rw [if_neg h1]
    exact h
theorem Bx.weak (w : Bx a R1 H) (e : Ex R R1) : Bx a R H := ⟨e.trans w.ex, fresh_back e w.na, w.box⟩
/-- the box itself is changed -/
theorem Bx.set (w : Bx a R H) {c m k : Int} (h : 0 ≤ c) : Bx a R (upd H a (.lst [.int c, .int m, .int k])) := by
  refine ⟨fun b u e => ?_, w.na, c, m, k, upd_same, h⟩
  have h1 : b ≠ a := fun z => by
    rw [z, w.na] at e
    cases e
  rw [upd_ne h1]
  exact w.ex b u e
theorem Bx.know (w : Bx a R H) (m : ∀ b o, b ≠ a → H b = some o → R b = some o) (h : Tp K H p xs) : Tp K R p xs := by
  rcases h with ⟨o, h1, h2⟩ | h
  · refine .inl ⟨o, h1, m _ _ (fun e => ?_) h2⟩
    obtain ⟨c, mm, k, hb, _⟩ := w.box
    rw [e, hb] at h2
    cases h2
  · exact .inr h
theorem Bx.tp (w : Bx a R H) (e : Ex H H1) (h : Tp K H1 p xs) : ∃ R1, Ex R R1 ∧ Bx a R1 H1 ∧ Tp K R1 p xs := by
  obtain ⟨R1, e1, w1, m⟩ := w.more e
  exact ⟨R1, e1, w1, w1.know m h⟩
/-- a new tuple, and what was known stays -/
def RetB (K : PySem.W.Frag) (a : Addr) (R : Hp) (xs : List V) (Q : VK) : Prop := ∀ p R1 H1, Ex R R1 → Bx a R1 H1 → Tp K R1 p xs → Q (.ref p) H1
theorem RetB.ret (k : RetB K a R xs Q) (w : Bx a R H) : RetU K xs H Q := fun p H2 e h => by
  obtain ⟨R1, e1, w1, t⟩ := w.tp e h
  exact k p R1 H2 e1 w1 t
end
section
variable {a : Addr} {R H : Hp} {J : It} {n : Nat} {G : Hp → Prop} {Y : Nat → Hp → V → Hp → Prop} {g : TG} {tt : TT} {te : TE} {vs : List Nat} {σ : L2.St}
/-- a comprehension within which draws are made -/
theorem lcB {Q : Addr → Hp → Prop} (S : Nat → List V → Hp → Prop) (w : Walk J n G Y) (hw : Bx a R H) (h0 : ∀ D, R D = none → S 0 [] (upd R D (.lst []))) (hG : ∀ Rd H', Ex R Rd → Bx a Rd H' → G H') (lenb : ∀ i acc Rd, S i acc Rd → acc.length ≤ 40000)
    (turn : ∀ i D acc Rd H1 x H2, i < n → Ex R Rd → Bx a Rd H1 → R D = none → Rd D = some (.lst acc) → S i acc Rd → Y i H1 x H2 → ∀ (K1 : VK) (K0 : Hp → Prop),
      (∀ y R5 H5, Ex R R5 → Bx a R5 H5 → R5 D = some (.lst acc) → S (i + 1) (acc ++ [y]) (upd R5 D (.lst (acc ++ [y]))) → K1 y H5) → (∀ R5 H5, Ex R R5 → Bx a R5 H5 → R5 D = some (.lst acc) → S (i + 1) acc R5 → K0 H5) →
      g x (wipe σ vs) H2 fun σ2 H3 => wipe σ2 vs = wipe σ vs ∧ tt σ2 H3 fun b H4 => if b = true then te σ2 H4 K1 else K0 H4)
    (q : ∀ D acc Rd H2, R D = none → Ex R Rd → Bx a Rd H2 → Rd D = some (.lst acc) → S n acc Rd → Q D H2) :
    ∀ D, H D = none → ∃ W : Nat → Nat → Hp → Prop, (∃ m, W 0 m (upd H D (.lst []))) ∧ ∀ i m H, W i m H →
      (J.stop i H ∧ Q D H) ∨ (J.go i H ∧ ∃ Nx : Hp → Prop, (∀ H', Nx H' → ∃ m', m' < m ∧ W (i + 1) m' H') ∧ ∀ x H', J.yld i H x H' → g x (wipe σ vs) H' fun σ2 H2 => wipe σ2 vs = wipe σ vs ∧ tt σ2 H2 fun b H3 =>
        if b = true then te σ2 H3 fun y H4 => ∃ acc, H4 D = some (.lst acc) ∧ acc.length < sizeLine ∧ Nx (upd H4 D (.lst (acc ++ [y]))) else Nx H3) := fun D hD => by
  have hR := hw.free hD
  refine lc_it w (fun i H' => ∃ acc Rd, Ex R Rd ∧ Bx a Rd H' ∧ Rd D = some (.lst acc) ∧ S i acc Rd) ⟨[], _, Ex.new hR, hw.new hD, upd_same, h0 D hR⟩ (fun i H' _ p => ?_) (fun i x H1 H2 hi p y => ?_) (fun H' p => ?_)
  · obtain ⟨acc, Rd, p1, p2, _⟩ := p
    exact hG Rd H' p1 p2
  · obtain ⟨acc, Rd, p1, p2, p3, p4⟩ := p
    refine turn i D acc Rd H1 x H2 hi p1 p2 hR p3 p4 y _ _ (fun z R5 H5 e5 w5 k5 s5 => ?_) (fun R5 H5 e5 w5 k5 s5 => ?_)
    · exact ⟨acc, w5.ex _ _ k5, sz_lt (by have := lenb _ _ _ p4; omega), acc ++ [z], _, ex_side e5 hR, w5.mut k5, upd_same, s5⟩
    · exact ⟨acc, R5, e5, w5, k5, s5⟩
  · obtain ⟨acc, Rd, p1, p2, p3, p4⟩ := p
    exact q D acc Rd H' hR p1 p2 p3 p4
end
/-- the promise of a new box; of a drawn number below a bound; of one of some things, that stand in a list or tuple -/
def spBox (K : PySem.W.Frag) : Sp := fun vs H Q _ => ∃ (a : Addr) (ns : List Int) (k : Nat), vs = [.ref a, .int (k : Int)] ∧ SqL K H a (ns.map V.int) ∧ k ≤ 1000 ∧ ns.length ≤ 1000 ∧ ∀ (d : Addr) (H' : Hp), Bx d H H' → Q (.ref d) H'
def spTake : Sp := fun vs H Q _ => ∃ (a : Addr) (R : Hp) (b : Int), vs = [.ref a, .int b] ∧ Bx a R H ∧ 0 < b ∧ b.natAbs.log2 < 9000 ∧ ∀ (r : Int) (H' : Hp), 0 ≤ r → r < b → Bx a R H' → Q (.int r) H'
def spPick (K : PySem.W.Frag) : Sp := fun vs H Q _ => ∃ (a p : Addr) (b : Bool) (R : Hp) (xs : List V), vs = [.ref a, .ref p] ∧ Bx a R H ∧ SqB K b R p xs ∧ xs ≠ [] ∧ xs.length ≤ 100 ∧ ∀ (i : Nat) (v : V) (H' : Hp), xs[i]? = some v → Bx a R H' → Q v H'
end Own

/-! Sorts; tuples of tuples; some rules with K named apart. -/
namespace Own
open PySem PySem.Spec PyProof.Rows L2 Evl
section
variable {X : Cx} {K : PySem.W.Frag}
theorem kc_all (hc : X.calm = true) (h : X.K = K := by rfl) : CallR X (.builtin "all") (rAll K) := by subst h; exact cr_all hc
theorem kc_any (hc : X.calm = true) (h : X.K = K := by rfl) : CallR X (.builtin "any") (rAny K) := by subst h; exact cr_any hc
theorem kc_sortedI (h : X.K = K := by rfl) : CallR X (.builtin "sorted") (rSortedI K) := by subst h; exact cr_sortedI
/-- xs[i], a list or a tuple -/
def rIxB (K : PySem.W.Frag) : R2 := fun x y H Q => ∃ (p : Addr) (b : Bool) (xs : List V) (i : Int) (z : V), x = .ref p ∧ y = .int i ∧ SqB K b H p xs ∧ atI xs i = some z ∧ Q z H
theorem kx_seqB (h : X.K = K := by rfl) : IxR X (rIxB K) := by
  subst h
  intro value slice pins s σ H x y v u Q I rx ry h hs
  obtain ⟨p, b, xs, i, z, rfl, rfl, hq, he, q⟩ := h
  cases b with
  | false => exact ix_list value slice pins s σ H (.ref p) (.int i) v u Q I rx ry ⟨p, xs, i, z, rfl, rfl, hq, he, q⟩ hs
  | true => exact ix_tup value slice pins s σ H (.ref p) (.int i) v u Q I rx ry ⟨p, xs, i, z, rfl, rfl, hq, he, q⟩ hs
/-- // where the long way is not taken -/
def CDivP (i j : Int) : Prop := 0 < j ∧ Builtin.divisionGoesByPylong i j = false
theorem op_fdivP : OpR X (binaryOp .FloorDiv) (rI CDivP fun i j => .int (i / j)) := opI fun i j _ _ _ _ _ hc q => by
  have h1 : (0 : Int) < j := hc.1
  exact floordiv_int (by omega) (by rw [Int.fdiv_eq_ediv_of_nonneg i (by omega)]; exact q) (.inl hc.2)
end
/-! ### sorts -/
inductive Srt | two | twice | three
  deriving DecidableEq
namespace Srt
def s : Srt → Str | two => "two" | twice => "twice" | three => "three"
/-- letters -/
def q : Srt → Nat | two => 2 | twice => 2 | three => 3
def step : Srt → Nat | two => 2 | twice => 8 | three => 4
/-- what divides the weights -/
def by_ : Srt → Nat | two => 2 | twice => 4 | three => 3
def bound : Srt → Nat | two => 24 | twice => 24 | three => 16
def pieces : Srt → List (List Int)
  | two => [[1, 1]]
  | twice => [[1, 0, 0, 0, 0, 1, 1, 1], [0, 1, 0, 0, 1, 0, 1, 1], [0, 0, 1, 0, 1, 1, 0, 1], [0, 0, 0, 1, 1, 1, 1, 0]]
  | three => [[1, 0, 1, 1], [0, 1, 1, 2]]
theorem step_pos (s : Srt) : 0 < s.step ∧ s.step ≤ 8 := by cases s <;> decide
theorem q_le (s : Srt) : 2 ≤ s.q ∧ s.q ≤ 3 := by cases s <;> decide
theorem bound_le (s : Srt) : s.bound ≤ 24 := by cases s <;> decide
end Srt
def sorts : List Srt := [.two, .twice, .three]
def dI (n : Int) : Dat := .int n
def tI (ns : List Int) : Dat := .tup (ns.map .int)
def tII (nss : List (List Int)) : Dat := .tup (nss.map tI)
def dSTEPS : List (Str × Dat) := [("two", .int 2), ("twice", .int 8), ("three", .int 4)]
def dLETTERS : List (Str × Dat) := [("two", .int 2), ("twice", .int 2), ("three", .int 3)]
def dPIECES : List (Str × Dat) := [("two", tII (Srt.pieces .two)), ("twice", tII (Srt.pieces .twice)), ("three", tII (Srt.pieces .three))]
namespace Srt
theorem inSTEPS (s : Srt) : (s.s, Dat.int s.step) ∈ dSTEPS := by cases s <;> simp [dSTEPS, Srt.s, step]
theorem inLETTERS (s : Srt) : (s.s, Dat.int s.q) ∈ dLETTERS := by cases s <;> simp [dLETTERS, Srt.s, q]
theorem inPIECES (s : Srt) : (s.s, tII s.pieces) ∈ dPIECES := by cases s <;> simp [dPIECES, Srt.s]
theorem inKeys (s : Srt) : s.s ∈ dSTEPS.map (·.1) := List.mem_map.mpr ⟨_, s.inSTEPS, rfl⟩
end Srt
/-- a tuple of tuples of ints -/
def TpR (K : PySem.W.Frag) (H : Hp) (p : Addr) (rows : List (List Int)) : Prop := ∃ es : List Addr, Tp K H p (es.map V.ref) ∧ LstG iL K H es rows
theorem TpR.ex {K : PySem.W.Frag} {H H1 : Hp} {p : Addr} {rows : List (List Int)} (t : TpR K H p rows) (e : Ex H H1) : TpR K H1 p rows := by
  obtain ⟨es, h1, h2⟩ := t
  exact ⟨es, h1.ex e, h2.ex e⟩
theorem TpR.mut {K : PySem.W.Frag} {H : Hp} {p wr : Addr} {rows : List (List Int)} {ys zs : List V} (t : TpR K H p rows) (hw : H wr = some (.lst ys)) : TpR K (upd H wr (.lst zs)) p rows := by
  obtain ⟨es, h1, h2⟩ := t
  exact ⟨es, h1.mut hw, h2.mut hw⟩
theorem allDat_ints {K : PySem.W.Frag} : ∀ {nss : List (List Int)} {xs : List V}, AllDat K (nss.map tI) xs → ∃ es : List Addr, xs = es.map V.ref ∧ ∀ H : Hp, LstG iL K H es nss
  | [], xs, h => by
    unfold AllDat at h
    exact ⟨[], h, fun H => LstG.nil⟩
  | ns :: r, xs, h => by
    unfold AllDat at h
    obtain ⟨x, r', rfl, g1, g2⟩ := h
    obtain ⟨p, rfl, tp⟩ := IsDat.ints g1
    obtain ⟨es, rfl, l⟩ := allDat_ints g2
    exact ⟨p :: es, rfl, fun H => (LstG.nil.push (x := ns) (f := iL) (tp H)).app (l H)⟩
theorem IsDat.rows {K : PySem.W.Frag} {nss : List (List Int)} {v : V} (h : IsDat K (tII nss) v) : ∃ p, v = .ref p ∧ ∀ H : Hp, TpR K H p nss := by
  unfold tII IsDat at h
  obtain ⟨p, xs, rfl, h1, h2⟩ := h
  obtain ⟨es, rfl, l⟩ := allDat_ints h2
  exact ⟨p, rfl, fun H => ⟨es, h1 H, l H⟩⟩
theorem TpR.sq {K : PySem.W.Frag} {H : Hp} {p : Addr} {rows : List (List Int)} (t : TpR K H p rows) : ∃ es : List Addr, es.length = rows.length ∧ SqT K H p (es.map V.ref) ∧ LstG iL K H es rows := by
  obtain ⟨es, h1, h2⟩ := t
  exact ⟨es, h2.len, h1.sq, h2⟩
end Own

/-! sorted(rows, reverse=b): rows that are tuples of small ints of one length. -/
namespace Own
open PySem PySem.Spec PyProof.Rows L2 Evl PySem.W
section
variable {prog : Program} {w : World} {A : Around} {E : Value → Shared → Prop} {s : Shared} {Q : Bool → Shared → Prop}
theorem lex_rows {b : Bool} {xs ys : List Value} {ns ms : List Int} (i : Nat) (hx : IntsAre xs ns) (hy : IntsAre ys ms) (hl : ns.length = ms.length)
    (h : Q (HT.lexLt ns ms) s) : KatLex prog w A b false Q (xs.zip ys) i s := by
  induction hx generalizing ys ms i with
  | nil =>
    cases hy with
    | nil => exact kat_nil h
    | cons q u hy => simp at hl
  | @cons p t xs ns hx ih =>
    cases hy with
    | nil => simp at hl
    | @cons q u ys ms hy =>
      have hl' : ns.length = ms.length := by simpa using hl
      show KatLex prog w A b false Q ((Value.int p t, Value.int q u) :: xs.zip ys) i s
      rw [HT.lexLt_cons] at h
      refine kat_cons (wpAny_eqBool_int ?_)
      by_cases e : p = q
      · subst e
        rw [beq_self_eq_true]
        rw [if_pos rfl] at h
        exact kat_yes (ih (i + 1) hy hl' h)
      · rw [show (p == q) = false from beq_eq_false_iff_ne.mpr e]
        rw [if_neg e] at h
        exact kat_no (TS.oneLt_ints _ h)
def unRef : Value → Addr
  | .ref a => a
  | _ => 0
def kV (k : Addr → List Int) : Value → List Int
  | .ref a => k a
  | _ => []
theorem rows_sortable {a : Addr} {vs : List Value} {k : Value → List Int} {d : Nat} (hd : 1 ≤ d) (h2 : 2 ≤ vs.length) (hv : ∀ v ∈ vs, TS.TupInts s.heap v (k v) ∧ (k v).length = d ∧ TS.Bd 3 (k v)) (ha : ∀ o, s.heap.get? a = some o → o.cls ≠ .type "tuple") :
    SrtO.SortableO prog w A s a vs fun v u => HT.lexLt (k v) (k u) := by
  intro h' keep
  have hv' : ∀ v ∈ vs, TS.TupInts h' v (k v) ∧ (k v).length = d ∧ TS.Bd 3 (k v) := fun v hm => ⟨(hv v hm).1.keeps fun b o e c => keep b o (fun z => by subst z; exact ha o e c) e, (hv v hm).2⟩
  obtain ⟨fs, kt, hl, hi⟩ := TS.firsts_of (h := h') (d := d) (B := 3) hd vs fun v hm => ⟨k v, hv' v hm⟩
  refine ⟨tuples' true, fun Q E hq => ?_, ?_⟩
  · refine kat_kind (T := .type "int") kt (by omega) (fun f hm => ?_) (by rfl) ?_
    · obtain ⟨x, t, rfl⟩ := hi f hm
      exact Looks.now
    · have e : (Value.type "int" != Value.type "tuple") = true := by first | decide +kernel | rfl | decide
      rw [e]
      exact hq
  · intro p q hp hq
    obtain ⟨⟨x, xs, e1, ⟨o, ho, hc, n, hdt⟩, i1⟩, l1, _⟩ := hv' p.1 hp
    obtain ⟨⟨y, ys, e2, ⟨o', ho', hc', n', hdt'⟩, i2⟩, l2, _⟩ := hv' q.1 hq
    show wpAny (model prog w) A (keyLt' (tuples' true) p.1 q.1) (fun r s' => s' = _ ∧ r = HT.lexLt (k p.1) (k q.1)) (fun _ _ => False) _
    rw [e1] at i1 l1 ⊢
    rw [e2] at i2 l2 ⊢
    refine kat_lt ho hdt ho' hdt' ?_
    have z1 : xs.size = d := by rw [← l1, ← i1.length]; simp
    have z2 : ys.size = d := by rw [← l2, ← i2.length]; simp
    rw [z1, z2, decide_eq_false (Nat.lt_irrefl _)]
    exact lex_rows 0 i1 i2 (by rw [l1, l2]) ⟨rfl, rfl⟩
end
/-- the order that reverse=b gives -/
def LexB (b : Bool) (rows : List (List Int)) : Prop := if b then rows.Pairwise (fun x y => HT.lexLt x y = false) else rows.Pairwise (fun x y => HT.lexLt y x = false)
def rSortRows (K : PySem.W.Frag) (b : Bool) : List V → List V → Hp → VK → Prop := fun vs zs H Q => ∃ (a : Addr) (es : List Addr) (rows : List (List Int)) (d : Nat), vs = [V.ref a] ∧ zs = [.bl b] ∧ SqL K H a (es.map V.ref) ∧ LstG iL K H es rows ∧ 1 ≤ d ∧
  (∀ r ∈ rows, r.length = d ∧ ∀ x ∈ r, 0 ≤ x ∧ x < 3) ∧ ∀ (es' : List Addr) (rows' : List (List Int)) (p : Addr), LstG iL K H es' rows' → rows'.Perm rows → LexB b rows' → H p = none → Q (.ref p) (upd H p (.lst (es'.map V.ref)))
section
variable {X : Cx}
theorem vals_refs : ∀ {es : List Addr} {us : List Value}, Vals (es.map V.ref) us → us = es.map Value.ref
  | [], _, r => by cases r; rfl
  | e :: es, _, r => by
    cases r with
    | cons r1 r2 =>
      rw [vals_refs r2]
      cases r1
      rfl
theorem refs_vals : ∀ (es : List Addr), Vals (es.map V.ref) (es.map Value.ref)
  | [] => .nil
  | e :: es => .cons rfl (refs_vals es)
theorem cr_sortRows {b : Bool} : CallRK X (.builtin "sorted") [Str.ofString "reverse"] (rSortRows X.K b) := by
  intro pins s σ H vs zs us ws Q I r rz h
  obtain ⟨a, es, rows, d, rfl, rfl, hs, lg, hd, ok, q⟩ := h
  obtain rfl := Vals.ref1 r
  obtain ⟨w1, rfl, e1⟩ := vals1 rz
  obtain rfl : w1 = Value.bool b := e1
  obtain ⟨its, rv, hl, hz⟩ := I.list hs
  obtain rfl := vals_refs rv
  let k : Addr → List Int := fun e => rows.getD (es.idxOf e) []
  have uniq : ∀ (i : Nat) (e : Addr) (x : List Int), es[i]? = some e → rows[i]? = some x → k e = x := fun i e x he hx => by
    have hi := (List.getElem?_eq_some_iff.mp he).1
    have hm : e ∈ es := List.mem_of_getElem? he
    have hj : es.idxOf e < es.length := List.idxOf_lt_length_of_mem hm
    have ej : es[es.idxOf e]? = some e := by rw [List.getElem?_eq_getElem hj, List.getElem_idxOf hj]
    have rj : rows[es.idxOf e]? = some (rows[es.idxOf e]'(by rw [← lg.len]; exact hj)) := List.getElem?_eq_getElem _
    have t1 := lg.at_ _ _ _ ej rj
    have t2 := lg.at_ _ _ _ he hx
    have := seqB_inj I (b := true) t1.sq t2.sq
    have kk : k e = rows[es.idxOf e]'(by rw [← lg.len]; exact hj) := by
      show rows.getD (es.idxOf e) [] = _
      rw [List.getD_eq_getElem?_getD, rj]
      rfl
    rw [kk]
    have inj : ∀ {xs ys : List Int}, iL xs = iL ys → xs = ys := fun {xs ys} h => by
      have h2 := congrArg (List.map fun v => match v with | V.int i => i | _ => 0) (show xs.map V.int = ys.map V.int from h)
      rw [List.map_map, List.map_map] at h2
      have e : ∀ zs : List Int, zs.map ((fun v => match v with | V.int i => i | _ => (0 : Int)) ∘ V.int) = zs := fun zs => by
        show zs.map (fun x => x) = zs
        rw [List.map_id']
      rw [e, e] at h2
      exact h2
    exact inj this
  have rk : rows = es.map k := by
    apply List.ext_getElem?
    intro i
    rw [List.getElem?_map]
    cases he : es[i]? with
    | none =>
      have : es.length ≤ i := List.getElem?_eq_none_iff.mp he
      rw [List.getElem?_eq_none_iff.mpr (by rw [← lg.len]; exact this)]
      rfl
    | some e =>
      have hi := (List.getElem?_eq_some_iff.mp he).1
      have hx : rows[i]? = some (rows[i]'(by rw [← lg.len]; exact hi)) := List.getElem?_eq_getElem _
      rw [hx, Option.map_some, uniq i e _ he hx]
  have tk : ∀ e ∈ es, Tp X.K H e (iL (k e)) ∧ (k e).length = d ∧ TS.Bd 3 (k e) := fun e he => by
    obtain ⟨i, hi, rfl⟩ := List.getElem_of_mem he
    have he' : es[i]? = some es[i] := List.getElem?_eq_getElem hi
    have hx : rows[i]? = some (rows[i]'(by rw [← lg.len]; exact hi)) := List.getElem?_eq_getElem _
    have u := uniq i _ _ he' hx
    have o := ok _ (List.mem_of_getElem? hx)
    rw [u]
    exact ⟨lg.at_ _ _ _ he' hx, o.1, o.2⟩
  refine SrtR.sorted_ordK (b := b) (ltv := fun v u => HT.lexLt (kV k v) (kV k u)) (fun _ => rfl) (PyProof.Rows.args_sorted_rev _ _) (fun _ => PyProof.Rows.args_list_sort_rev _ _) (NtL.swo_lexL (kV k)) hl.isList (by rw [← rv.length]; exact hz) (fun h2 h₁ a' ha' keep => ?_) fun out h1 h2 => ?_
  · refine rows_sortable (s := { s with heap := h₁ }) (d := d) hd h2 (fun v hm => ?_) fun o e c => ?_
    · obtain ⟨e, he, rfl⟩ := List.mem_map.mp hm
      obtain ⟨t, l, bd⟩ := tk e he
      refine ⟨?_, l, bd⟩
      obtain ⟨it2, r2, p2, _⟩ := I.tuple t.sq
      obtain ⟨o, ho, hc, n, hdt⟩ := p2
      exact ⟨e, _, rfl, ⟨o, (keep _ _ ho).2, hc, n, hdt⟩, by show IntsAre _ (k e); simpa using r2.ints⟩
    · have e' : some o = some (seqObj "list" (es.map Value.ref).toArray 0) := e.symm.trans ha'
      cases e'
      exact absurd (Value.type.inj c) (by decide)
  · have perm : out.Perm (es.map Value.ref) := by
      refine h2.perm.trans ?_
      cases b
      · exact List.Perm.refl _
      · exact List.reverse_perm _
    let fin : List Value := if b = true then out.reverse else out
    have fperm : fin.Perm (es.map Value.ref) := by
      show (if b = true then out.reverse else out).Perm _
      cases b
      · exact perm
      · exact (List.reverse_perm _).trans perm
    have fref : ∀ v ∈ fin, ∃ e ∈ es, v = Value.ref e := fun v hv => by
      obtain ⟨e, he, rfl⟩ := List.mem_map.mp (fperm.mem_iff.mp hv)
      exact ⟨e, he, rfl⟩
    have fe : fin = (fin.map unRef).map Value.ref := by
      rw [List.map_map]
      conv => lhs; rw [← List.map_id' fin]
      apply List.map_congr_left
      intro v hv
      obtain ⟨e, _, rfl⟩ := fref v hv
      rfl
    have eperm : (fin.map unRef).Perm es := by
      have := fperm.map unRef
      rw [List.map_map] at this
      have e : es.map (unRef ∘ Value.ref) = es := by
        show es.map (fun x => x) = es
        rw [List.map_id']
      rw [e] at this
      exact this
    have arr : (if b = true then out.toArray.reverse else out.toArray) = fin.toArray := by
      show _ = (if b = true then out.reverse else out).toArray
      cases b
      · rfl
      · simp
    obtain ⟨ep, he'⟩ := PyProof.Rows.sortedAll_at s.heap (es.map Value.ref) (if b = true then out.toArray.reverse else out.toArray)
    have hlen : ((fin.map unRef).map V.ref).length ≤ sizeLine := by
      rw [List.length_map, eperm.length_eq]
      rw [List.length_map] at hz
      exact hz
    have lg' : LstG iL X.K H (fin.map unRef) ((fin.map unRef).map k) := by
      refine ⟨by rw [List.length_map (f := k)], fun i e x h1 h2 => ?_⟩
      rw [List.getElem?_map, h1] at h2
      cases h2
      exact (tk e (eperm.mem_iff.mp (List.mem_of_getElem? h1))).1
    have lexb : LexB b ((fin.map unRef).map k) := by
      have key : (fin.map unRef).map k = fin.map (kV k) := by
        conv => rhs; rw [fe]
        rw [List.map_map (f := Value.ref)]
        rfl
      rw [key]
      have hs : out.Pairwise (fun x y => HT.lexLt (kV k y) (kV k x) = false) := h1
      show LexB b ((if b = true then out.reverse else out).map (kV k))
      cases b
      · show (out.map (kV k)).Pairwise (fun x y => HT.lexLt y x = false)
        exact List.pairwise_map.mpr hs
      · show (out.reverse.map (kV k)).Pairwise (fun x y => HT.lexLt x y = false)
        exact List.pairwise_map.mpr (List.pairwise_reverse.mpr hs)
    have vf : Vals ((fin.map unRef).map V.ref) fin := by
      have := refs_vals (fin.map unRef)
      rw [← fe] at this
      exact this
    exact ⟨.ref _, upd H (s.heap.objs.size + 1) (.lst ((fin.map unRef).map V.ref)), I.laid (t' := s.toks) (fun _ _ => PyProof.Rows.sortedAll_old) (Nat.le_succ _) ⟨hlen, fin, ep, vf, by rw [← arr]; exact he'⟩, rfl, q _ _ _ lg' (by rw [rk]; exact eperm.map k) lexb (I.hok.fresh (Nat.le_succ _))⟩
end
end Own

namespace Own
open PySem PySem.Spec PyProof.Rows L2 Evl
section
variable {X : Cx} {K : PySem.W.Frag}
theorem kc_sortRows {b : Bool} (h : X.K = K := by rfl) : CallRK X (.builtin "sorted") [Str.ofString "reverse"] (rSortRows K b) := by subst h; exact cr_sortRows
end
end Own

/-! Rows of letters, plain: first places, sums, rows in steps, what they take away, spans. -/
namespace Own
theorem getD_map' {α β : Type} {d : α} {e : β} (f : α → β) {xs : List α} {i : Nat} (h : i < xs.length) : (xs.map f).getD i e = f (xs.getD i d) := by
  simp only [List.getD_eq_getElem?_getD, List.getElem?_map, List.getElem?_eq_getElem h]
  rfl
theorem getD_rg {α : Type} {d : α} (f : Nat → α) {n i : Nat} (h : i < n) : ((List.range n).map f).getD i d = f i := by
  simp only [List.getD_eq_getElem?_getD, List.getElem?_map, List.getElem?_range h]
  rfl
theorem getD_over {α : Type} {d : α} {xs : List α} {i : Nat} (h : xs.length ≤ i) : xs.getD i d = d := by
  rw [List.getD_eq_getElem?_getD, List.getElem?_eq_none_iff.mpr h]
  rfl
theorem ext_getD' {α : Type} {d : α} {xs ys : List α} (h : xs.length = ys.length) (e : ∀ i, i < xs.length → xs.getD i d = ys.getD i d) : xs = ys := by
  apply List.ext_getElem h
  intro i h1 h2
  have := e i h1
  rw [List.getD_eq_getElem?_getD, List.getD_eq_getElem?_getD, List.getElem?_eq_getElem h1, List.getElem?_eq_getElem h2] at this
  exact this
def firstF (xs : List Int) : Nat := xs.findIdx (fun x => x != 0)
def dotF (xs ys : List Int) : Int := ((List.range xs.length).map fun i => xs.getD i 0 * ys.getD i 0).sum
def worthF (q : Nat) (xs ys : List Int) : Int := dotF xs ys % (q : Int)
def weightF (xs : List Int) : Nat := xs.length - xs.count 0
def RowOk (q n : Nat) (xs : List Int) : Prop := xs.length = n ∧ ∀ x ∈ xs, 0 ≤ x ∧ x < (q : Int)
instance (q n : Nat) (xs : List Int) : Decidable (RowOk q n xs) := inferInstanceAs (Decidable (_ ∧ _))
def insideB (q : Nat) (rows : List (List Int)) : Bool := (List.range rows.length).all fun i => (rows.drop i).all fun o => worthF q (rows.getD i []) o == 0
def plusF (q : Nat) (xs ys : List Int) (m : Int) : List Int := (List.range xs.length).map fun i => (xs.getD i 0 + m * ys.getD i 0) % (q : Int)
section
variable {q n : Nat} {xs ys : List Int} {m : Int}
theorem RowOk.at (h : RowOk q n xs) (i : Nat) (hq : 0 < q) : 0 ≤ xs.getD i 0 ∧ xs.getD i 0 < (q : Int) := by
  rw [List.getD_eq_getElem?_getD]
  cases e : xs[i]? with
  | none => exact ⟨Int.le_refl 0, by show (0 : Int) < q; omega⟩
  | some x => exact h.2 x (List.mem_of_getElem? e)
theorem RowOk.mod (h : RowOk q n xs) (i : Nat) (hq : 0 < q) : xs.getD i 0 % (q : Int) = xs.getD i 0 := by
  have := h.at i hq
  exact Int.emod_eq_of_lt this.1 this.2
theorem first_of {i : Nat} (hi : i < xs.length) (h0 : ∀ j, j < i → xs.getD j 0 = 0) (h : xs.getD i 0 ≠ 0) : firstF xs = i := by
  unfold firstF
  rw [List.findIdx_eq hi]
  have g : ∀ j (hj : j < xs.length), xs.getD j 0 = xs[j] := fun j hj => by rw [List.getD_eq_getElem?_getD, List.getElem?_eq_getElem hj]; rfl
  refine ⟨?_, fun j hj => ?_⟩
  · rw [← g i hi]
    simpa using h
  · have := h0 j hj
    rw [g j (by omega)] at this
    simp [this]
theorem first_none (h0 : ∀ j, j < xs.length → xs.getD j 0 = 0) : firstF xs = xs.length := by
  unfold firstF
  rw [List.findIdx_eq_length]
  intro x hx
  obtain ⟨j, hj, rfl⟩ := List.getElem_of_mem hx
  have := h0 j hj
  rw [List.getD_eq_getElem?_getD, List.getElem?_eq_getElem hj] at this
  have : xs[j] = 0 := this
  simp [this]
theorem first_le : firstF xs ≤ xs.length := List.findIdx_le_length
theorem first_zero {j : Nat} (h : j < firstF xs) : xs.getD j 0 = 0 := by
  have hl : j < xs.length := Nat.lt_of_lt_of_le h first_le
  have := List.not_of_lt_findIdx h
  rw [List.getD_eq_getElem?_getD, List.getElem?_eq_getElem hl]
  simpa using this
theorem first_not (h : firstF xs < xs.length) : xs.getD (firstF xs) 0 ≠ 0 := by
  unfold firstF at h ⊢
  have := List.findIdx_getElem (w := h)
  rw [List.getD_eq_getElem?_getD, List.getElem?_eq_getElem h]
  simpa using this
theorem first_all (h : firstF xs = xs.length) (j : Nat) : xs.getD j 0 = 0 := by
  by_cases c : j < xs.length
  · exact first_zero (by omega)
  · exact getD_over (by omega)
theorem plusF_len : (plusF q xs ys m).length = xs.length := by
  unfold plusF
  rw [List.length_map, List.length_range]
theorem plusF_at (hl : xs.length = ys.length) (i : Nat) : (plusF q xs ys m).getD i 0 = (xs.getD i 0 + m * ys.getD i 0) % (q : Int) := by
  by_cases c : i < xs.length
  · exact getD_rg _ c
  · rw [getD_over (by rw [plusF_len]; omega), getD_over (by omega), getD_over (by omega), Int.mul_zero]
    rfl
theorem plusF_ok (hq : 0 < q) (h : xs.length = n) : RowOk q n (plusF q xs ys m) := by
  refine ⟨by rw [plusF_len, h], fun x hx => ?_⟩
  obtain ⟨i, _, rfl⟩ := List.mem_map.mp hx
  exact ⟨Int.emod_nonneg _ (by omega), Int.emod_lt_of_pos _ (by omega)⟩
/-- rows of equal letters are equal -/
theorem row_ext (hx : xs.length = n) (hy : ys.length = n) (h : ∀ i, xs.getD i 0 = ys.getD i 0) : xs = ys := ext_getD' (d := 0) (by rw [hx, hy]) fun i _ => h i
end
/-! ### rows in steps -/
structure Red (q n : Nat) (rows : List (List Int)) : Prop where
  ok : ∀ r ∈ rows, RowOk q n r
  fst : ∀ r ∈ rows, firstF r < n ∧ r.getD (firstF r) 0 = 1
  off : rows.Pairwise fun a b => a.getD (firstF b) 0 = 0 ∧ b.getD (firstF a) 0 = 0
def redStep (q : Nat) (left one : List Int) : List Int := if left.getD (firstF one) 0 ≠ 0 then plusF q left one ((q : Int) - left.getD (firstF one) 0) else left
def redF (q : Nat) (rows : List (List Int)) (left : List Int) : List Int := rows.foldl (redStep q) left
section
variable {q n : Nat} {rows : List (List Int)} {left one : List Int}
theorem Red.nil : Red q n [] := ⟨by simp, by simp, .nil⟩
theorem Red.head {r : List Int} (h : Red q n (r :: rows)) : RowOk q n r ∧ firstF r < n ∧ r.getD (firstF r) 0 = 1 := ⟨h.ok r (List.mem_cons_self ..), h.fst r (List.mem_cons_self ..)⟩
theorem Red.tail {r : List Int} (h : Red q n (r :: rows)) : Red q n rows := ⟨fun x hx => h.ok x (List.mem_cons_of_mem _ hx), fun x hx => h.fst x (List.mem_cons_of_mem _ hx), (List.pairwise_cons.mp h.off).2⟩
theorem Red.perm {rows' : List (List Int)} (h : Red q n rows) (p : rows'.Perm rows) : Red q n rows' :=
  ⟨fun r hr => h.ok r (p.mem_iff.mp hr), fun r hr => h.fst r (p.mem_iff.mp hr), p.symm.pairwise h.off fun h => ⟨h.2, h.1⟩⟩
theorem redStep_ok (hq : 0 < q) (h : RowOk q n left) : RowOk q n (redStep q left one) := by
  unfold redStep
  split
  · exact plusF_ok hq h.1
  · exact h
theorem redStep_kill (hq : 0 < q) (h : RowOk q n left) (ho : one.length = n) (h1 : one.getD (firstF one) 0 = 1) : (redStep q left one).getD (firstF one) 0 = 0 := by
  unfold redStep
  split
  · rw [plusF_at (by rw [h.1, ho]), h1, Int.mul_one, show left.getD (firstF one) 0 + ((q : Int) - left.getD (firstF one) 0) = (q : Int) by omega]
    exact Int.emod_self
  · rename_i c
    omega
theorem redStep_keep {p : Nat} (h : RowOk q n left) (ho : one.length = n) (h0 : left.getD p 0 = 0) (h1 : one.getD p 0 = 0) : (redStep q left one).getD p 0 = 0 := by
  unfold redStep
  split
  · rw [plusF_at (by rw [h.1, ho]), h0, h1, Int.mul_zero]
    rfl
  · exact h0
theorem redF_ok (hq : 0 < q) : ∀ {rows : List (List Int)} {left : List Int}, RowOk q n left → RowOk q n (redF q rows left)
  | [], _, h => h
  | r :: rs, _, h => redF_ok hq (rows := rs) (redStep_ok hq h)
theorem redF_keep (hq : 0 < q) {p : Nat} : ∀ {rows : List (List Int)} {left : List Int}, RowOk q n left → (∀ r ∈ rows, r.length = n ∧ r.getD p 0 = 0) → left.getD p 0 = 0 → (redF q rows left).getD p 0 = 0
  | [], _, _, _, h => h
  | r :: rs, _, h, hr, h0 => by
    have hr1 := hr r (List.mem_cons_self ..)
    exact redF_keep hq (rows := rs) (redStep_ok hq h) (fun x hx => hr x (List.mem_cons_of_mem _ hx)) (redStep_keep h hr1.1 h0 hr1.2)
/-- what is left has 0 at all first places -/
theorem redF_kill (hq : 0 < q) : ∀ {rows : List (List Int)} {left : List Int}, Red q n rows → RowOk q n left → ∀ r ∈ rows, (redF q rows left).getD (firstF r) 0 = 0
  | [], _, _, _, r, hr => by cases hr
  | one :: rs, left, hR, h, r, hr => by
    have h1 := hR.head
    have hs := redStep_ok (one := one) hq h
    rcases List.mem_cons.mp hr with rfl | hr
    · refine redF_keep hq (rows := rs) hs (fun x hx => ⟨(hR.tail.ok x hx).1, ?_⟩) (redStep_kill hq h h1.1.1 h1.2.2)
      exact ((List.pairwise_cons.mp hR.off).1 x hx).2
    · exact redF_kill hq hR.tail hs r hr
/-! ### spans -/
inductive Sp (q n : Nat) (rows : List (List Int)) : List Int → Prop
  | zero : Sp q n rows (List.replicate n 0)
  | add {v r : List Int} (m : Int) : Sp q n rows v → r ∈ rows → Sp q n rows (plusF q v r m)
theorem rep_at (n i : Nat) : (List.replicate n (0 : Int)).getD i 0 = 0 := by
  by_cases c : i < n
  · rw [List.getD_eq_getElem?_getD, List.getElem?_eq_getElem (by simpa using c)]
    simp
  · exact getD_over (by simpa using Nat.le_of_not_lt c)
theorem zero_ok (hq : 0 < q) : RowOk q n (List.replicate n 0) := by
  refine ⟨List.length_replicate .., fun x hx => ?_⟩
  rw [List.eq_of_mem_replicate hx]
  omega
theorem Sp.ok {v : List Int} (hq : 0 < q) (h : Sp q n rows v) : RowOk q n v := by
  induction h with
  | zero => exact zero_ok hq
  | add m _ _ ih => exact plusF_ok hq ih.1
theorem zero_of {v : List Int} (h : v.length = n) (f : firstF v = n) : v = List.replicate n 0 := row_ext h (List.length_replicate ..) fun i => by rw [rep_at, first_all (by rw [f, h]) i]
theorem plus_plus {v r : List Int} (h : v.length = r.length) (a b : Int) : plusF q (plusF q v r a) r b = plusF q v r (a + b) := by
  refine row_ext (n := v.length) (by rw [plusF_len, plusF_len]) plusF_len fun i => ?_
  rw [plusF_at (by rw [plusF_len, h]), plusF_at h, plusF_at h, Int.emod_add_emod]
  congr 1
  rw [Int.add_mul, Int.add_assoc]
theorem plus_q {v r : List Int} (hq : 0 < q) (hv : RowOk q n v) (h : v.length = r.length) {m : Int} (hm : m % (q : Int) = 0) : plusF q v r m = v := by
  refine row_ext (n := v.length) plusF_len rfl fun i => ?_
  rw [plusF_at h]
  obtain ⟨c, rfl⟩ := Int.dvd_of_emod_eq_zero hm
  rw [Int.mul_assoc, Int.add_mul_emod_self_left]
  exact hv.mod i hq
theorem Sp.of_step {left one : List Int} (hq : 0 < q) (hl : RowOk q n left) (ho : one.length = n) (hm : one ∈ rows) (h : Sp q n rows (redStep q left one)) : Sp q n rows left := by
  unfold redStep at h
  split at h
  · have := Sp.add (left.getD (firstF one) 0) h hm
    rw [plus_plus (by rw [hl.1, ho]), plus_q hq hl (by rw [hl.1, ho]) (by rw [Int.sub_add_cancel]; exact Int.emod_self)] at this
    exact this
  · exact h
theorem Sp.step {left one : List Int} (hm : one ∈ rows) (h : Sp q n rows left) : Sp q n rows (redStep q left one) := by
  unfold redStep
  split
  · exact h.add _ hm
  · exact h
theorem Sp.of_red (hq : 0 < q) : ∀ {rs : List (List Int)} {left : List Int}, RowOk q n left → (∀ r ∈ rs, r ∈ rows ∧ r.length = n) → Sp q n rows (redF q rs left) → Sp q n rows left
  | [], _, _, _, h => h
  | r :: rs, _, hl, hr, h => by
    have h1 := hr r (List.mem_cons_self ..)
    exact Sp.of_step hq hl h1.2 h1.1 (Sp.of_red hq (rs := rs) (redStep_ok hq hl) (fun x hx => hr x (List.mem_cons_of_mem _ hx)) h)
theorem Sp.red : ∀ {rs : List (List Int)} {left : List Int}, (∀ r ∈ rs, r ∈ rows) → Sp q n rows left → Sp q n rows (redF q rs left)
  | [], _, _, h => h
  | r :: rs, _, hr, h => Sp.red (rs := rs) (fun x hx => hr x (List.mem_cons_of_mem _ hx)) (h.step (hr r (List.mem_cons_self ..)))
/-- by the first places -/
def repF (rows : List (List Int)) (v : List Int) (j : Nat) : Int := (rows.map fun r => v.getD (firstF r) 0 * r.getD j 0).sum
theorem rep_zero {v : List Int} {j : Nat} (h : ∀ r ∈ rows, v.getD (firstF r) 0 = 0) : repF rows v j = 0 := by
  unfold repF
  induction rows with
  | nil => rfl
  | cons r rs ih =>
    rw [List.map_cons, List.sum_cons, h r (List.mem_cons_self ..), Int.zero_mul, ih fun x hx => h x (List.mem_cons_of_mem _ hx)]
    rfl
theorem rep_row : ∀ {rows : List (List Int)}, Red q n rows → ∀ r ∈ rows, ∀ j, repF rows r j = r.getD j 0
  | [], _, r, hr, _ => by cases hr
  | one :: rs, hR, r, hr, j => by
    have off := List.pairwise_cons.mp hR.off
    show r.getD (firstF one) 0 * one.getD j 0 + repF rs r j = _
    rcases List.mem_cons.mp hr with rfl | hr
    · rw [hR.head.2.2, Int.one_mul, rep_zero fun x hx => (off.1 x hx).1, Int.add_zero]
    · rw [(off.1 r hr).2, Int.zero_mul, Int.zero_add, rep_row hR.tail r hr j]
theorem rep_add {v r : List Int} {j : Nat} {m : Int} (h : v.length = r.length) : repF rows (plusF q v r m) j % (q : Int) = (repF rows v j + m * repF rows r j) % (q : Int) := by
  unfold repF
  induction rows with
  | nil =>
    show (0 : Int) % q = (0 + m * 0) % q
    rw [Int.mul_zero, Int.add_zero]
  | cons x xs ih =>
    rw [List.map_cons, List.map_cons, List.map_cons, List.sum_cons, List.sum_cons, List.sum_cons, plusF_at h]
    generalize (xs.map fun r_1 => (plusF q v r m).getD (firstF r_1) 0 * r_1.getD j 0).sum = A at ih ⊢
    generalize (xs.map fun r => v.getD (firstF r) 0 * r.getD j 0).sum = B at ih ⊢
    generalize (xs.map fun r_1 => r.getD (firstF r_1) 0 * r_1.getD j 0).sum = C at ih ⊢
    generalize v.getD (firstF x) 0 = a
    generalize r.getD (firstF x) 0 = b
    generalize x.getD j 0 = c
    rw [Int.add_emod, ih, Int.mul_emod, Int.emod_emod, ← Int.mul_emod, ← Int.add_emod]
    congr 1
    grind
theorem Sp.rep {v : List Int} (hq : 0 < q) (hR : Red q n rows) (h : Sp q n rows v) : ∀ j, v.getD j 0 = repF rows v j % (q : Int) := by
  induction h with
  | zero =>
    intro j
    rw [rep_zero fun r _ => rep_at _ _, rep_at]
    rfl
  | @add v r m hv hr ih =>
    intro j
    have hl : v.length = r.length := by rw [(hv.ok hq).1, (hR.ok r hr).1]
    rw [rep_add hl, rep_row hR r hr j, plusF_at hl, ih j, Int.emod_add_emod]
theorem Sp.none {v : List Int} (hq : 0 < q) (hR : Red q n rows) (h : Sp q n rows v) (h0 : ∀ r ∈ rows, v.getD (firstF r) 0 = 0) (j : Nat) : v.getD j 0 = 0 := by
  rw [h.rep hq hR j, rep_zero h0]
  rfl
/-- what is in the span is taken away -/
theorem Sp.gone {v : List Int} (hq : 0 < q) (hR : Red q n rows) (h : Sp q n rows v) : firstF (redF q rows v) = n := by
  have ok := redF_ok (rows := rows) hq (h.ok hq)
  rw [first_none fun j _ => Sp.none hq hR (Sp.red (fun r hr => hr) h) (redF_kill hq hR (h.ok hq)) j, ok.1]
/-- .. and just that -/
theorem gone_sp {v : List Int} (hq : 0 < q) (hR : Red q n rows) (hv : RowOk q n v) (h : firstF (redF q rows v) = n) : Sp q n rows v := by
  refine Sp.of_red hq hv (fun r hr => ⟨hr, (hR.ok r hr).1⟩) ?_
  rw [zero_of (redF_ok hq hv).1 h]
  exact Sp.zero
end
end Own

/-! Rows in steps and one row more; led to a neighbour. -/
namespace Own
open PySem
def unitF (q : Nat) (left : List Int) : List Int := plusF q left left (left.getD (firstF left) 0 - 1)
def clrF (q : Nat) (left one : List Int) : List Int := if one.getD (firstF left) 0 = 0 then one else plusF q one left ((q : Int) - one.getD (firstF left) 0)
/-- in order, the greatest first -/
def Desc (rows : List (List Int)) : Prop := rows.Pairwise fun x y => HT.lexLt x y = false
/-- the steps of rows in steps and of one row more -/
def WithR (q : Nat) (rows : List (List Int)) (row : List Int) (rows' : List (List Int)) : Prop :=
  (firstF (redF q rows row) = (redF q rows row).length ∧ rows' = rows) ∨
    (firstF (redF q rows row) < (redF q rows row).length ∧ rows'.Perm (unitF q (redF q rows row) :: rows.map (clrF q (unitF q (redF q rows row)))) ∧ Desc rows')
section
variable {q n : Nat} {rows rows' : List (List Int)} {row left one : List Int}
theorem unit_at (h : RowOk q n left) (i : Nat) : (unitF q left).getD i 0 = (left.getD (firstF left) 0 * left.getD i 0) % (q : Int) := by
  unfold unitF
  rw [plusF_at rfl]
  congr 1
  grind
theorem unit_ok (hq : 0 < q) (h : RowOk q n left) : RowOk q n (unitF q left) := plusF_ok hq h.1
theorem unit_one (hq : q = 2 ∨ q = 3) (h : RowOk q n left) (hf : firstF left < n) : (unitF q left).getD (firstF left) 0 = 1 := by
  have b := h.at (firstF left) (by omega)
  have nz := first_not (xs := left) (by rw [h.1]; exact hf)
  rw [unit_at h]
  generalize left.getD (firstF left) 0 = x at b nz
  have : x = 1 ∨ (x = 2 ∧ q = 3) := by omega
  rcases this with rfl | ⟨rfl, rfl⟩
  · rcases hq with rfl | rfl <;> rfl
  · rfl
theorem unit_first (hq : q = 2 ∨ q = 3) (h : RowOk q n left) (hf : firstF left < n) : firstF (unitF q left) = firstF left := by
  have u1 := unit_one hq h hf
  refine first_of (by rw [(unit_ok (by omega) h).1]; exact hf) (fun j hj => ?_) (by rw [u1]; decide)
  rw [unit_at h, first_zero hj, Int.mul_zero]
  rfl
theorem unit_zero (h : RowOk q n left) {i : Nat} (h0 : left.getD i 0 = 0) : (unitF q left).getD i 0 = 0 := by
  rw [unit_at h, h0, Int.mul_zero]
  rfl
theorem clr_ok (hq : 0 < q) (ho : RowOk q n one) : RowOk q n (clrF q left one) := by
  unfold clrF
  split
  · exact ho
  · exact plusF_ok hq ho.1
theorem clr_zero (hq : 0 < q) (ho : RowOk q n one) (hl : left.length = n) (h1 : left.getD (firstF left) 0 = 1) : (clrF q left one).getD (firstF left) 0 = 0 := by
  unfold clrF
  split
  · rename_i c
    exact c
  · rw [plusF_at (by rw [ho.1, hl]), h1, Int.mul_one, show one.getD (firstF left) 0 + ((q : Int) - one.getD (firstF left) 0) = (q : Int) by omega]
    exact Int.emod_self
theorem clr_keep (hq : 0 < q) (ho : RowOk q n one) (hl : left.length = n) {p : Nat} (h0 : left.getD p 0 = 0) : (clrF q left one).getD p 0 = one.getD p 0 := by
  unfold clrF
  split
  · rfl
  · rw [plusF_at (by rw [ho.1, hl]), h0, Int.mul_zero, Int.add_zero]
    exact ho.mod p hq
theorem clr_first (hq : 0 < q) (ho : RowOk q n one) (hl : left.length = n) (hf : firstF one < n) (h1 : one.getD (firstF one) 0 = 1) (h0 : left.getD (firstF one) 0 = 0) : firstF (clrF q left one) = firstF one := by
  have ck := clr_keep (left := left) hq ho hl h0
  refine first_of (by rw [(clr_ok hq ho).1]; exact hf) (fun j hj => ?_) (by rw [ck, h1]; decide)
  unfold clrF
  split
  · exact first_zero hj
  · rename_i c
    -- the first place of left lies behind
    have : firstF one ≤ firstF left := by
      refine Nat.le_of_not_lt fun z => c (first_zero z)
    rw [plusF_at (by rw [ho.1, hl]), first_zero hj, first_zero (xs := left) (by omega), Int.mul_zero]
    rfl
theorem WithR.red (hq : q = 2 ∨ q = 3) (hR : Red q n rows) (hr : RowOk q n row) (h : WithR q rows row rows') : Red q n rows' := by
  have q0 : 0 < q := by omega
  rcases h with ⟨_, rfl⟩ | ⟨hlt, perm, _⟩
  · exact hR
  · have lo := redF_ok (rows := rows) q0 hr
    have lk := redF_kill q0 hR hr
    generalize redF q rows row = left at hlt perm lo lk
    rw [lo.1] at hlt
    have uo := unit_ok q0 lo
    have u1 := unit_one hq lo hlt
    have uf := unit_first hq lo hlt
    have uz : ∀ r ∈ rows, (unitF q left).getD (firstF r) 0 = 0 := fun r hr => unit_zero lo (lk r hr)
    generalize unitF q left = u at perm uo u1 uf uz
    have u1' : u.getD (firstF u) 0 = 1 := by rw [uf]; exact u1
    refine Red.perm ⟨fun r hr => ?_, fun r hr => ?_, ?_⟩ perm
    · rcases List.mem_cons.mp hr with rfl | hr
      · exact uo
      · obtain ⟨x, hx, rfl⟩ := List.mem_map.mp hr
        exact clr_ok q0 (hR.ok x hx)
    · rcases List.mem_cons.mp hr with rfl | hr
      · exact ⟨by rw [uf]; exact hlt, u1'⟩
      · obtain ⟨x, hx, rfl⟩ := List.mem_map.mp hr
        have fx := hR.fst x hx
        rw [clr_first q0 (hR.ok x hx) uo.1 fx.1 fx.2 (uz x hx)]
        exact ⟨fx.1, by rw [clr_keep q0 (hR.ok x hx) uo.1 (uz x hx)]; exact fx.2⟩
    · refine List.pairwise_cons.mpr ⟨fun r hr => ?_, ?_⟩
      · obtain ⟨x, hx, rfl⟩ := List.mem_map.mp hr
        have fx := hR.fst x hx
        rw [clr_first q0 (hR.ok x hx) uo.1 fx.1 fx.2 (uz x hx)]
        exact ⟨uz x hx, clr_zero q0 (hR.ok x hx) uo.1 u1'⟩
      · rw [List.pairwise_map]
        refine List.Pairwise.imp_of_mem (fun {a b} ha hb hab => ?_) hR.off
        have fa := hR.fst a ha
        have fb := hR.fst b hb
        rw [clr_first q0 (hR.ok a ha) uo.1 fa.1 fa.2 (uz a ha), clr_first q0 (hR.ok b hb) uo.1 fb.1 fb.2 (uz b hb), clr_keep q0 (hR.ok a ha) uo.1 (uz b hb), clr_keep q0 (hR.ok b hb) uo.1 (uz a ha)]
        exact hab
theorem WithR.len (h : WithR q rows row rows') : rows'.length = rows.length ∨ rows'.length = rows.length + 1 := by
  rcases h with ⟨_, rfl⟩ | ⟨_, p, _⟩
  · exact .inl rfl
  · right
    rw [p.length_eq, List.length_cons, List.length_map]
theorem WithR.more (h : WithR q rows row rows') (hl : rows.length < rows'.length) : firstF (redF q rows row) < (redF q rows row).length := by
  rcases h with ⟨_, rfl⟩ | ⟨h, _⟩
  · exact absurd hl (Nat.lt_irrefl _)
  · exact h
theorem WithR.desc (hd : Desc rows) (h : WithR q rows row rows') : Desc rows' := by
  rcases h with ⟨_, rfl⟩ | ⟨_, _, d⟩
  · exact hd
  · exact d
/-! ### the first places ascend -/
theorem lex_first : ∀ {xs ys : List Int}, xs.length = ys.length → firstF ys < firstF xs → 0 < ys.getD (firstF ys) 0 → HT.lexLt xs ys = true
  | [], [], _, h, _ => by cases h
  | x :: xs, y :: ys, hl, h, hp => by
    rw [HT.lexLt_cons]
    have x0 : x = 0 := first_zero (xs := x :: xs) (j := 0) (by omega)
    by_cases y0 : y = 0
    · rw [if_pos (by rw [x0, y0])]
      have fx : firstF (x :: xs) = firstF xs + 1 := by
        unfold firstF
        rw [List.findIdx_cons]
        simp [x0]
      have fy : firstF (y :: ys) = firstF ys + 1 := by
        unfold firstF
        rw [List.findIdx_cons]
        simp [y0]
      rw [fy] at hp
      exact lex_first (by simpa using hl) (by omega) hp
    · have fy : firstF (y :: ys) = 0 := by
        unfold firstF
        rw [List.findIdx_cons]
        have hb : (y != 0) = true := bne_iff_ne.mpr y0
        rw [hb]
        rfl
      rw [fy] at hp
      have hp' : 0 < y := hp
      rw [if_neg (by omega)]
      exact decide_eq_true (by omega)
theorem Red.asc (hR : Red q n rows) (hd : Desc rows) : rows.Pairwise fun a b => firstF a < firstF b := by
  refine List.Pairwise.imp_of_mem (R := fun a b => HT.lexLt a b = false ∧ (a.getD (firstF b) 0 = 0 ∧ b.getD (firstF a) 0 = 0)) (fun {a b} ha hb h => ?_) ?_
  · have fa := hR.fst a ha
    have fb := hR.fst b hb
    rcases Nat.lt_trichotomy (firstF a) (firstF b) with c | c | c
    · exact c
    · rw [c] at fa
      rw [h.2.1] at fa
      cases fa.2
    · have := lex_first (xs := a) (ys := b) (by rw [(hR.ok a ha).1, (hR.ok b hb).1]) c (by rw [fb.2]; decide)
      rw [h.1] at this
      cases this
  · exact List.pairwise_and_iff.mpr ⟨hd, hR.off⟩
end
end Own

/-! Led to a neighbour. -/
namespace Own
open PySem
structure LedS where
  kept : List (List Int)
  last : List Int
  ahead : Int
def ledStep (q : Nat) (row : List Int) (st : LedS) (one : List Int) : LedS :=
  if worthF q one row = 0 then ⟨st.kept ++ [one], st.last, st.ahead⟩
  else if st.ahead = 0 then ⟨st.kept, one, worthF q one row⟩
  else ⟨st.kept ++ [plusF q one st.last ((-(worthF q one row) * st.ahead) % (q : Int))], st.last, st.ahead⟩
def ledAll (q : Nat) (row : List Int) (rv : List (List Int)) : LedS := rv.foldl (ledStep q row) ⟨[], [], 0⟩
def ledK (q : Nat) (rows : List (List Int)) (row : List Int) : List (List Int) := (ledAll q row rows.reverse).kept
/-- the code that a row leads to -/
def LedR (q : Nat) (rows : List (List Int)) (row : List Int) (rows' : List (List Int)) : Prop := WithR q (ledK q rows row) row rows'
structure LedInv (q n : Nat) (rows : List (List Int)) (todo : List (List Int)) (st : LedS) : Prop where
  red : Red q n st.kept
  sp : ∀ k ∈ st.kept, ∃ a ∈ rows, ∃ b ∈ rows, ∃ m : Int, k = plusF q a b m
  off : ∀ k ∈ st.kept, ∀ r ∈ todo, k.getD (firstF r) 0 = 0 ∧ r.getD (firstF k) 0 = 0
  last : st.ahead ≠ 0 → st.last ∈ rows ∧ (∀ r ∈ todo, st.last.getD (firstF r) 0 = 0 ∧ r.getD (firstF st.last) 0 = 0 ∧ firstF r < firstF st.last) ∧ ∀ k ∈ st.kept, st.last.getD (firstF k) 0 = 0
section
variable {q n : Nat} {rows rows' todo : List (List Int)} {row one : List Int} {st : LedS}
/-- one more is kept -/
theorem LedInv.push {k : List Int} (hR : Red q n rows) (h : LedInv q n rows (one :: todo) st) (hone : one ∈ rows) (ht : ∀ r ∈ todo, r ∈ rows) (ho : ∀ r ∈ todo, one.getD (firstF r) 0 = 0 ∧ r.getD (firstF one) 0 = 0) (okk : RowOk q n k) (fk : firstF k = firstF one) (k1 : k.getD (firstF one) 0 = 1)
    (sp : ∃ a ∈ rows, ∃ b ∈ rows, ∃ m : Int, k = plusF q a b m) (kz : ∀ r ∈ todo, k.getD (firstF r) 0 = 0) (kk : ∀ x ∈ st.kept, k.getD (firstF x) 0 = 0) : LedInv q n rows todo ⟨st.kept ++ [k], st.last, st.ahead⟩ := by
  have f1 := hR.fst one hone
  refine ⟨⟨fun r hr => ?_, fun r hr => ?_, ?_⟩, fun x hx => ?_, fun x hx r hr => ?_, fun hne => ?_⟩
  · rcases List.mem_append.mp hr with hr | hr
    · exact h.red.ok r hr
    · rw [List.mem_singleton.mp hr]
      exact okk
  · rcases List.mem_append.mp hr with hr | hr
    · exact h.red.fst r hr
    · rw [List.mem_singleton.mp hr, fk]
      exact ⟨f1.1, k1⟩
  · refine List.pairwise_append.mpr ⟨h.red.off, List.pairwise_singleton _ _, fun x hx y hy => ?_⟩
    rw [List.mem_singleton.mp hy, fk]
    exact ⟨(h.off x hx one (List.mem_cons_self ..)).1, kk x hx⟩
  · rcases List.mem_append.mp hx with hx | hx
    · exact h.sp x hx
    · rw [List.mem_singleton.mp hx]
      exact sp
  · rcases List.mem_append.mp hx with hx | hx
    · exact h.off x hx r (List.mem_cons_of_mem _ hr)
    · rw [List.mem_singleton.mp hx, fk]
      exact ⟨kz r hr, (ho r hr).2⟩
  · obtain ⟨l1, l2, l3⟩ := h.last hne
    refine ⟨l1, fun r hr => l2 r (List.mem_cons_of_mem _ hr), fun x hx => ?_⟩
    rcases List.mem_append.mp hx with hx | hx
    · exact l3 x hx
    · rw [List.mem_singleton.mp hx, fk]
      exact (l2 one (List.mem_cons_self ..)).1
theorem LedInv.step (hq : 0 < q) (hR : Red q n rows) (h : LedInv q n rows (one :: todo) st) (hone : one ∈ rows) (ht : ∀ r ∈ todo, r ∈ rows)
    (ho : ∀ r ∈ todo, firstF r < firstF one ∧ one.getD (firstF r) 0 = 0 ∧ r.getD (firstF one) 0 = 0) : LedInv q n rows todo (ledStep q row st one) := by
  have f1 := hR.fst one hone
  have o1 := hR.ok one hone
  have self : plusF q one one 0 = one := plus_q hq o1 rfl (by rfl)
  unfold ledStep
  split
  · exact h.push hR hone ht (fun r hr => (ho r hr).2) o1 rfl f1.2 ⟨one, hone, one, hone, 0, self.symm⟩ (fun r hr => (ho r hr).2.1) fun x hx => (h.off x hx one (List.mem_cons_self ..)).2
  · rename_i hw
    split
    · refine ⟨h.red, h.sp, fun k hk r hr => h.off k hk r (List.mem_cons_of_mem _ hr), fun _ => ⟨hone, fun r hr => ⟨(ho r hr).2.1, (ho r hr).2.2, (ho r hr).1⟩, fun k hk => (h.off k hk one (List.mem_cons_self ..)).2⟩⟩
    · rename_i hne
      obtain ⟨l1, l2, l3⟩ := h.last hne
      have lo := hR.ok _ l1
      obtain ⟨z1, z2, z3⟩ := l2 one (List.mem_cons_self ..)
      generalize (-(worthF q one row) * st.ahead) % (q : Int) = m
      have hl : one.length = st.last.length := by rw [o1.1, lo.1]
      have pa := fun i => plusF_at (q := q) (m := m) hl i
      have k1 : (plusF q one st.last m).getD (firstF one) 0 = 1 := by
        rw [pa, f1.2, z1, Int.mul_zero, Int.add_zero]
        have := o1.mod (firstF one) hq
        rw [f1.2] at this
        exact this
      refine h.push hR hone ht (fun r hr => (ho r hr).2) (plusF_ok hq o1.1) ?_ k1 ⟨one, hone, st.last, l1, m, rfl⟩ (fun r hr => ?_) fun x hx => ?_
      · refine first_of (by rw [plusF_len, o1.1]; exact f1.1) (fun j hj => ?_) (by rw [k1]; decide)
        rw [pa, first_zero hj, first_zero (xs := st.last) (by omega), Int.mul_zero]
        rfl
      · rw [pa, (ho r hr).2.1, (l2 r (List.mem_cons_of_mem _ hr)).1, Int.mul_zero]
        rfl
      · rw [pa, (h.off x hx one (List.mem_cons_self ..)).2, l3 x hx, Int.mul_zero]
        rfl
theorem LedInv.all (hq : 0 < q) (hR : Red q n rows) : ∀ {todo : List (List Int)} {st : LedS}, (∀ r ∈ todo, r ∈ rows) → todo.Pairwise (fun x y => firstF y < firstF x ∧ x.getD (firstF y) 0 = 0 ∧ y.getD (firstF x) 0 = 0) → LedInv q n rows todo st → LedInv q n rows [] (todo.foldl (ledStep q row) st)
  | [], _, _, _, h => h
  | one :: todo, st, ht, hp, h => by
    have hp' := List.pairwise_cons.mp hp
    exact LedInv.all (todo := todo) hq hR (fun r hr => ht r (List.mem_cons_of_mem _ hr)) hp'.2 (h.step hq hR (ht one (List.mem_cons_self ..)) (fun r hr => ht r (List.mem_cons_of_mem _ hr)) hp'.1)
theorem led_inv (hq : 0 < q) (hR : Red q n rows) (hd : Desc rows) : LedInv q n rows [] (ledAll q row rows.reverse) := by
  refine LedInv.all hq hR (fun r hr => List.mem_reverse.mp hr) ?_ ⟨Red.nil, fun k hk => by simp at hk, fun k hk => by simp at hk, fun h => absurd rfl h⟩
  rw [List.pairwise_reverse]
  exact (List.pairwise_and_iff.mpr ⟨hR.asc hd, hR.off⟩).imp fun h => ⟨h.1, h.2.2, h.2.1⟩
theorem led_red (hq : 0 < q) (hR : Red q n rows) (hd : Desc rows) : Red q n (ledK q rows row) := (led_inv hq hR hd).red
theorem plus_swap {v a b : List Int} {m c : Int} (h1 : v.length = n) (h2 : a.length = n) (h3 : b.length = n) : plusF q v (plusF q a b c) m = plusF q (plusF q v a m) b (m * c) := by
  refine row_ext (n := n) (by rw [plusF_len, h1]) (by rw [plusF_len, plusF_len, h1]) fun i => ?_
  rw [plusF_at (by rw [plusF_len, h1, h2]), plusF_at (by rw [h2, h3]), plusF_at (by rw [plusF_len, h1, h3]), plusF_at (by rw [h1, h2]), Int.emod_add_emod]
  rw [Int.add_emod, Int.mul_emod, Int.emod_emod, ← Int.mul_emod, ← Int.add_emod]
  congr 1
  grind
/-- the span of what is kept lies in that of the rows -/
theorem Sp.kept {v : List Int} {kept : List (List Int)} (hq : 0 < q) (hR : Red q n rows) (hk : ∀ k ∈ kept, ∃ a ∈ rows, ∃ b ∈ rows, ∃ m : Int, k = plusF q a b m) (h : Sp q n kept v) : Sp q n rows v := by
  induction h with
  | zero => exact Sp.zero
  | @add v r m hv hr ih =>
    obtain ⟨a, ha, b, hb, c, rfl⟩ := hk r hr
    rw [plus_swap (n := n) (ih.ok hq).1 (hR.ok a ha).1 (hR.ok b hb).1]
    exact (ih.add m ha).add (m * c) hb
/-- a row that is no word leads to a code with it -/
theorem led_more (hq : 0 < q) (hR : Red q n rows) (hd : Desc rows) (hr : RowOk q n row) (h : firstF (redF q rows row) < (redF q rows row).length) : firstF (redF q (ledK q rows row) row) < (redF q (ledK q rows row) row).length := by
  have lr := led_red (row := row) hq hR hd
  refine Nat.lt_of_le_of_ne first_le fun e => ?_
  have ok := redF_ok (rows := ledK q rows row) hq hr
  have s := gone_sp hq lr hr (by rw [e, ok.1])
  have g := (s.kept hq hR (led_inv hq hR hd).sp).gone hq hR
  have ok2 := redF_ok (rows := rows) hq hr
  rw [g, ok2.1] at h
  exact absurd h (Nat.lt_irrefl _)
/-- rows in steps and in order, at least one -/
theorem LedR.red (hq : q = 2 ∨ q = 3) (hR : Red q n rows) (hd : Desc rows) (hr : RowOk q n row) (hm : firstF (redF q rows row) < (redF q rows row).length) (h : LedR q rows row rows') : Red q n rows' ∧ Desc rows' ∧ 0 < rows'.length := by
  have q0 : 0 < q := by omega
  have lm := led_more q0 hR hd hr hm
  have lr := led_red (row := row) q0 hR hd
  refine ⟨WithR.red hq lr hr h, ?_, ?_⟩
  · rcases h with ⟨z, _⟩ | ⟨_, _, d⟩
    · omega
    · exact d
  · rcases h with ⟨z, _⟩ | ⟨_, p, _⟩
    · omega
    · rw [p.length_eq, List.length_cons]
      omega
end
end Own

/-! Weights of sums of rows of two letters. -/
namespace Own
def sumN (n : Nat) (f : Nat → Int) : Int := ((List.range n).map f).sum
theorem sumN_succ (n : Nat) (f : Nat → Int) : sumN (n + 1) f = sumN n f + f n := by
  unfold sumN
  rw [List.range_succ, List.map_append, List.sum_append]
  simp
theorem sumN_lin (n : Nat) {f g h k : Nat → Int} (e : ∀ i, i < n → f i = g i + h i - 2 * k i) : sumN n f = sumN n g + sumN n h - 2 * sumN n k := by
  induction n with
  | zero => rfl
  | succ n ih =>
    rw [sumN_succ, sumN_succ, sumN_succ, sumN_succ, ih fun i hi => e i (by omega), e n (by omega)]
    grind
theorem sumN_congr (n : Nat) {f g : Nat → Int} (e : ∀ i, i < n → f i = g i) : sumN n f = sumN n g := by
  induction n with
  | zero => rfl
  | succ n ih => rw [sumN_succ, sumN_succ, ih fun i hi => e i (by omega), e n (by omega)]
theorem sumN_zero (n : Nat) {f : Nat → Int} (e : ∀ i, i < n → f i = 0) : sumN n f = 0 := by
  induction n with
  | zero => rfl
  | succ n ih => rw [sumN_succ, ih fun i hi => e i (by omega), e n (by omega)]; rfl
theorem dot_sumN {n : Nat} {xs ys : List Int} (h : xs.length = n) : dotF xs ys = sumN n fun i => xs.getD i 0 * ys.getD i 0 := by
  unfold dotF sumN
  rw [h]
theorem weight_sum : ∀ {xs : List Int}, (∀ x ∈ xs, 0 ≤ x ∧ x < 2) → (weightF xs : Int) = xs.sum
  | [], _ => rfl
  | x :: xs, h => by
    have hx := h x (List.mem_cons_self ..)
    have ih := weight_sum (xs := xs) fun y hy => h y (List.mem_cons_of_mem _ hy)
    have cl := List.count_le_length (a := (0 : Int)) (l := xs)
    unfold weightF at ih ⊢
    rw [List.sum_cons, List.length_cons, List.count_cons, ← ih]
    have : x = 0 ∨ x = 1 := by omega
    rcases this with rfl | rfl
    · simp
    · simp
      omega
theorem sum_sumN {n : Nat} {xs : List Int} (h : xs.length = n) : xs.sum = sumN n fun i => xs.getD i 0 := by
  unfold sumN
  subst h
  congr 1
  apply List.ext_getElem
  · simp
  · intro i h1 h2
    rw [List.getElem_map, List.getElem_range, List.getD_eq_getElem?_getD, List.getElem?_eq_getElem h1]
    rfl
section
variable {n : Nat} {v r o : List Int}
theorem bit {x : Int} (h : 0 ≤ x ∧ x < ((2 : Nat) : Int)) : x = 0 ∨ x = 1 := by omega
theorem plus2_at (hv : RowOk 2 n v) (hr : RowOk 2 n r) (i : Nat) : (plusF 2 v r 1).getD i 0 = v.getD i 0 + r.getD i 0 - 2 * (v.getD i 0 * r.getD i 0) := by
  rw [plusF_at (by rw [hv.1, hr.1])]
  have a := bit (hv.at i (by decide))
  have b := bit (hr.at i (by decide))
  generalize v.getD i 0 = x at a ⊢
  generalize r.getD i 0 = y at b ⊢
  rcases a with rfl | rfl <;> rcases b with rfl | rfl <;> rfl
/-- the weight of a sum -/
theorem weight_plus (hv : RowOk 2 n v) (hr : RowOk 2 n r) : (weightF (plusF 2 v r 1) : Int) = weightF v + weightF r - 2 * dotF v r := by
  have hp : RowOk 2 n (plusF 2 v r 1) := plusF_ok (by decide) hv.1
  rw [weight_sum (xs := plusF 2 v r 1) (by simpa using hp.2), weight_sum (xs := v) (by simpa using hv.2), weight_sum (xs := r) (by simpa using hr.2), sum_sumN hp.1, sum_sumN hv.1, sum_sumN hr.1, dot_sumN hv.1]
  exact sumN_lin n fun i _ => plus2_at hv hr i
/-- .. and its products -/
theorem dot_plus (hv : RowOk 2 n v) (hr : RowOk 2 n r) : dotF (plusF 2 v r 1) o = dotF v o + dotF r o - 2 * sumN n fun i => v.getD i 0 * r.getD i 0 * o.getD i 0 := by
  have hp : RowOk 2 n (plusF 2 v r 1) := plusF_ok (by decide) hv.1
  rw [dot_sumN hp.1, dot_sumN hv.1, dot_sumN hr.1]
  refine sumN_lin n fun i _ => ?_
  rw [plus2_at hv hr i]
  grind
theorem dot_comm (h : v.length = r.length) : dotF v r = dotF r v := by
  rw [dot_sumN rfl, dot_sumN h.symm]
  exact sumN_congr _ fun i _ => Int.mul_comm _ _
theorem dot_self (hv : RowOk 2 n v) : dotF v v = weightF v := by
  rw [weight_sum (xs := v) (by simpa using hv.2), sum_sumN hv.1, dot_sumN hv.1]
  refine sumN_congr n fun i _ => ?_
  rcases bit (hv.at i (by decide)) with h | h <;> rw [h] <;> rfl
end
/-- all sums of some rows -/
def wordsF (q n : Nat) (rows : List (List Int)) : List (List Int) := rows.foldl (fun found row => (List.range q).flatMap fun m : Nat => found.map fun w => plusF q w row (m : Int)) [List.replicate n 0]
theorem words_snoc (q n : Nat) (rows : List (List Int)) (r : List Int) : wordsF q n (rows ++ [r]) = (List.range q).flatMap fun m : Nat => (wordsF q n rows).map fun w => plusF q w r (m : Int) := by
  unfold wordsF
  rw [List.foldl_append]
  rfl
theorem snoc_ind {α : Type} {P : List α → Prop} (h0 : P []) (h1 : ∀ l x, P l → P (l ++ [x])) (l : List α) : P l := by
  have : ∀ m : List α, P m.reverse := by
    intro m
    induction m with
    | nil => exact h0
    | cons x m ih =>
      rw [List.reverse_cons]
      exact h1 _ _ ih
  have := this l.reverse
  rwa [List.reverse_reverse] at this
theorem words_ok {n : Nat} {rows : List (List Int)} (q : Nat) (hq : 0 < q) : ∀ w ∈ wordsF q n rows, RowOk q n w := by
  induction rows using snoc_ind with
  | h0 =>
    intro w hw
    rw [List.mem_singleton.mp hw]
    exact zero_ok hq
  | h1 l x ih =>
    intro w hw
    rw [words_snoc] at hw
    obtain ⟨m, _, hw⟩ := List.mem_flatMap.mp hw
    obtain ⟨v, hv, rfl⟩ := List.mem_map.mp hw
    exact plusF_ok hq (ih v hv).1
theorem words2 {n : Nat} {rows : List (List Int)} {r w : List Int} (hr : RowOk 2 n r) : w ∈ wordsF 2 n (rows ++ [r]) ↔ w ∈ wordsF 2 n rows ∨ ∃ v ∈ wordsF 2 n rows, w = plusF 2 v r 1 := by
  rw [words_snoc]
  have self : ∀ v ∈ wordsF 2 n rows, plusF 2 v r 0 = v := fun v hv => plus_q (by decide) (words_ok 2 (by decide) v hv) (by rw [(words_ok 2 (by decide) v hv).1, hr.1]) rfl
  constructor
  · intro h
    obtain ⟨m, hm, h⟩ := List.mem_flatMap.mp h
    obtain ⟨v, hv, rfl⟩ := List.mem_map.mp h
    have : m = 0 ∨ m = 1 := by
      have := List.mem_range.mp hm
      omega
    rcases this with rfl | rfl
    · left
      have := self v hv
      have z : plusF 2 v r ((0 : Nat) : Int) = v := this
      rw [z]
      exact hv
    · exact .inr ⟨v, hv, rfl⟩
  · intro h
    rcases h with h | ⟨v, hv, rfl⟩
    · exact List.mem_flatMap.mpr ⟨0, by decide, List.mem_map.mpr ⟨w, h, self w h⟩⟩
    · exact List.mem_flatMap.mpr ⟨1, by decide, List.mem_map.mpr ⟨v, hv, rfl⟩⟩
/-- all weights of the sums of some rows are divisible by 4 exactly if those of the rows are and each two rows are worth nought -/
theorem words_four {n : Nat} {rows : List (List Int)} : (∀ r ∈ rows, RowOk 2 n r) → ((∀ w ∈ wordsF 2 n rows, weightF w % 4 = 0) ↔ ((∀ r ∈ rows, weightF r % 4 = 0) ∧ rows.Pairwise fun a b => dotF a b % 2 = 0)) := by
  induction rows using snoc_ind with
  | h0 =>
    intro _
    constructor
    · intro _
      exact ⟨by simp, .nil⟩
    · intro _ w hw
      rw [List.mem_singleton.mp hw]
      have : (weightF (List.replicate n 0) : Int) = 0 := by
        rw [weight_sum (by intro x hx; rw [List.eq_of_mem_replicate hx]; decide), sum_sumN (List.length_replicate ..)]
        exact sumN_zero n fun i _ => rep_at n i
      omega
  | h1 l r ih =>
    intro ok
    have okl : ∀ x ∈ l, RowOk 2 n x := fun x hx => ok x (List.mem_append_left _ hx)
    have hr : RowOk 2 n r := ok r (List.mem_append_right _ (List.mem_singleton_self r))
    have ih := ih okl
    have wok : ∀ w ∈ wordsF 2 n l, RowOk 2 n w := words_ok 2 (by decide)
    have zw : ∀ l : List (List Int), (∀ x ∈ l, RowOk 2 n x) → List.replicate n 0 ∈ wordsF 2 n l := fun l => by
      induction l using snoc_ind with
      | h0 =>
        intro _
        exact List.mem_singleton_self _
      | h1 l x ih =>
        intro o
        exact (words2 (o x (List.mem_append_right _ (List.mem_singleton_self x)))).mpr (.inl (ih fun y hy => o y (List.mem_append_left _ hy)))
    have pz : ∀ x, RowOk 2 n x → plusF 2 (List.replicate n 0) x 1 = x := fun x hx => by
      refine row_ext (n := n) (by rw [plusF_len, List.length_replicate]) hx.1 fun i => ?_
      rw [plusF_at (by rw [List.length_replicate, hx.1]), rep_at, Int.zero_add, Int.one_mul]
      exact hx.mod i (by decide)
    have rw_ : ∀ l : List (List Int), (∀ x ∈ l, RowOk 2 n x) → ∀ x ∈ l, x ∈ wordsF 2 n l := fun l => by
      induction l using snoc_ind with
      | h0 =>
        intro _ x hx
        cases hx
      | h1 l y ih =>
        intro o x hx
        have oy := o y (List.mem_append_right _ (List.mem_singleton_self y))
        have ol : ∀ z ∈ l, RowOk 2 n z := fun z hz => o z (List.mem_append_left _ hz)
        rcases List.mem_append.mp hx with hx | hx
        · exact (words2 oy).mpr (.inl (ih ol x hx))
        · rw [List.mem_singleton.mp hx]
          exact (words2 oy).mpr (.inr ⟨_, zw l ol, (pz y oy).symm⟩)
    constructor
    · intro h
      have hl := ih.mp fun w hw => h w ((words2 hr).mpr (.inl hw))
      have h4 : weightF r % 4 = 0 := h r ((words2 hr).mpr (.inr ⟨_, zw l okl, (pz r hr).symm⟩))
      refine ⟨fun x hx => ?_, List.pairwise_append.mpr ⟨hl.2, List.pairwise_singleton _ _, fun x hx y hy => ?_⟩⟩
      · rcases List.mem_append.mp hx with hx | hx
        · exact hl.1 x hx
        · rw [List.mem_singleton.mp hx]
          exact h4
      · rw [List.mem_singleton.mp hy]
        have hp := h (plusF 2 x r 1) ((words2 hr).mpr (.inr ⟨x, rw_ l okl x hx, rfl⟩))
        have wp := weight_plus (okl x hx) hr
        have hx4 := hl.1 x hx
        omega
    · intro h w hw
      have hp := List.pairwise_append.mp h.2
      have hl := ih.mpr ⟨fun x hx => h.1 x (List.mem_append_left _ hx), hp.1⟩
      have h4 := h.1 r (List.mem_append_right _ (List.mem_singleton_self r))
      rcases (words2 hr).mp hw with hw | ⟨v, hv, rfl⟩
      · exact hl w hw
      · -- products of words with a row are even
        have even : ∀ l : List (List Int), (∀ x ∈ l, RowOk 2 n x ∧ dotF x r % 2 = 0) → ∀ w ∈ wordsF 2 n l, dotF w r % 2 = 0 := fun l => by
          induction l using snoc_ind with
          | h0 =>
            intro _ w hw
            rw [List.mem_singleton.mp hw, dot_sumN (List.length_replicate ..), sumN_zero n fun i _ => by rw [rep_at, Int.zero_mul]]
            rfl
          | h1 l y ih =>
            intro o w hw
            have oy := o y (List.mem_append_right _ (List.mem_singleton_self y))
            have ol := fun z (hz : z ∈ l) => o z (List.mem_append_left _ hz)
            rcases (words2 oy.1).mp hw with hw | ⟨v, hv, rfl⟩
            · exact ih ol w hw
            · rw [dot_plus (words_ok 2 (by decide) v hv) oy.1]
              have a := ih ol v hv
              have b := oy.2
              omega
        have ev := even l (fun x hx => ⟨okl x hx, hp.2.2 x hx r (List.mem_singleton_self r)⟩) v hv
        have wp := weight_plus (wok v hv) hr
        have hv4 := hl v hv
        omega
theorem inside_iff {q : Nat} {rows : List (List Int)} : insideB q rows = true ↔ (∀ a ∈ rows, worthF q a a = 0) ∧ rows.Pairwise fun a b => worthF q a b = 0 := by
  have gd : ∀ i (h : i < rows.length), rows.getD i [] = rows[i] := fun i h => by rw [List.getD_eq_getElem?_getD, List.getElem?_eq_getElem h]; rfl
  unfold insideB
  rw [List.all_eq_true]
  constructor
  · intro h
    have key : ∀ i j (hij : i ≤ j) (hj : j < rows.length), worthF q (rows[i]'(by omega)) rows[j] = 0 := fun i j hij hj => by
      have h1 := h i (List.mem_range.mpr (by omega))
      rw [List.all_eq_true] at h1
      have hm : rows[j] ∈ rows.drop i := by
        have : (rows.drop i)[j - i]? = some rows[j] := by
          rw [List.getElem?_drop, show i + (j - i) = j by omega, List.getElem?_eq_getElem hj]
        exact List.mem_of_getElem? this
      have h2 := h1 _ hm
      rw [gd i (by omega)] at h2
      simpa using h2
    refine ⟨fun a ha => ?_, List.pairwise_iff_getElem.mpr fun i j hi hj hij => key i j (by omega) hj⟩
    obtain ⟨i, hi, rfl⟩ := List.getElem_of_mem ha
    exact key i i (Nat.le_refl _) hi
  · intro h i hi
    have hi' := List.mem_range.mp hi
    rw [List.all_eq_true]
    intro o ho
    obtain ⟨k, hk, rfl⟩ := List.getElem_of_mem ho
    rw [List.length_drop] at hk
    rw [gd i hi', List.getElem_drop]
    have : worthF q rows[i] rows[i + k] = 0 := by
      by_cases c : k = 0
      · subst c
        exact h.1 _ (List.getElem_mem _)
      · exact List.pairwise_iff_getElem.mp h.2 i (i + k) hi' (by omega) (by omega)
    simpa using this
/-- twice-even: by all words, or by rows and products -/
theorem four_iff {n : Nat} {rows : List (List Int)} (ok : ∀ r ∈ rows, RowOk 2 n r) : ((wordsF 2 n rows).all fun w => decide (weightF w % 4 = 0)) = (insideB 2 rows && rows.all fun r => decide (weightF r % 4 = 0)) := by
  have w := words_four ok
  rw [Bool.eq_iff_iff, Bool.and_eq_true, List.all_eq_true, List.all_eq_true, inside_iff]
  simp only [decide_eq_true_eq]
  rw [w]
  constructor
  · intro ⟨h1, h2⟩
    refine ⟨⟨fun a ha => ?_, h2⟩, h1⟩
    have d := dot_self (ok a ha)
    have := h1 a ha
    show dotF a a % ((2 : Nat) : Int) = 0
    omega
  · intro ⟨h1, h2⟩
    exact ⟨h2, h1.2⟩
end Own

/-! Worths of sums; spans. -/
namespace Own
theorem sumN_mod {q : Nat} (n : Nat) {f g : Nat → Int} (e : ∀ i, i < n → f i % (q : Int) = g i % (q : Int)) : sumN n f % (q : Int) = sumN n g % (q : Int) := by
  induction n with
  | zero => rfl
  | succ n ih => rw [sumN_succ, sumN_succ, Int.add_emod, ih fun i hi => e i (by omega), e n (by omega), ← Int.add_emod]
theorem sumN_add (n : Nat) (f g : Nat → Int) (m : Int) : sumN n (fun i => f i + m * g i) = sumN n f + m * sumN n g := by
  induction n with
  | zero =>
    show (0 : Int) = 0 + m * 0
    omega
  | succ n ih =>
    rw [sumN_succ, sumN_succ, sumN_succ, ih]
    grind
theorem sumN_one (n p : Nat) (hp : p < n) {f : Nat → Int} (e : ∀ i, i < n → i ≠ p → f i = 0) : sumN n f = f p := by
  induction n with
  | zero => omega
  | succ n ih =>
    rw [sumN_succ]
    by_cases c : p = n
    · subst c
      rw [sumN_zero p fun i hi => e i (by omega) (by omega), Int.zero_add]
    · rw [ih (by omega) fun i hi => e i (by omega), e n (by omega) (by omega), Int.add_zero]
section
variable {q n : Nat} {rows rows' : List (List Int)} {a b c v w row : List Int} {m : Int}
theorem dot_comm' (ha : a.length = n) (hb : b.length = n) : dotF a b = dotF b a := by
  rw [dot_sumN ha, dot_sumN hb]
  exact sumN_congr n fun i _ => Int.mul_comm _ _
theorem worth_comm (ha : a.length = n) (hb : b.length = n) : worthF q a b = worthF q b a := by
  unfold worthF
  rw [dot_comm' ha hb]
theorem worth_plus (ha : a.length = n) (hb : b.length = n) : worthF q (plusF q a b m) c = (worthF q a c + m * worthF q b c) % (q : Int) := by
  unfold worthF
  rw [dot_sumN (n := n) (by rw [plusF_len, ha]), dot_sumN ha, dot_sumN hb]
  rw [sumN_mod (q := q) n (g := fun i => a.getD i 0 * c.getD i 0 + m * (b.getD i 0 * c.getD i 0)) fun i _ => by
    rw [plusF_at (by rw [ha, hb]), Int.mul_emod, Int.emod_emod, ← Int.mul_emod]
    congr 1
    grind]
  rw [sumN_add, Int.emod_add_emod]
  generalize (sumN n fun i => a.getD i 0 * c.getD i 0) = A
  generalize (sumN n fun i => b.getD i 0 * c.getD i 0) = B
  symm
  rw [Int.add_emod, Int.mul_emod, Int.emod_emod, ← Int.mul_emod, ← Int.add_emod]
theorem worth_rng (hq : 0 < q) : 0 ≤ worthF q a b ∧ worthF q a b < (q : Int) := ⟨Int.emod_nonneg _ (by omega), Int.emod_lt_of_pos _ (by omega)⟩
theorem worth_zero : worthF q (List.replicate n 0) c = 0 := by
  unfold worthF
  rw [dot_sumN (n := n) (List.length_replicate ..), sumN_zero n fun i _ => by rw [rep_at, Int.zero_mul]]
  rfl
/-! ### spans -/
theorem plus_zero (hq : 0 < q) (hv : RowOk q n v) : plusF q v (List.replicate n 0) m = v := by
  refine row_ext (n := n) (by rw [plusF_len, hv.1]) hv.1 fun i => ?_
  rw [plusF_at (by rw [hv.1, List.length_replicate]), rep_at, Int.mul_zero, Int.add_zero]
  exact hv.mod i hq
theorem zero_plus (hq : 0 < q) (hv : RowOk q n v) : plusF q (List.replicate n 0) v 1 = v := by
  refine row_ext (n := n) (by rw [plusF_len, List.length_replicate]) hv.1 fun i => ?_
  rw [plusF_at (by rw [hv.1, List.length_replicate]), rep_at, Int.one_mul, Int.zero_add]
  exact hv.mod i hq
theorem Sp.mem (hq : 0 < q) (hr : RowOk q n row) (h : row ∈ rows) : Sp q n rows row := by
  have := Sp.add (q := q) (n := n) (rows := rows) 1 Sp.zero h
  rwa [zero_plus hq hr] at this
/-- sums of what is in the span -/
theorem Sp.plus (hq : 0 < q) (ok : ∀ r ∈ rows, RowOk q n r) (h : Sp q n rows v) (g : Sp q n rows w) (m : Int) : Sp q n rows (plusF q v w m) := by
  induction g with
  | zero => rwa [plus_zero hq (h.ok hq)]
  | @add w r c hw hr ih =>
    rw [plus_swap (n := n) (h.ok hq).1 (hw.ok hq).1 (ok r hr).1]
    exact ih.add (m * c) hr
theorem Sp.scale (hq : 0 < q) (ok : ∀ r ∈ rows, RowOk q n r) (g : Sp q n rows w) (m : Int) : Sp q n rows (plusF q (List.replicate n 0) w m) := Sp.zero.plus hq ok g m
theorem Sp.mono (hq : 0 < q) (ok : ∀ r ∈ rows', RowOk q n r) (h : Sp q n rows v) (m : ∀ r ∈ rows, Sp q n rows' r) : Sp q n rows' v := by
  induction h with
  | zero => exact Sp.zero
  | @add v r c hv hr ih => exact ih.plus hq ok (m r hr) c
theorem Sp.sub (h : Sp q n rows v) (m : ∀ r ∈ rows, r ∈ rows') : Sp q n rows' v := by
  induction h with
  | zero => exact Sp.zero
  | @add v r c hv hr ih => exact ih.add c (m r hr)
/-- by its first row -/
theorem Sp.split (hq : 0 < q) (ok : ∀ r ∈ row :: rows, RowOk q n r) (h : Sp q n (row :: rows) v) : ∃ c m, Sp q n rows c ∧ v = plusF q c row m := by
  have or_ := ok row (List.mem_cons_self ..)
  induction h with
  | zero => exact ⟨_, 0, Sp.zero, by rw [plus_q hq (zero_ok hq) (by rw [List.length_replicate, or_.1]) (by rfl)]⟩
  | @add v r k hv hr ih =>
    obtain ⟨c, m, hc, rfl⟩ := ih
    rcases List.mem_cons.mp hr with rfl | hr
    · exact ⟨c, m + k, hc, by rw [plus_plus (by rw [(hc.ok hq).1, or_.1])]⟩
    · refine ⟨plusF q c r k, m, hc.add k hr, ?_⟩
      have o := ok r (List.mem_cons_of_mem _ hr)
      have oc := hc.ok hq
      refine row_ext (n := n) (by rw [plusF_len, plusF_len, oc.1]) (by rw [plusF_len, plusF_len, oc.1]) fun i => ?_
      rw [plusF_at (by rw [plusF_len, oc.1, o.1]), plusF_at (by rw [oc.1, or_.1]), plusF_at (by rw [plusF_len, oc.1, or_.1]), plusF_at (by rw [oc.1, o.1]), Int.emod_add_emod, Int.emod_add_emod]
      congr 1
      grind
theorem Sp.worth (hq : 0 < q) (ok : ∀ r ∈ rows, RowOk q n r) (h : Sp q n rows v) (z : ∀ r ∈ rows, worthF q r c = 0) : worthF q v c = 0 := by
  induction h with
  | zero => exact worth_zero
  | @add v r k hv hr ih =>
    rw [worth_plus (hv.ok hq).1 (ok r hr).1, ih, z r hr, Int.mul_zero]
    rfl
/-- all worths within the span are nought -/
theorem Sp.worths (hq : 0 < q) (ok : ∀ r ∈ rows, RowOk q n r) (z : ∀ a ∈ rows, ∀ b ∈ rows, worthF q a b = 0) (h : Sp q n rows v) (g : Sp q n rows w) : worthF q v w = 0 := by
  refine h.worth hq ok fun r hr => ?_
  rw [worth_comm (ok r hr).1 (g.ok hq).1]
  exact g.worth hq ok fun x hx => z x hx r hr
/-! ### one row more -/
theorem plus_back (hq : 0 < q) (ha : RowOk q n a) (hb : b.length = n) : plusF q (plusF q a b m) b (-m) = a := by
  rw [plus_plus (by rw [ha.1, hb])]
  exact plus_q hq ha (by rw [ha.1, hb]) (by rw [Int.add_right_neg]; rfl)
theorem unit_back (hq : q = 2 ∨ q = 3) (h : RowOk q n v) (hf : firstF v < n) : v = plusF q (unitF q v) (unitF q v) (v.getD (firstF v) 0 - 1) := by
  have q0 : 0 < q := by omega
  have b := h.at (firstF v) q0
  have nz := first_not (xs := v) (by rw [h.1]; exact hf)
  refine row_ext (n := n) h.1 (by rw [plusF_len, (unit_ok q0 h).1]) fun i => ?_
  rw [plusF_at rfl, unit_at h]
  have hi := h.at i q0
  generalize v.getD (firstF v) 0 = x at b nz ⊢
  generalize v.getD i 0 = y at hi ⊢
  have : x = 1 ∨ (x = 2 ∧ q = 3) := by omega
  rcases this with rfl | ⟨rfl, rfl⟩
  · rw [Int.one_mul, Int.sub_self, Int.zero_mul, Int.add_zero, Int.emod_emod]
    rw [Int.emod_eq_of_lt hi.1 hi.2]
  · have : y = 0 ∨ y = 1 ∨ y = 2 := by omega
    rcases this with rfl | rfl | rfl <;> rfl
theorem WithR.span (hq : q = 2 ∨ q = 3) (hR : Red q n rows) (hr : RowOk q n row) (h : WithR q rows row rows') : Sp q n rows' v ↔ Sp q n (row :: rows) v := by
  have q0 : 0 < q := by omega
  have ok : ∀ r ∈ row :: rows, RowOk q n r := fun r hm => by
    rcases List.mem_cons.mp hm with rfl | hm
    · exact hr
    · exact hR.ok r hm
  have hR' := WithR.red hq hR hr h
  rcases h with ⟨z, rfl⟩ | ⟨z, p, _⟩
  · have lo := redF_ok (rows := rows') q0 hr
    refine ⟨fun h => h.sub fun r hm => List.mem_cons_of_mem _ hm, fun h => h.mono q0 hR.ok fun r hm => ?_⟩
    rcases List.mem_cons.mp hm with rfl | hm
    · exact gone_sp q0 hR hr (by rw [z, lo.1])
    · exact Sp.mem q0 (hR.ok r hm) hm
  · have lo := redF_ok (rows := rows) q0 hr
    have ls : Sp q n (row :: rows) (redF q rows row) := Sp.red (fun r hm => List.mem_cons_of_mem _ hm) (Sp.mem q0 hr (List.mem_cons_self ..))
    have back : Sp q n (redF q rows row :: rows) row := Sp.of_red q0 hr (fun r hm => ⟨List.mem_cons_of_mem _ hm, (hR.ok r hm).1⟩) (Sp.mem q0 lo (List.mem_cons_self ..))
    generalize redF q rows row = left at *
    have fl : firstF left < n := by rw [← lo.1]; exact z
    have uo := unit_ok q0 lo
    have us : Sp q n (row :: rows) (unitF q left) := ls.plus q0 ok ls _
    have um : unitF q left ∈ rows' := p.mem_iff.mpr (List.mem_cons_self ..)
    have usp : Sp q n rows' (unitF q left) := Sp.mem q0 uo um
    have lsp : Sp q n rows' left := by
      rw [unit_back hq lo fl]
      exact usp.plus q0 hR'.ok usp _
    have rsp : ∀ r ∈ rows, Sp q n rows' r := fun r hm => by
      have cm : clrF q (unitF q left) r ∈ rows' := p.mem_iff.mpr (List.mem_cons_of_mem _ (List.mem_map.mpr ⟨r, hm, rfl⟩))
      have cs := Sp.mem q0 (clr_ok q0 (hR.ok r hm)) cm
      unfold clrF at cs
      split at cs
      · exact cs
      · have := cs.plus q0 hR'.ok usp (-((q : Int) - r.getD (firstF (unitF q left)) 0))
        rwa [plus_back q0 (hR.ok r hm) uo.1] at this
    refine ⟨fun h => h.mono q0 ok fun r hm => ?_, fun h => h.mono q0 hR'.ok fun r hm => ?_⟩
    · rcases List.mem_cons.mp (p.mem_iff.mp hm) with rfl | hm
      · exact us
      · obtain ⟨x, hx, rfl⟩ := List.mem_map.mp hm
        have xs := Sp.mem q0 (ok x (List.mem_cons_of_mem _ hx)) (List.mem_cons_of_mem row hx)
        unfold clrF
        split
        · exact xs
        · exact xs.plus q0 ok us _
    · rcases List.mem_cons.mp hm with rfl | hm
      · refine back.mono q0 hR'.ok fun x hx => ?_
        rcases List.mem_cons.mp hx with rfl | hx
        · exact lsp
        · exact rsp x hx
      · exact rsp r hm
/-! ### what is kept -/
theorem led_worth (hq : q = 2 ∨ q = 3) (hR : Red q n rows) (hr : row.length = n) : ∀ (todo : List (List Int)) (st : LedS), (∀ r ∈ todo, r ∈ rows) → ((∀ k ∈ st.kept, RowOk q n k ∧ worthF q k row = 0) ∧ (st.ahead ≠ 0 → st.last ∈ rows ∧ st.ahead = worthF q st.last row)) →
    (∀ k ∈ (todo.foldl (ledStep q row) st).kept, RowOk q n k ∧ worthF q k row = 0) ∧ ((todo.foldl (ledStep q row) st).ahead ≠ 0 → (todo.foldl (ledStep q row) st).last ∈ rows ∧ (todo.foldl (ledStep q row) st).ahead = worthF q (todo.foldl (ledStep q row) st).last row) := by
  intro todo
  induction todo with
  | nil => exact fun st _ h => h
  | cons one todo ih =>
    intro st ht h
    have q0 : 0 < q := by omega
    have hone := ht one (List.mem_cons_self ..)
    refine ih _ (fun r hm => ht r (List.mem_cons_of_mem _ hm)) ?_
    unfold ledStep
    split
    · rename_i z
      refine ⟨fun k hk => ?_, h.2⟩
      rcases List.mem_append.mp hk with hk | hk
      · exact h.1 k hk
      · rw [List.mem_singleton.mp hk]
        exact ⟨hR.ok one hone, z⟩
    · rename_i nz
      split
      · exact ⟨h.1, fun _ => ⟨hone, rfl⟩⟩
      · rename_i na
        obtain ⟨lm, la⟩ := h.2 na
        refine ⟨fun k hk => ?_, h.2⟩
        rcases List.mem_append.mp hk with hk | hk
        · exact h.1 k hk
        · rw [List.mem_singleton.mp hk]
          refine ⟨plusF_ok q0 (hR.ok one hone).1, ?_⟩
          have w1 := worth_rng (q := q) (a := one) (b := row) q0
          have w2 := worth_rng (q := q) (a := st.last) (b := row) q0
          rw [worth_plus (hR.ok one hone).1 (hR.ok _ lm).1, ← la] at *
          generalize st.ahead = y at *
          generalize worthF q one row = x at *
          rcases hq with rfl | rfl
          · have : x = 1 := by omega
            have : y = 1 := by omega
            subst x y
            rfl
          · have : x = 1 ∨ x = 2 := by omega
            have : y = 1 ∨ y = 2 := by omega
            rcases ‹x = 1 ∨ x = 2› with rfl | rfl <;> rcases ‹y = 1 ∨ y = 2› with rfl | rfl <;> rfl
theorem led_gen (hq : q = 2 ∨ q = 3) (hR : Red q n rows) : ∀ (todo done : List (List Int)) (st : LedS), (∀ r ∈ todo, r ∈ rows) → (∀ r ∈ done, r ∈ rows) →
    ((st.ahead = 0 → ∀ r ∈ done, r ∈ st.kept) ∧ (st.ahead ≠ 0 → st.last ∈ rows ∧ (∀ r ∈ done, Sp q n (st.last :: st.kept) r)) ∧ (∀ k ∈ st.kept, RowOk q n k)) →
    let s := todo.foldl (ledStep q row) st
    (s.ahead = 0 → ∀ r ∈ done ++ todo, r ∈ s.kept) ∧ (s.ahead ≠ 0 → s.last ∈ rows ∧ (∀ r ∈ done ++ todo, Sp q n (s.last :: s.kept) r)) ∧ (∀ k ∈ s.kept, RowOk q n k) := by
  intro todo
  induction todo with
  | nil =>
    intro done st _ _ h
    simpa using h
  | cons one todo ih =>
    intro done st ht hd h
    have q0 : 0 < q := by omega
    have hone := ht one (List.mem_cons_self ..)
    have oo := hR.ok one hone
    have := ih (done ++ [one]) (ledStep q row st one) (fun r hm => ht r (List.mem_cons_of_mem _ hm)) (fun r hm => by
      rcases List.mem_append.mp hm with hm | hm
      · exact hd r hm
      · rw [List.mem_singleton.mp hm]
        exact hone) ?_
    · rw [List.append_assoc] at this
      exact this
    · obtain ⟨h1, h2, h3⟩ := h
      unfold ledStep
      split
      · refine ⟨fun z r hm => ?_, fun z => ⟨(h2 z).1, fun r hm => ?_⟩, fun k hk => ?_⟩
        · rcases List.mem_append.mp hm with hm | hm
          · exact List.mem_append_left _ (h1 z r hm)
          · exact List.mem_append_right _ hm
        · rcases List.mem_append.mp hm with hm | hm
          · refine ((h2 z).2 r hm).sub fun x hx => ?_
            rcases List.mem_cons.mp hx with rfl | hx
            · exact List.mem_cons_self ..
            · exact List.mem_cons_of_mem _ (List.mem_append_left _ hx)
          · rw [List.mem_singleton.mp hm]
            exact Sp.mem q0 oo (List.mem_cons_of_mem _ (List.mem_append_right _ (List.mem_singleton_self _)))
        · rcases List.mem_append.mp hk with hk | hk
          · exact h3 k hk
          · rw [List.mem_singleton.mp hk]
            exact oo
      · rename_i nz
        split
        · rename_i z
          refine ⟨fun z' => absurd z' nz, fun _ => ⟨hone, fun r hm => ?_⟩, h3⟩
          rcases List.mem_append.mp hm with hm | hm
          · exact Sp.mem q0 (hR.ok r (hd r hm)) (List.mem_cons_of_mem _ (h1 z r hm))
          · rw [List.mem_singleton.mp hm]
            exact Sp.mem q0 oo (List.mem_cons_self ..)
        · rename_i na
          obtain ⟨l1, l2⟩ := h2 na
          have lo := hR.ok _ l1
          refine ⟨fun z' => absurd z' na, fun _ => ⟨l1, fun r hm => ?_⟩, fun k hk => ?_⟩
          · rcases List.mem_append.mp hm with hm | hm
            · refine (l2 r hm).sub fun x hx => ?_
              rcases List.mem_cons.mp hx with rfl | hx
              · exact List.mem_cons_self ..
              · exact List.mem_cons_of_mem _ (List.mem_append_left _ hx)
            · rw [List.mem_singleton.mp hm]
              generalize (-(worthF q one row) * st.ahead) % (q : Int) = m
              have ks : Sp q n (st.last :: (st.kept ++ [plusF q one st.last m])) (plusF q one st.last m) := Sp.mem q0 (plusF_ok q0 oo.1) (List.mem_cons_of_mem _ (List.mem_append_right _ (List.mem_singleton_self _)))
              have := ks.add (-m) (List.mem_cons_self ..)
              rwa [plus_back q0 oo lo.1] at this
          · rcases List.mem_append.mp hk with hk | hk
            · exact h3 k hk
            · rw [List.mem_singleton.mp hk]
              exact plusF_ok q0 oo.1
/-- what is kept: the words that are worth nought with the row -/
theorem ledK_span (hq : q = 2 ∨ q = 3) (hR : Red q n rows) (hd : Desc rows) (hr : RowOk q n row) : Sp q n (ledK q rows row) v ↔ Sp q n rows v ∧ worthF q v row = 0 := by
  have q0 : 0 < q := by omega
  have mr : ∀ r ∈ rows.reverse, r ∈ rows := fun r h => List.mem_reverse.mp h
  have lw := led_worth (row := row) hq hR hr.1 rows.reverse ⟨[], [], 0⟩ mr ⟨fun k hk => (by simp at hk), fun z => absurd rfl z⟩
  have lg := led_gen (row := row) hq hR rows.reverse [] ⟨[], [], 0⟩ mr (fun r h => by simp at h) ⟨fun _ r h => (by simp at h), fun z => absurd rfl z, fun k hk => (by simp at hk)⟩
  have li := led_inv (row := row) q0 hR hd
  unfold ledK ledAll
  dsimp only at lg
  unfold ledAll at li
  generalize rows.reverse.foldl (ledStep q row) ⟨[], [], 0⟩ = s at lw lg li ⊢
  have okk : ∀ k ∈ s.kept, RowOk q n k := lg.2.2
  have kz : ∀ k ∈ s.kept, worthF q k row = 0 := fun k hk => (lw.1 k hk).2
  refine ⟨fun h => ⟨h.kept q0 hR li.sp, h.worth q0 okk kz⟩, fun ⟨h, z⟩ => ?_⟩
  by_cases a0 : s.ahead = 0
  · refine h.sub fun r hm => lg.1 a0 r ?_
    rw [List.nil_append]
    exact List.mem_reverse.mpr hm
  · obtain ⟨lm, la⟩ := lw.2 a0
    have lo := hR.ok _ lm
    have h2 : Sp q n (s.last :: s.kept) v := h.mono q0 (fun r hm => by
      rcases List.mem_cons.mp hm with rfl | hm
      · exact lo
      · exact okk r hm) fun r hm => (lg.2.1 a0).2 r (by rw [List.nil_append]; exact List.mem_reverse.mpr hm)
    obtain ⟨c, m, hc, rfl⟩ := h2.split q0 fun r hm => by
      rcases List.mem_cons.mp hm with rfl | hm
      · exact lo
      · exact okk r hm
    rw [worth_plus (hc.ok q0).1 lo.1, hc.worth q0 okk kz, Int.zero_add, ← la] at z
    have wr := worth_rng (q := q) (a := s.last) (b := row) q0
    rw [← la] at wr
    have m0 : m % (q : Int) = 0 := by
      generalize s.ahead = y at *
      rcases hq with rfl | rfl
      · have : y = 1 := by omega
        subst this
        omega
      · have : y = 1 ∨ y = 2 := by omega
        rcases this with rfl | rfl <;> omega
    rw [plus_q q0 (hc.ok q0) (by rw [(hc.ok q0).1, lo.1]) m0]
    exact hc
/-- the code that a row leads to -/
theorem LedR.span (hq : q = 2 ∨ q = 3) (hR : Red q n rows) (hd : Desc rows) (hr : RowOk q n row) (h : LedR q rows row rows') : Sp q n rows' v ↔ ∃ c m, Sp q n rows c ∧ worthF q c row = 0 ∧ v = plusF q c row m := by
  have q0 : 0 < q := by omega
  have kr := led_red (row := row) q0 hR hd
  have ok : ∀ r ∈ row :: ledK q rows row, RowOk q n r := fun r hm => by
    rcases List.mem_cons.mp hm with rfl | hm
    · exact hr
    · exact kr.ok r hm
  rw [WithR.span hq kr hr h]
  constructor
  · intro s
    obtain ⟨c, m, hc, rfl⟩ := s.split q0 ok
    obtain ⟨h1, h2⟩ := (ledK_span hq hR hd hr).mp hc
    exact ⟨c, m, h1, h2, rfl⟩
  · rintro ⟨c, m, h1, h2, rfl⟩
    exact (((ledK_span hq hR hd hr).mpr ⟨h1, h2⟩).sub fun r hm => List.mem_cons_of_mem _ hm).add m (List.mem_cons_self ..)
end
end Own

/-! Rows in steps are told by their span; a code within its mirror of half the places is its mirror. -/
namespace Own
theorem sorted_ext {α : Type} (f : α → Nat) : ∀ {a b : List α}, a.Pairwise (fun x y => f x < f y) → b.Pairwise (fun x y => f x < f y) → (∀ x, x ∈ a ↔ x ∈ b) → a = b
  | [], b, _, _, m => by
    cases b with
    | nil => rfl
    | cons y b => exact absurd ((m y).mpr (List.mem_cons_self ..)) (by simp)
  | x :: a, [], _, _, m => absurd ((m x).mp (List.mem_cons_self ..)) (by simp)
  | x :: a, y :: b, ha, hb, m => by
    have ha' := List.pairwise_cons.mp ha
    have hb' := List.pairwise_cons.mp hb
    have e : x = y := by
      rcases List.mem_cons.mp ((m x).mp (List.mem_cons_self ..)) with e | h1
      · exact e
      · rcases List.mem_cons.mp ((m y).mpr (List.mem_cons_self ..)) with e | h2
        · exact e.symm
        · have := hb'.1 x h1
          have := ha'.1 y h2
          omega
    subst e
    congr 1
    refine sorted_ext f ha'.2 hb'.2 fun z => ⟨fun h => ?_, fun h => ?_⟩
    · rcases List.mem_cons.mp ((m z).mp (List.mem_cons_of_mem _ h)) with rfl | h'
      · exact absurd (ha'.1 z h) (Nat.lt_irrefl _)
      · exact h'
    · rcases List.mem_cons.mp ((m z).mpr (List.mem_cons_of_mem _ h)) with rfl | h'
      · exact absurd (hb'.1 z h) (Nat.lt_irrefl _)
      · exact h'
section
variable {q n : Nat} {rows rows' : List (List Int)} {a b c v w row : List Int} {m : Int}
/-- the first place of a word is that of a row -/
theorem Sp.first (hq : 0 < q) (hR : Red q n rows) (h : Sp q n rows v) (hf : firstF v < n) : ∃ r ∈ rows, firstF r = firstF v := by
  have ov := h.ok hq
  refine Classical.byContradiction fun no => ?_
  have nz := first_not (xs := v) (by rw [ov.1]; exact hf)
  apply nz
  rw [h.rep hq hR]
  have : repF rows v (firstF v) = 0 := by
    unfold repF
    have z : ∀ r ∈ rows, v.getD (firstF r) 0 * r.getD (firstF v) 0 = 0 := fun r hr => by
      by_cases c : firstF r < firstF v
      · rw [first_zero c, Int.zero_mul]
      · have ne : firstF r ≠ firstF v := fun e => no ⟨r, hr, e⟩
        rw [first_zero (xs := r) (j := firstF v) (by omega), Int.mul_zero]
    clear no nz
    induction rows with
    | nil => rfl
    | cons r rs ih =>
      rw [List.map_cons, List.sum_cons, z r (List.mem_cons_self ..)]
      have : ((rs.map fun r => v.getD (firstF r) 0 * r.getD (firstF v) 0).sum) = 0 := by
        have z2 := fun x hx => z x (List.mem_cons_of_mem r hx)
        clear ih z h hR
        induction rs with
        | nil => rfl
        | cons x xs ih2 => rw [List.map_cons, List.sum_cons, z2 x (List.mem_cons_self ..), ih2 fun y hy => z2 y (List.mem_cons_of_mem _ hy)]; rfl
      rw [this]
      rfl
  rw [this]
  rfl
theorem Red.inj (hR : Red q n rows) : ∀ {a b : List Int}, a ∈ rows → b ∈ rows → firstF a = firstF b → a = b := by
  have off := hR.off
  have fst := hR.fst
  clear hR
  induction rows with
  | nil => intro a b h
           cases h
  | cons r rs ih =>
    intro a b ha hb e
    have o := List.pairwise_cons.mp off
    rcases List.mem_cons.mp ha with rfl | ha2
    · rcases List.mem_cons.mp hb with rfl | hb
      · rfl
      · have h1 := (o.1 b hb).1
        have h2 := (fst a (List.mem_cons_self ..)).2
        rw [← e, h2] at h1
        cases h1
    · rcases List.mem_cons.mp hb with rfl | hb
      · have h1 := (o.1 a ha2).1
        have h2 := (fst b (List.mem_cons_self ..)).2
        rw [e, h2] at h1
        cases h1
      · exact ih o.2 (fun x hx => fst x (List.mem_cons_of_mem _ hx)) ha2 hb e
theorem Red.at_first (hR : Red q n rows) {a b : List Int} (ha : a ∈ rows) (hb : b ∈ rows) : a.getD (firstF b) 0 = if a = b then 1 else 0 := by
  split
  · rename_i e
    rw [e]
    exact (hR.fst b hb).2
  · rename_i ne
    have off := hR.off
    clear hR
    induction rows with
    | nil => cases ha
    | cons r rs ih =>
      have o := List.pairwise_cons.mp off
      rcases List.mem_cons.mp ha with rfl | ha2
      · rcases List.mem_cons.mp hb with rfl | hb
        · exact absurd rfl ne
        · exact (o.1 b hb).1
      · rcases List.mem_cons.mp hb with rfl | hb
        · exact (o.1 a ha2).2
        · exact ih ha2 hb o.2
theorem red_sub (hq : 0 < q) (ha : Red q n rows) (hb : Red q n rows') (e : ∀ v, Sp q n rows v ↔ Sp q n rows' v) : ∀ r ∈ rows, r ∈ rows' := fun r hr => by
  have or_ := ha.ok r hr
  have fr := ha.fst r hr
  have rs := Sp.mem hq or_ hr
  obtain ⟨s, hs, fe⟩ := Sp.first hq hb ((e r).mp rs) fr.1
  have os := hb.ok s hs
  have ss : Sp q n rows s := (e s).mpr (Sp.mem hq os hs)
  have d := rs.plus hq ha.ok ss (-1)
  have z := d.none hq ha fun t ht => by
    rw [plusF_at (by rw [or_.1, os.1]), ha.at_first hr ht]
    obtain ⟨u, hu, fu⟩ := Sp.first hq hb ((e t).mp (Sp.mem hq (ha.ok t ht) ht)) (ha.fst t ht).1
    rw [← fu, hb.at_first hs hu]
    by_cases c : r = t
    · have : s = u := hb.inj hs hu (by rw [fe, c, fu])
      rw [if_pos c, if_pos this]
      rfl
    · have : s ≠ u := fun z => c (ha.inj hr ht (by rw [← fe, z, fu]))
      rw [if_neg c, if_neg this]
      rfl
  have : r = s := row_ext (n := n) or_.1 os.1 fun i => by
    have h := z i
    rw [plusF_at (by rw [or_.1, os.1])] at h
    have b1 := or_.at i hq
    have b2 := os.at i hq
    have := Int.emod_emod_of_dvd (r.getD i 0 + -1 * s.getD i 0) (Int.dvd_refl (q : Int))
    obtain ⟨k, hk⟩ := Int.dvd_of_emod_eq_zero h
    generalize r.getD i 0 = x at *
    generalize s.getD i 0 = y at *
    have : k = 0 := by
      rcases Int.lt_trichotomy k 0 with c | c | c
      · have : (q : Int) * k ≤ (q : Int) * (-1) := Int.mul_le_mul_of_nonneg_left (by omega) (by omega)
        omega
      · exact c
      · have : (q : Int) * 1 ≤ (q : Int) * k := Int.mul_le_mul_of_nonneg_left (by omega) (by omega)
        omega
    subst this
    omega
  rw [this]
  exact hs
/-- rows in steps and in order are told by their span -/
theorem red_ext (hq : 0 < q) (ha : Red q n rows) (hb : Red q n rows') (da : Desc rows) (db : Desc rows') (e : ∀ v, Sp q n rows v ↔ Sp q n rows' v) : rows = rows' :=
  sorted_ext firstF (ha.asc da) (hb.asc db) fun x => ⟨red_sub hq ha hb e x, red_sub hq hb ha (fun v => (e v).symm) x⟩
/-! ### as many words as there are messages -/
def msgs (q : Nat) : Nat → List (List Int)
  | 0 => [[]]
  | k + 1 => (List.range q).flatMap fun x : Nat => (msgs q k).map fun m => (x : Int) :: m
theorem msgs_mem (q : Nat) : ∀ (k : Nat) (x : List Int), x ∈ msgs q k ↔ RowOk q k x
  | 0, x => by
    constructor
    · intro h
      rw [List.mem_singleton.mp h]
      exact ⟨rfl, by simp⟩
    · intro h
      rw [List.eq_nil_of_length_eq_zero h.1]
      exact List.mem_singleton_self _
  | k + 1, x => by
    unfold msgs
    rw [List.mem_flatMap]
    constructor
    · rintro ⟨y, hy, h⟩
      obtain ⟨m, hm, rfl⟩ := List.mem_map.mp h
      have ih := (msgs_mem q k m).mp hm
      have := List.mem_range.mp hy
      refine ⟨by rw [List.length_cons, ih.1], fun z hz => ?_⟩
      rcases List.mem_cons.mp hz with rfl | hz
      · omega
      · exact ih.2 z hz
    · intro h
      cases x with
      | nil => cases h.1
      | cons z m =>
        have hz := h.2 z (List.mem_cons_self ..)
        refine ⟨z.toNat, List.mem_range.mpr (by omega), List.mem_map.mpr ⟨m, (msgs_mem q k m).mpr ⟨by have := h.1; rw [List.length_cons] at this; omega, fun y hy => h.2 y (List.mem_cons_of_mem _ hy)⟩, ?_⟩⟩
        congr 1
        omega
theorem nodup_map' {α β : Type} {f : α → β} {l : List α} (h : l.Nodup) (inj : ∀ a ∈ l, ∀ b ∈ l, f a = f b → a = b) : (l.map f).Nodup := by
  induction l with
  | nil => exact List.nodup_nil
  | cons x l ih =>
    have h' := List.nodup_cons.mp h
    rw [List.map_cons]
    refine List.nodup_cons.mpr ⟨fun hm => ?_, ih h'.2 fun a ha b hb => inj a (List.mem_cons_of_mem _ ha) b (List.mem_cons_of_mem _ hb)⟩
    obtain ⟨y, hy, e⟩ := List.mem_map.mp hm
    have := inj y (List.mem_cons_of_mem _ hy) x (List.mem_cons_self ..) e
    exact h'.1 (this ▸ hy)
theorem nodup_app {α : Type} {a b : List α} (ha : a.Nodup) (hb : b.Nodup) (d : ∀ x ∈ a, x ∉ b) : (a ++ b).Nodup := by
  induction a with
  | nil => exact hb
  | cons x a ih =>
    have h' := List.nodup_cons.mp ha
    rw [List.cons_append]
    refine List.nodup_cons.mpr ⟨fun hm => ?_, ih h'.2 fun y hy => d y (List.mem_cons_of_mem _ hy)⟩
    rcases List.mem_append.mp hm with hm | hm
    · exact h'.1 hm
    · exact d x (List.mem_cons_self ..) hm
theorem msgs_nodup (q : Nat) : ∀ k : Nat, (msgs q k).Nodup
  | 0 => by simp [msgs]
  | k + 1 => by
    unfold msgs
    have ih := msgs_nodup q k
    have key : ∀ l : List Nat, l.Nodup → (l.flatMap fun x : Nat => (msgs q k).map fun m => (x : Int) :: m).Nodup := by
      intro l
      induction l with
      | nil => intro _
               exact List.nodup_nil
      | cons y l ihl =>
        intro h
        have h' := List.nodup_cons.mp h
        rw [List.flatMap_cons]
        refine nodup_app (nodup_map' ih fun a _ b _ e => (List.cons.inj e).2) (ihl h'.2) fun x hx hx2 => ?_
        obtain ⟨m, _, rfl⟩ := List.mem_map.mp hx
        obtain ⟨z, hz, h3⟩ := List.mem_flatMap.mp hx2
        obtain ⟨m2, _, e⟩ := List.mem_map.mp h3
        have := (List.cons.inj e).1
        have : z = y := by omega
        exact h'.1 (this ▸ hz)
    exact key _ List.nodup_range
/-- as many different things within a list as it has are all of it -/
theorem pigeon {α : Type} [DecidableEq α] : ∀ {a b : List α}, a.Nodup → (∀ x ∈ a, x ∈ b) → b.length ≤ a.length → ∀ x ∈ b, x ∈ a
  | [], b, _, _, hl, x, hx => by
    have : b = [] := List.eq_nil_of_length_eq_zero (by simpa using hl)
    rw [this] at hx
    cases hx
  | y :: a, b, hn, hs, hl, x, hx => by
    have hn' := List.nodup_cons.mp hn
    have hy := hs y (List.mem_cons_self ..)
    by_cases c : x = y
    · rw [c]
      exact List.mem_cons_self ..
    · refine List.mem_cons_of_mem _ (pigeon (b := b.erase y) hn'.2 (fun z hz => ?_) ?_ x ((List.mem_erase_of_ne c).mpr hx))
      · exact (List.mem_erase_of_ne (fun e => hn'.1 (by rw [← e]; exact hz))).mpr (hs z (List.mem_cons_of_mem _ hz))
      · rw [List.length_erase_of_mem hy]
        rw [List.length_cons] at hl
        omega
end
end Own

/-! A code within its mirror of half the places is its mirror. -/
namespace Own
section
variable {q n : Nat} {rows rows' : List (List Int)} {a b c v w row : List Int} {m : Int}
theorem diff_zero (hq : 0 < q) (hv : RowOk q n v) (hw : RowOk q n w) (z : ∀ i, i < n → (plusF q v w (-1)).getD i 0 = 0) : v = w := by
  refine row_ext (n := n) hv.1 hw.1 fun i => ?_
  by_cases hi : i < n
  · have h := z i hi
    rw [plusF_at (by rw [hv.1, hw.1])] at h
    have b1 := hv.at i hq
    have b2 := hw.at i hq
    obtain ⟨k, hk⟩ := Int.dvd_of_emod_eq_zero h
    generalize v.getD i 0 = x at *
    generalize w.getD i 0 = y at *
    have : k = 0 := by
      rcases Int.lt_trichotomy k 0 with c | c | c
      · have : (q : Int) * k ≤ (q : Int) * (-1) := Int.mul_le_mul_of_nonneg_left (by omega) (by omega)
        omega
      · exact c
      · have : (q : Int) * 1 ≤ (q : Int) * k := Int.mul_le_mul_of_nonneg_left (by omega) (by omega)
        omega
    subst this
    omega
  · rw [getD_over (by rw [hv.1]; omega), getD_over (by rw [hw.1]; omega)]
theorem nodup_len {α : Type} [DecidableEq α] : ∀ {a b : List α}, a.Nodup → (∀ x ∈ a, x ∈ b) → a.length ≤ b.length
  | [], _, _, _ => Nat.zero_le _
  | y :: a, b, hn, hs => by
    have hn' := List.nodup_cons.mp hn
    have hy := hs y (List.mem_cons_self ..)
    have := nodup_len (b := b.erase y) hn'.2 fun z hz => (List.mem_erase_of_ne (fun e => hn'.1 (by rw [← e]; exact hz))).mpr (hs z (List.mem_cons_of_mem _ hz))
    rw [List.length_erase_of_mem hy] at this
    have := List.length_pos_of_mem hy
    rw [List.length_cons]
    omega
theorem filter_two {α : Type} (p : α → Bool) : ∀ l : List α, (l.filter p).length + (l.filter fun x => !p x).length = l.length
  | [] => rfl
  | x :: l => by
    have ih := filter_two p l
    rw [List.filter_cons, List.filter_cons, List.length_cons]
    cases c : p x
    · simp only [Bool.not_false, if_true, Bool.false_eq_true, if_false, List.length_cons]
      omega
    · simp only [Bool.not_true, if_true, Bool.false_eq_true, if_false, List.length_cons]
      omega
theorem flat_len {α β : Type} {f : α → List β} {k : Nat} : ∀ {l : List α}, (∀ x ∈ l, (f x).length = k) → (l.flatMap f).length = l.length * k
  | [], _ => by simp
  | x :: l, h => by
    rw [List.flatMap_cons, List.length_append, h x (List.mem_cons_self ..), flat_len fun y hy => h y (List.mem_cons_of_mem _ hy), List.length_cons, Nat.succ_mul, Nat.add_comm]
theorem msgs_len (q : Nat) : ∀ k : Nat, (msgs q k).length = q ^ k
  | 0 => rfl
  | k + 1 => by
    unfold msgs
    rw [flat_len (k := q ^ k) fun x _ => by rw [List.length_map, msgs_len q k], List.length_range, Nat.pow_succ, Nat.mul_comm]
/-- the word of a message -/
def combF (q n : Nat) : List (List Int) → List Int → List Int
  | r :: rs, x :: xs => plusF q (combF q n rs xs) r x
  | _, _ => List.replicate n 0
theorem comb_sp (q n : Nat) : ∀ (rows : List (List Int)) (m : List Int), Sp q n rows (combF q n rows m)
  | [], _ => Sp.zero
  | _ :: _, [] => Sp.zero
  | r :: rs, x :: xs => ((comb_sp q n rs xs).sub fun y hy => List.mem_cons_of_mem _ hy).add x (List.mem_cons_self ..)
theorem Sp.at_zero {p : Nat} (hq : 0 < q) (ok : ∀ r ∈ rows, RowOk q n r) (h : Sp q n rows v) (z : ∀ r ∈ rows, r.getD p 0 = 0) : v.getD p 0 = 0 := by
  induction h with
  | zero => exact rep_at n p
  | @add v r m hv hr ih =>
    rw [plusF_at (by rw [(hv.ok hq).1, (ok r hr).1]), ih, z r hr, Int.mul_zero]
    rfl
theorem comb_inj (hq : 0 < q) : ∀ {rows : List (List Int)}, Red q n rows → ∀ {a b : List Int}, RowOk q rows.length a → RowOk q rows.length b → combF q n rows a = combF q n rows b → a = b
  | [], _, a, b, ha, hb, _ => by rw [List.eq_nil_of_length_eq_zero ha.1, List.eq_nil_of_length_eq_zero hb.1]
  | r :: rs, hR, [], _, ha, _, _ => by cases ha.1
  | r :: rs, hR, _ :: _, [], _, hb, _ => by cases hb.1
  | r :: rs, hR, x :: xs, y :: ys, ha, hb, e => by
    have hh := hR.head
    have off := (List.pairwise_cons.mp hR.off).1
    have oa := (comb_sp q n rs xs).ok hq
    have ob := (comb_sp q n rs ys).ok hq
    have za := (comb_sp q n rs xs).at_zero (p := firstF r) hq hR.tail.ok fun s hs => (off s hs).2
    have zb := (comb_sp q n rs ys).at_zero (p := firstF r) hq hR.tail.ok fun s hs => (off s hs).2
    have e' : plusF q (combF q n rs xs) r x = plusF q (combF q n rs ys) r y := e
    have h1 := congrArg (fun z : List Int => z.getD (firstF r) 0) e'
    try dsimp only at h1
    rw [plusF_at (by rw [oa.1, hh.1.1]), plusF_at (by rw [ob.1, hh.1.1]), za, zb, hh.2.2, Int.mul_one, Int.mul_one, Int.zero_add, Int.zero_add] at h1
    have bx := ha.2 x (List.mem_cons_self ..)
    have by_ := hb.2 y (List.mem_cons_self ..)
    rw [Int.emod_eq_of_lt bx.1 bx.2, Int.emod_eq_of_lt by_.1 by_.2] at h1
    subst h1
    have h2 := congrArg (fun z : List Int => plusF q z r (-x)) e'
    try dsimp only at h2
    rw [plus_back hq oa hh.1.1, plus_back hq ob hh.1.1] at h2
    have := comb_inj hq hR.tail (a := xs) (b := ys) ⟨by have := ha.1; simpa using this, fun z hz => ha.2 z (List.mem_cons_of_mem _ hz)⟩ ⟨by have := hb.1; simpa using this, fun z hz => hb.2 z (List.mem_cons_of_mem _ hz)⟩ h2
    rw [this]
/-- what is worth nought with all of a code of half the places, and is 0 beside the first places, is nought -/
theorem off_zero (hq : 0 < q) (hR : Red q n rows) (hv : RowOk q n v) (z : ∀ r ∈ rows, worthF q r v = 0) (o : ∀ j, j < n → (∀ r ∈ rows, firstF r ≠ j) → v.getD j 0 = 0) : ∀ j, j < n → v.getD j 0 = 0 := fun j hj => by
  by_cases c : ∀ r ∈ rows, firstF r ≠ j
  · exact o j hj c
  · obtain ⟨r, hr, e⟩ : ∃ r ∈ rows, firstF r = j := Classical.byContradiction fun no => c fun r hr e => no ⟨r, hr, e⟩
    have h := z r hr
    unfold worthF at h
    rw [dot_sumN (hR.ok r hr).1, sumN_one n j hj fun i hi ne => ?_] at h
    · rw [← e, (hR.fst r hr).2, Int.one_mul, e] at h
      rwa [hv.mod j hq] at h
    · by_cases ci : ∀ s ∈ rows, firstF s ≠ i
      · rw [o i hi ci, Int.mul_zero]
      · obtain ⟨s, hs, es⟩ : ∃ s ∈ rows, firstF s = i := Classical.byContradiction fun no => ci fun r hr e => no ⟨r, hr, e⟩
        rw [← es, hR.at_first hr hs, if_neg (fun z => ne (by rw [← es, ← z, e])), Int.zero_mul]
/-- a code within its mirror, of half the places: what is worth nought with all of it is a word -/
theorem own_all (hq : 0 < q) (hR : Red q n rows) (ins : ∀ a ∈ rows, ∀ b ∈ rows, worthF q a b = 0) (half : 2 * rows.length = n) (hv : RowOk q n v) (z : ∀ r ∈ rows, worthF q r v = 0) : Sp q n rows v := by
  -- the other places
  let isP : Nat → Bool := fun j => rows.any fun r => firstF r == j
  let N := (List.range n).filter fun j => !isP j
  have memN : ∀ j, j < n → (∀ r ∈ rows, firstF r ≠ j) → j ∈ N := fun j hj h => List.mem_filter.mpr ⟨List.mem_range.mpr hj, by
    have : isP j = false := List.any_eq_false.mpr fun r hr => by simpa using h r hr
    rw [this]
    rfl⟩
  have lenN : N.length ≤ rows.length := by
    have nd : (rows.map firstF).Nodup := by
      have off := hR.off
      have fst := hR.fst
      clear z hv ins half memN N isP hR
      induction rows with
      | nil => exact List.nodup_nil
      | cons r rs ih =>
        have o := List.pairwise_cons.mp off
        rw [List.map_cons]
        refine List.nodup_cons.mpr ⟨fun hm => ?_, ih o.2 fun x hx => fst x (List.mem_cons_of_mem _ hx)⟩
        obtain ⟨s, hs, e⟩ := List.mem_map.mp hm
        have h1 := (o.1 s hs).1
        rw [e, (fst r (List.mem_cons_self ..)).2] at h1
        cases h1
    have h1 := nodup_len (b := (List.range n).filter isP) nd fun j hj => by
      obtain ⟨r, hr, rfl⟩ := List.mem_map.mp hj
      exact List.mem_filter.mpr ⟨List.mem_range.mpr (hR.fst r hr).1, List.any_eq_true.mpr ⟨r, hr, by simp⟩⟩
    have h2 := filter_two isP (List.range n)
    rw [List.length_range] at h2
    rw [List.length_map] at h1
    show ((List.range n).filter fun j => !isP j).length ≤ _
    omega
  let nv : List Int → List Int := fun x => N.map fun j => x.getD j 0
  have nv_ok : ∀ x, RowOk q n x → RowOk q N.length (nv x) := fun x hx => ⟨List.length_map .., fun y hy => by
    obtain ⟨j, _, rfl⟩ := List.mem_map.mp hy
    exact hx.at j hq⟩
  have inj : ∀ x y, RowOk q n x → RowOk q n y → (∀ r ∈ rows, worthF q r x = 0) → (∀ r ∈ rows, worthF q r y = 0) → nv x = nv y → x = y := fun x y hx hy zx zy e => by
    have od : RowOk q n (plusF q x y (-1)) := plusF_ok hq hx.1
    refine diff_zero hq hx hy (off_zero hq hR od (fun r hr => ?_) fun j hj h => ?_)
    · rw [worth_comm (hR.ok r hr).1 od.1, worth_plus hx.1 hy.1, worth_comm hx.1 (hR.ok r hr).1, zx r hr, worth_comm hy.1 (hR.ok r hr).1, zy r hr]
      rfl
    · have hN := memN j hj h
      have : x.getD j 0 = y.getD j 0 := by
        have := List.map_inj_left.mp e j hN
        exact this
      rw [plusF_at (by rw [hx.1, hy.1]), this]
      have : y.getD j 0 + -1 * y.getD j 0 = 0 := by omega
      rw [this]
      rfl
  let W := (msgs q rows.length).map (combF q n rows)
  have wok : ∀ x ∈ W, Sp q n rows x := fun x hx => by
    obtain ⟨m, _, rfl⟩ := List.mem_map.mp hx
    exact comb_sp q n rows m
  have wz : ∀ x ∈ W, ∀ r ∈ rows, worthF q r x = 0 := fun x hx r hr => by
    rw [worth_comm (hR.ok r hr).1 ((wok x hx).ok hq).1]
    exact (wok x hx).worth hq hR.ok fun y hy => ins y hy r hr
  have wn : W.Nodup := nodup_map' (msgs_nodup q _) fun x hx y hy e => comb_inj hq hR ((msgs_mem q _ x).mp hx) ((msgs_mem q _ y).mp hy) e
  have an : (W.map nv).Nodup := nodup_map' wn fun x hx y hy e => inj x y ((wok x hx).ok hq) ((wok y hy).ok hq) (wz x hx) (wz y hy) e
  have as : ∀ x ∈ W.map nv, x ∈ msgs q N.length := fun x hx => by
    obtain ⟨y, hy, rfl⟩ := List.mem_map.mp hx
    exact (msgs_mem q _ _).mpr (nv_ok y ((wok y hy).ok hq))
  have := pigeon an as (by
    rw [List.length_map, List.length_map, msgs_len, msgs_len]
    exact Nat.pow_le_pow_right hq lenN) (nv v) ((msgs_mem q _ _).mpr (nv_ok v hv))
  obtain ⟨x, hx, e⟩ := List.mem_map.mp this
  rw [← inj x v ((wok x hx).ok hq) hv (wz x hx) z e]
  exact wok x hx
end
end Own

/-! Own mirrors of a sort. -/
namespace Own
def fitW (s : Srt) (row : List Int) : Prop := weightF row % s.by_ = 0
theorem Srt.q23 (s : Srt) : s.q = 2 ∨ s.q = 3 := by cases s <;> simp [Srt.q]
section
variable {q n : Nat} {rows rows' : List (List Int)} {a b c v w row : List Int} {m : Int} {s : Srt}
theorem weight_sumN : ∀ {v : List Int} {n : Nat}, v.length = n → (weightF v : Int) = sumN n fun i => if v.getD i 0 = 0 then 0 else 1 := by
  intro v n h
  subst h
  have key : ∀ v : List Int, ((v.map fun x => if x = 0 then (0 : Int) else 1).sum) = (weightF v : Int) := by
    intro v
    induction v with
    | nil => rfl
    | cons x xs ih =>
      have cl := List.count_le_length (a := (0 : Int)) (l := xs)
      unfold weightF at ih ⊢
      rw [List.map_cons, List.sum_cons, ih, List.length_cons, List.count_cons]
      by_cases c : x = 0
      · rw [if_pos c]
        simp [c]
      · rw [if_neg c]
        simp [c]
        omega
  rw [← key, sum_sumN (n := v.length) (by rw [List.length_map])]
  refine sumN_congr _ fun i hi => ?_
  rw [getD_map' (d := 0) _ hi]
theorem weight3 (hv : RowOk 3 n v) : (weightF v : Int) % 3 = worthF 3 v v := by
  unfold worthF
  rw [weight_sumN hv.1, dot_sumN hv.1]
  refine sumN_mod (q := 3) n fun i _ => ?_
  have b := hv.at i (by decide)
  generalize v.getD i 0 = x at b ⊢
  have : x = 0 ∨ x = 1 ∨ x = 2 := by omega
  rcases this with rfl | rfl | rfl <;> rfl
theorem fit_self (h : fitW s v) (hv : RowOk s.q n v) : worthF s.q v v = 0 := by
  cases s with
  | two =>
    have h' : weightF v % 2 = 0 := h
    show dotF v v % ((2 : Nat) : Int) = 0
    rw [dot_self hv]
    omega
  | twice =>
    have h' : weightF v % 4 = 0 := h
    show dotF v v % ((2 : Nat) : Int) = 0
    rw [dot_self hv]
    omega
  | three =>
    have h' : weightF v % 3 = 0 := h
    show worthF 3 v v = 0
    rw [← weight3 hv]
    omega
theorem self_fit (hs : s ≠ .twice) (hv : RowOk s.q n v) (h : worthF s.q v v = 0) : fitW s v := by
  cases s with
  | two =>
    have h' : dotF v v % ((2 : Nat) : Int) = 0 := h
    rw [dot_self hv] at h'
    show weightF v % 2 = 0
    omega
  | twice => exact absurd rfl hs
  | three =>
    have h' : worthF 3 v v = 0 := h
    rw [← weight3 hv] at h'
    show weightF v % 3 = 0
    omega
theorem plus2_mod (hv : RowOk 2 n v) (hr : RowOk 2 n w) (m : Int) : plusF 2 v w m = v ∨ plusF 2 v w m = plusF 2 v w 1 := by
  rcases Int.emod_two_eq m with h | h
  · exact .inl (plus_q (by decide) hv (by rw [hv.1, hr.1]) h)
  · refine .inr (row_ext (n := n) (by rw [plusF_len, hv.1]) (by rw [plusF_len, hv.1]) fun i => ?_)
    rw [plusF_at (by rw [hv.1, hr.1]), plusF_at (by rw [hv.1, hr.1]), Int.add_emod, Int.mul_emod]
    have : m % ((2 : Nat) : Int) = 1 := h
    rw [this, Int.one_mul, Int.one_mul, Int.emod_emod, ← Int.add_emod]
theorem four_plus (hv : RowOk 2 n v) (hr : RowOk 2 n w) (h1 : weightF v % 4 = 0) (h2 : weightF w % 4 = 0) (z : worthF 2 v w = 0) (m : Int) : weightF (plusF 2 v w m) % 4 = 0 := by
  rcases plus2_mod hv hr m with e | e
  · rw [e]
    exact h1
  · rw [e]
    have := weight_plus hv hr
    have z' : dotF v w % ((2 : Nat) : Int) = 0 := z
    omega
/-- all words' weights are divisible by 4 if those of the rows are, and each two are worth nought -/
theorem four_sp (ok : ∀ r ∈ rows, RowOk 2 n r) (f : ∀ r ∈ rows, weightF r % 4 = 0) (z : ∀ a ∈ rows, ∀ b ∈ rows, worthF 2 a b = 0) (h : Sp 2 n rows v) : weightF v % 4 = 0 := by
  induction h with
  | zero => rw [show weightF (List.replicate n (0 : Int)) = 0 from by unfold weightF; simp]
  | @add v r m hv hr ih =>
    exact four_plus (hv.ok (by decide)) (ok r hr) ih (f r hr) (hv.worth (by decide) ok fun x hx => z x hx r hr) m
/-- an own mirror of a sort, its rows in steps and in order -/
structure IsOwn (s : Srt) (n : Nat) (rows : List (List Int)) : Prop where
  red : Red s.q n rows
  desc : Desc rows
  ins : ∀ a ∈ rows, ∀ b ∈ rows, worthF s.q a b = 0
  half : 2 * rows.length = n
  four : s = .twice → ∀ r ∈ rows, weightF r % 4 = 0
theorem inside_of (z : ∀ a ∈ rows, ∀ b ∈ rows, worthF q a b = 0) : insideB q rows = true := inside_iff.mpr ⟨fun a ha => z a ha a ha, List.pairwise_iff_getElem.mpr fun i j hi hj _ => z _ (List.getElem_mem hi) _ (List.getElem_mem hj)⟩
theorem Srt.q_pos (s : Srt) : 0 < s.q := by cases s <;> decide
theorem IsOwn.all (h : IsOwn s n rows) (hv : RowOk s.q n v) (z : ∀ r ∈ rows, worthF s.q r v = 0) : Sp s.q n rows v := own_all s.q_pos h.red h.ins h.half hv z
theorem IsOwn.zero (h : IsOwn s n rows) (hv : Sp s.q n rows v) (hw : Sp s.q n rows w) : worthF s.q v w = 0 := hv.worths s.q_pos h.red.ok h.ins hw
theorem IsOwn.fit (h : IsOwn s n rows) (hv : Sp s.q n rows v) : fitW s v := by
  by_cases c : s = .twice
  · have f := h.four c
    have z := h.ins
    have ok := h.red.ok
    subst c
    exact four_sp (n := n) ok f z hv
  · exact self_fit c (hv.ok s.q_pos) (h.zero hv hv)
/-- of rows that are worth nought and as many as half the places, and what is their steps -/
theorem IsOwn.of {gens : List (List Int)} (red : Red s.q n rows) (desc : Desc rows) (half : 2 * rows.length = n) (ok : ∀ r ∈ gens, RowOk s.q n r) (sp : ∀ r ∈ rows, Sp s.q n gens r) (z : ∀ a ∈ gens, ∀ b ∈ gens, worthF s.q a b = 0) (f : s = .twice → ∀ r ∈ gens, weightF r % 4 = 0) : IsOwn s n rows := by
  refine ⟨red, desc, fun a ha b hb => (sp a ha).worths s.q_pos ok z (sp b hb), half, fun c r hr => ?_⟩
  have f' := f c
  have sr := sp r hr
  subst c
  exact four_sp (n := n) ok f' z sr
/-! ### led to a neighbour -/
theorem ledStep_len {st : LedS} {one : List Int} : (ledStep q row st one).kept.length + (if (ledStep q row st one).ahead = 0 then 0 else 1) = st.kept.length + (if st.ahead = 0 then 0 else 1) + 1 := by
  unfold ledStep
  split
  · rw [List.length_append]
    simp only [List.length_singleton]
    omega
  · rename_i nz
    split
    · show st.kept.length + 1 = st.kept.length + 0 + 1
      omega
    · rw [List.length_append]
      simp only [List.length_singleton]
theorem ledAll_count : ∀ (rv : List (List Int)) (st : LedS), (rv.foldl (ledStep q row) st).kept.length + (if (rv.foldl (ledStep q row) st).ahead = 0 then 0 else 1) = st.kept.length + (if st.ahead = 0 then 0 else 1) + rv.length
  | [], st => rfl
  | x :: rv, st => by
    rw [List.foldl_cons, ledAll_count rv, ledStep_len, List.length_cons]
    omega
theorem led_ahead : ∀ (rv : List (List Int)) (st : LedS), (rv.foldl (ledStep q row) st).ahead = 0 → st.ahead = 0 ∧ ∀ r ∈ rv, worthF q r row = 0
  | [], st, h => ⟨h, fun r hr => by cases hr⟩
  | x :: rv, st, h => by
    obtain ⟨h1, h2⟩ := led_ahead rv _ h
    unfold ledStep at h1
    split at h1
    · rename_i z
      refine ⟨h1, fun r hr => ?_⟩
      rcases List.mem_cons.mp hr with rfl | hr
      · exact z
      · exact h2 r hr
    · rename_i nz
      split at h1
      · exact absurd h1 nz
      · rename_i na
        exact absurd h1 na
/-- as many rows are kept as there are, but one -/
theorem ledK_less (nz : ∃ r ∈ rows, worthF q r row ≠ 0) : (ledK q rows row).length + 1 = rows.length := by
  have h := ledAll_count (q := q) (row := row) rows.reverse ⟨[], [], 0⟩
  have a := led_ahead (q := q) (row := row) rows.reverse ⟨[], [], 0⟩
  unfold ledK ledAll
  generalize rows.reverse.foldl (ledStep q row) ⟨[], [], 0⟩ = st at h a ⊢
  rw [List.length_reverse] at h
  rw [if_neg fun z => ?_] at h
  · simpa using h
  · obtain ⟨r, hr, ne⟩ := nz
    exact ne ((a z).2 r (List.mem_reverse.mpr hr))
theorem IsOwn.some (h : IsOwn s n rows) (hr : RowOk s.q n row) (no : ¬ Sp s.q n rows row) : ∃ r ∈ rows, worthF s.q r row ≠ 0 :=
  Classical.byContradiction fun z => no (h.all hr fun r hm => Classical.byContradiction fun c => z ⟨r, hm, c⟩)
/-- not in the span: something is left -/
theorem left_of (hq : 0 < q) (hR : Red q n rows) (hr : RowOk q n row) : ¬ Sp q n rows row ↔ firstF (redF q rows row) < (redF q rows row).length := by
  have lo := redF_ok (rows := rows) hq hr
  constructor
  · intro no
    refine Nat.lt_of_le_of_ne first_le fun e => no (gone_sp hq hR hr (by rw [e, lo.1]))
  · intro h s
    have := s.gone hq hR
    rw [lo.1] at h
    omega
theorem IsOwn.led (h : IsOwn s n rows) (hr : RowOk s.q n row) (ft : fitW s row) (no : ¬ Sp s.q n rows row) (l : LedR s.q rows row rows') : IsOwn s n rows' := by
  have q0 := s.q_pos
  have hm := (left_of q0 h.red hr).mp no
  have lr := LedR.red s.q23 h.red h.desc hr hm l
  have kr := led_red (row := row) q0 h.red h.desc
  have lm := led_more q0 h.red h.desc hr hm
  have kl := ledK_less (h.some hr no)
  have ok : ∀ r ∈ row :: ledK s.q rows row, RowOk s.q n r := fun r hm => by
    rcases List.mem_cons.mp hm with rfl | hm
    · exact hr
    · exact kr.ok r hm
  have ks : ∀ k ∈ ledK s.q rows row, Sp s.q n rows k ∧ worthF s.q k row = 0 := fun k hk => (ledK_span s.q23 h.red h.desc hr).mp (Sp.mem q0 (kr.ok k hk) hk)
  refine IsOwn.of (gens := row :: ledK s.q rows row) lr.1 lr.2.1 ?_ ok (fun r hm => (WithR.span s.q23 kr hr l).mp (Sp.mem q0 (lr.1.ok r hm) hm)) (fun a ha b hb => ?_) (fun c r hm => ?_)
  · have hl : rows'.length = (ledK s.q rows row).length + 1 := by
      rcases l with ⟨z, _⟩ | ⟨_, p, _⟩
      · omega
      · rw [p.length_eq, List.length_cons, List.length_map]
    have := h.half
    omega
  · rcases List.mem_cons.mp ha with ea | ha
    · rcases List.mem_cons.mp hb with eb | hb
      · rw [ea, eb]
        exact fit_self ft hr
      · rw [ea, worth_comm hr.1 (kr.ok b hb).1]
        exact (ks b hb).2
    · rcases List.mem_cons.mp hb with eb | hb
      · rw [eb]
        exact (ks a ha).2
      · exact h.zero (ks a ha).1 (ks b hb).1
  · rcases List.mem_cons.mp hm with rfl | hm
    · subst c
      exact ft
    · have := h.fit (ks r hm).1
      subst c
      exact this
end
end Own

/-! Own mirrors of pieces, their places exchanged, in steps. -/
namespace Own
theorem sumN_split (a b : Nat) (f : Nat → Int) : sumN (a + b) f = sumN a f + sumN b fun i => f (a + i) := by
  induction b with
  | zero =>
    show sumN a f = sumN a f + 0
    omega
  | succ b ih => rw [← Nat.add_assoc, sumN_succ, sumN_succ, ih, Int.add_assoc]
theorem perm_sum {a b : List Int} (h : a.Perm b) : a.sum = b.sum := by
  induction h with
  | nil => rfl
  | cons x _ ih => rw [List.sum_cons, List.sum_cons, ih]
  | swap x y l =>
    rw [List.sum_cons, List.sum_cons, List.sum_cons, List.sum_cons]
    omega
  | trans _ _ h1 h2 => rw [h1, h2]
theorem sumN_perm {n : Nat} {ps : List Nat} (h : ps.Perm (List.range n)) (g : Nat → Int) : sumN n (fun i => g (ps.getD i 0)) = sumN n g := by
  have pl := h.length_eq
  rw [List.length_range] at pl
  have e : (List.range n).map (fun i => g (ps.getD i 0)) = ps.map g := by
    apply List.ext_getElem
    · rw [List.length_map, List.length_map, List.length_range, pl]
    · intro i h1 h2
      rw [List.length_map] at h2
      rw [List.getElem_map, List.getElem_map, List.getElem_range, List.getD_eq_getElem?_getD, List.getElem?_eq_getElem h2]
      rfl
  show ((List.range n).map fun i => g (ps.getD i 0)).sum = ((List.range n).map g).sum
  rw [e]
  exact perm_sum (h.map g)
/-! ### exchanges -/
/-- an exchange of n places and q letters -/
def IsX (q n : Nat) (ps : List Nat) (ss : List Int) : Prop := ps.Perm (List.range n) ∧ ss.length = n ∧ ∀ s ∈ ss, 1 ≤ s ∧ s < (q : Int)
def movedF (q : Nat) (ps : List Nat) (ss row : List Int) : List Int := (List.range row.length).map fun i => (row.getD (ps.getD i 0) 0 * ss.getD i 0) % (q : Int)
section
variable {q n : Nat} {ps : List Nat} {ss row a b v : List Int} {rows : List (List Int)} {m : Int}
theorem moved_ok (hq : 0 < q) (h : row.length = n) : RowOk q n (movedF q ps ss row) := by
  refine ⟨by unfold movedF; rw [List.length_map, List.length_range, h], fun x hx => ?_⟩
  obtain ⟨i, _, rfl⟩ := List.mem_map.mp hx
  exact ⟨Int.emod_nonneg _ (by omega), Int.emod_lt_of_pos _ (by omega)⟩
theorem getD_mem' {xs : List Int} {i : Nat} (h : i < xs.length) : xs.getD i 0 ∈ xs := by
  rw [List.getD_eq_getElem?_getD, List.getElem?_eq_getElem h]
  exact List.getElem_mem h
theorem moved_at {i : Nat} (h : row.length = n) (hi : i < n) : (movedF q ps ss row).getD i 0 = (row.getD (ps.getD i 0) 0 * ss.getD i 0) % (q : Int) := by
  unfold movedF
  rw [getD_rg _ (by rw [h]; exact hi)]
theorem IsX.at_ (hx : IsX q n ps ss) {i : Nat} (hi : i < n) : ps.getD i 0 < n ∧ 1 ≤ ss.getD i 0 ∧ ss.getD i 0 < (q : Int) := by
  have pl := hx.1.length_eq
  rw [List.length_range] at pl
  have pm : ps.getD i 0 ∈ ps := by
    rw [List.getD_eq_getElem?_getD, List.getElem?_eq_getElem (by omega)]
    exact List.getElem_mem _
  exact ⟨List.mem_range.mp (hx.1.mem_iff.mp pm), hx.2.2 _ (getD_mem' (by rw [hx.2.1]; exact hi))⟩
theorem moved_plus (ha : a.length = n) (hb : b.length = n) : movedF q ps ss (plusF q a b m) = plusF q (movedF q ps ss a) (movedF q ps ss b) m := by
  have l1 : (movedF q ps ss (plusF q a b m)).length = n := by unfold movedF; rw [List.length_map, List.length_range, plusF_len, ha]
  have l2 : (movedF q ps ss a).length = n := by unfold movedF; rw [List.length_map, List.length_range, ha]
  have l3 : (movedF q ps ss b).length = n := by unfold movedF; rw [List.length_map, List.length_range, hb]
  refine row_ext (n := n) l1 (by rw [plusF_len, l2]) fun i => ?_
  by_cases hi : i < n
  · rw [plusF_at (by rw [l2, l3]), moved_at (n := n) (by rw [plusF_len, ha]) hi, moved_at ha hi, moved_at hb hi, plusF_at (by rw [ha, hb])]
    generalize a.getD (ps.getD i 0) 0 = x
    generalize b.getD (ps.getD i 0) 0 = y
    generalize ss.getD i 0 = s
    rw [Int.mul_emod, Int.emod_emod, ← Int.mul_emod, Int.emod_add_emod]
    symm
    rw [Int.add_emod, Int.mul_emod m, Int.emod_emod, ← Int.mul_emod, ← Int.add_emod]
    congr 1
    grind
  · rw [getD_over (by omega), getD_over (by rw [plusF_len]; omega)]
theorem moved_zero : movedF q ps ss (List.replicate n 0) = List.replicate n 0 := by
  refine row_ext (n := n) (by unfold movedF; rw [List.length_map, List.length_range, List.length_replicate]) (List.length_replicate ..) fun i => ?_
  by_cases hi : i < n
  · rw [moved_at (List.length_replicate ..) hi, rep_at, rep_at, Int.zero_mul]
    rfl
  · rw [getD_over (by unfold movedF; rw [List.length_map, List.length_range, List.length_replicate]; omega), rep_at]
theorem Sp.moved (hq : 0 < q) (ok : ∀ r ∈ rows, RowOk q n r) (h : Sp q n rows v) : Sp q n (rows.map (movedF q ps ss)) (movedF q ps ss v) := by
  induction h with
  | zero =>
    rw [moved_zero]
    exact Sp.zero
  | @add v r m hv hr ih =>
    rw [moved_plus (n := n) (hv.ok hq).1 (ok r hr).1]
    exact ih.add m (List.mem_map.mpr ⟨r, hr, rfl⟩)
theorem sq_one {q : Nat} (hq : q = 2 ∨ q = 3) {y : Int} (h : 1 ≤ y ∧ y < (q : Int)) (t : Int) : (t * (y * y)) % (q : Int) = t % (q : Int) := by
  rcases hq with rfl | rfl
  · have : y = 1 := by omega
    subst this
    rw [Int.one_mul, Int.mul_one]
  · have : y = 1 ∨ y = 2 := by omega
    rcases this with rfl | rfl
    · rw [Int.one_mul, Int.mul_one]
    · show (t * 4) % 3 = t % 3
      omega
theorem moved_worth (hq : q = 2 ∨ q = 3) (hx : IsX q n ps ss) (ha : a.length = n) (hb : b.length = n) : worthF q (movedF q ps ss a) (movedF q ps ss b) = worthF q a b := by
  have l2 : (movedF q ps ss a).length = n := by unfold movedF; rw [List.length_map, List.length_range, ha]
  unfold worthF
  rw [dot_sumN l2, dot_sumN ha, ← sumN_perm hx.1 fun j => a.getD j 0 * b.getD j 0]
  refine sumN_mod n fun i hi => ?_
  rw [moved_at ha hi, moved_at hb hi, ← Int.mul_emod]
  have := (hx.at_ hi).2
  rw [← sq_one hq this (a.getD (ps.getD i 0) 0 * b.getD (ps.getD i 0) 0)]
  congr 1
  generalize a.getD (ps.getD i 0) 0 = x
  generalize b.getD (ps.getD i 0) 0 = y
  generalize ss.getD i 0 = u
  grind
theorem moved_weight (hq : q = 2 ∨ q = 3) (hx : IsX q n ps ss) (ha : RowOk q n a) : weightF (movedF q ps ss a) = weightF a := by
  have l2 : (movedF q ps ss a).length = n := by unfold movedF; rw [List.length_map, List.length_range, ha.1]
  have h1 := weight_sumN l2
  have h2 := weight_sumN ha.1
  rw [← sumN_perm hx.1 fun j => if a.getD j 0 = 0 then (0 : Int) else 1] at h2
  have : (sumN n fun i => if (movedF q ps ss a).getD i 0 = 0 then (0 : Int) else 1) = sumN n fun i => if a.getD (ps.getD i 0) 0 = 0 then (0 : Int) else 1 := sumN_congr n fun i hi => by
    rw [moved_at ha.1 hi]
    have s := (hx.at_ hi).2
    have b := ha.at (ps.getD i 0) (by omega : 0 < q)
    generalize a.getD (ps.getD i 0) 0 = x at b ⊢
    generalize ss.getD i 0 = y at s ⊢
    have hy : y = 1 ∨ y = 2 := by omega
    have hx' : x = 0 ∨ x = 1 ∨ x = 2 := by omega
    rcases hq with rfl | rfl <;> rcases hy with rfl | rfl <;> rcases hx' with rfl | rfl | rfl <;> first | rfl | omega
  rw [this] at h1
  omega
theorem moved_some (hq : q = 2 ∨ q = 3) (hx : IsX q n ps ss) (ho : RowOk q n row) (h : firstF row < n) : firstF (movedF q ps ss row) < n := by
  have q0 : 0 < q := by omega
  have mo := moved_ok (ps := ps) (ss := ss) q0 ho.1
  refine Nat.lt_of_le_of_ne (by have := first_le (xs := movedF q ps ss row); rw [mo.1] at this; exact this) fun e => ?_
  have w1 : weightF (movedF q ps ss row) = 0 := by
    rw [zero_of mo.1 e]
    unfold weightF
    simp
  rw [moved_weight hq hx ho] at w1
  have nz := first_not (xs := row) (by rw [ho.1]; exact h)
  unfold weightF at w1
  have cl := List.count_le_length (a := (0 : Int)) (l := row)
  have ce : row.count 0 = row.length := by omega
  have := List.count_eq_length.mp ce (row.getD (firstF row) 0) (getD_mem' (by rw [ho.1]; exact h))
  exact nz this.symm
/-- where a place goes -/
theorem IsX.inv (hx : IsX q n ps ss) {j : Nat} (hj : j < n) : ∃ i, i < n ∧ ps.getD i 0 = j := by
  have jm : j ∈ ps := hx.1.mem_iff.mpr (List.mem_range.mpr hj)
  obtain ⟨i, hi, ej⟩ := List.getElem_of_mem jm
  have pl := hx.1.length_eq
  rw [List.length_range] at pl
  refine ⟨i, by omega, ?_⟩
  rw [List.getD_eq_getElem?_getD, List.getElem?_eq_getElem hi]
  exact ej
end
/-! ### steps, row by row -/
inductive StepsR (q : Nat) : List (List Int) → List (List Int) → Prop
  | nil : StepsR q [] []
  | snoc {rs f f' : List (List Int)} {r : List Int} : StepsR q rs f → WithR q f r f' → StepsR q (rs ++ [r]) f'
/-- no row is a sum of those ahead of it -/
def Ind (q n : Nat) (rows : List (List Int)) : Prop := ∀ i, i < rows.length → ¬ Sp q n (rows.take i) (rows.getD i [])
section
variable {q n : Nat} {rows f : List (List Int)} {v : List Int}
theorem WithR.desc' {row : List Int} {rows' : List (List Int)} (hd : Desc rows) (h : WithR q rows row rows') : Desc rows' := WithR.desc hd h
theorem StepsR.all (hq : q = 2 ∨ q = 3) (h : StepsR q rows f) : (∀ r ∈ rows, RowOk q n r) → Red q n f ∧ Desc f ∧ (∀ v, Sp q n f v ↔ Sp q n rows v) ∧ f.length ≤ rows.length := by
  have q0 : 0 < q := by omega
  induction h with
  | nil => exact fun _ => ⟨Red.nil, .nil, fun _ => Iff.rfl, Nat.le_refl _⟩
  | @snoc rs f f' r _ w ih =>
    intro ok
    have ok1 : ∀ x ∈ rs, RowOk q n x := fun x hx => ok x (List.mem_append_left _ hx)
    have or_ := ok r (List.mem_append_right _ (List.mem_singleton_self _))
    obtain ⟨i1, i2, i3, i4⟩ := ih ok1
    refine ⟨WithR.red hq i1 or_ w, WithR.desc i2 w, fun v => ?_, ?_⟩
    · rw [WithR.span hq i1 or_ w]
      have okc : ∀ x ∈ r :: f, RowOk q n x := fun x hx => by
        rcases List.mem_cons.mp hx with rfl | hx
        · exact or_
        · exact i1.ok x hx
      refine ⟨fun s => s.mono q0 ok fun x hx => ?_, fun s => s.mono q0 okc fun x hx => ?_⟩
      · rcases List.mem_cons.mp hx with rfl | hx
        · exact Sp.mem q0 or_ (List.mem_append_right _ (List.mem_singleton_self _))
        · exact ((i3 x).mp (Sp.mem q0 (i1.ok x hx) hx)).sub fun y hy => List.mem_append_left _ hy
      · rcases List.mem_append.mp hx with hx | hx
        · exact ((i3 x).mpr (Sp.mem q0 (ok1 x hx) hx)).sub fun y hy => List.mem_cons_of_mem _ hy
        · rw [List.mem_singleton.mp hx]
          exact Sp.mem q0 or_ (List.mem_cons_self ..)
    · have := WithR.len w
      rw [List.length_append]
      simp only [List.length_singleton]
      omega
theorem StepsR.len (hq : q = 2 ∨ q = 3) (h : StepsR q rows f) : (∀ r ∈ rows, RowOk q n r) → Ind q n rows → f.length = rows.length := by
  have q0 : 0 < q := by omega
  induction h with
  | nil => exact fun _ _ => rfl
  | @snoc rs f f' r hs w ih =>
    intro ok ind
    have ok1 : ∀ x ∈ rs, RowOk q n x := fun x hx => ok x (List.mem_append_left _ hx)
    have or_ := ok r (List.mem_append_right _ (List.mem_singleton_self _))
    obtain ⟨i1, i2, i3, i4⟩ := hs.all hq ok1
    have hl := ih ok1 fun i hi => by
      have := ind i (by rw [List.length_append]; omega)
      rwa [List.take_append_of_le_length (by omega), List.getD_eq_getElem?_getD, List.getElem?_append_left hi, ← List.getD_eq_getElem?_getD] at this
    have no : ¬ Sp q n f r := fun s => by
      have := ind rs.length (by rw [List.length_append]; simp only [List.length_singleton]; omega)
      rw [List.take_append_of_le_length (Nat.le_refl _), List.take_length, List.getD_eq_getElem?_getD, List.getElem?_append_right (Nat.le_refl _), Nat.sub_self] at this
      exact this ((i3 r).mp s)
    have lt := (left_of q0 i1 or_).mp no
    rcases w with ⟨z, _⟩ | ⟨_, p, _⟩
    · omega
    · rw [p.length_eq, List.length_cons, List.length_map, hl, List.length_append]
      rfl
theorem ind_of (hq : 0 < q) (ok : ∀ r ∈ rows, RowOk q n r) (h : ∀ i (hi : i < rows.length), ∃ p, (rows[i]).getD p 0 ≠ 0 ∧ ∀ j (hj : j < i), (rows[j]'(by omega)).getD p 0 = 0) : Ind q n rows := fun i hi s => by
  obtain ⟨p, h1, h2⟩ := h i hi
  have e : rows.getD i [] = rows[i] := by rw [List.getD_eq_getElem?_getD, List.getElem?_eq_getElem hi]; rfl
  rw [e] at s
  refine h1 (s.at_zero hq (fun r hr => ok r (List.mem_of_mem_take hr)) fun r hr => ?_)
  obtain ⟨j, hj, rfl⟩ := List.getElem_of_mem hr
  rw [List.length_take] at hj
  rw [List.getElem_take]
  exact h2 j (by omega)
end
/-! ### pieces -/
def eightR : List (List Int) := [[1, 0, 0, 0, 0, 1, 1, 1], [0, 1, 0, 0, 1, 0, 1, 1], [0, 0, 1, 0, 1, 1, 0, 1], [0, 0, 0, 1, 1, 1, 1, 0]]
def ringR : List Int := [1, 1, 0, 1, 1, 1, 0, 0, 0, 1, 0]
def greatU (i : Nat) : List Int := List.replicate i 0 ++ [1] ++ List.replicate (11 - i) 0 ++ ringR.drop i ++ ringR.take i ++ [1]
def greatR : List (List Int) := (List.range 11).map greatU ++ [List.replicate 11 0 ++ List.replicate 12 1 ++ [0]]
def tailsR : List (List Int) := [[0, 1, 1, 1, 1, 1], [1, 0, 1, 2, 2, 1], [1, 1, 0, 1, 2, 2], [1, 2, 1, 0, 1, 2], [1, 2, 2, 1, 0, 1], [1, 1, 2, 2, 1, 0]]
def twelveU (i : Nat) : List Int := List.replicate i 0 ++ [1] ++ List.replicate (5 - i) 0 ++ tailsR.getD i []
def twelveR : List (List Int) := (List.range 6).map twelveU
def piecesR : Srt → List (List (List Int))
  | .two => [[[1, 1]], [[1, 1]], eightR, greatR]
  | .twice => [eightR, greatR]
  | .three => [[[1, 0, 1, 1], [0, 1, 1, 2]], twelveR]
def pieceB (s : Srt) (x : List (List Int)) : Bool :=
  let z := (x.getD 0 []).length
  decide (2 * x.length = z) && decide (z % s.step = 0) && decide (0 < z) && decide (z ≤ 24) && (x.all fun r => decide (RowOk s.q z r) && decide (firstF r < z) && decide (r.getD (firstF r) 0 = 1) && decide (weightF r % s.by_ = 0)) &&
    (x.all fun a => x.all fun b => decide (worthF s.q a b = 0) && (decide (firstF a = firstF b) || decide (a.getD (firstF b) 0 = 0))) && decide ((x.map firstF).Nodup)
theorem pieces_b (s : Srt) : ∀ x ∈ piecesR s, pieceB s x = true := by
  cases s <;> decide +kernel
structure PieceOk (s : Srt) (x : List (List Int)) (z : Nat) : Prop where
  half : 2 * x.length = z
  mod : z % s.step = 0
  pos : 0 < z
  le : z ≤ 24
  row : ∀ r ∈ x, RowOk s.q z r ∧ firstF r < z
  red : Red s.q z x
  ins : ∀ a ∈ x, ∀ b ∈ x, worthF s.q a b = 0
  fit : ∀ r ∈ x, weightF r % s.by_ = 0
theorem piece_ok {s : Srt} {x : List (List Int)} (h : x ∈ piecesR s) : PieceOk s x (x.getD 0 []).length := by
  have g := pieces_b s x h
  unfold pieceB at g
  simp only [Bool.and_eq_true, Bool.or_eq_true, decide_eq_true_eq, List.all_eq_true] at g
  obtain ⟨⟨⟨⟨⟨⟨g1, g2⟩, g3⟩, g4⟩, g5⟩, g6⟩, g7⟩ := g
  refine ⟨g1, g2, g3, g4, fun r hr => (g5 r hr).1.1, ⟨fun r hr => (g5 r hr).1.1.1, fun r hr => ⟨(g5 r hr).1.1.2, (g5 r hr).1.2⟩, ?_⟩, fun a ha b hb => (g6 a ha b hb).1, fun r hr => (g5 r hr).2⟩
  have nd := List.pairwise_map.mp g7
  exact nd.imp_of_mem fun ha hb ne => ⟨(g6 _ ha _ hb).2.resolve_left ne, (g6 _ hb _ ha).2.resolve_left (Ne.symm ne)⟩
theorem small_fits (s : Srt) {room : Nat} (h : room % s.step = 0) (h0 : 0 < room) : (piecesR s).filter (fun x => decide ((x.getD 0 []).length ≤ room)) ≠ [] := by
  have hs : s.step ≤ room := Nat.le_of_dvd h0 (Nat.dvd_of_mod_eq_zero h)
  have : ∃ x ∈ piecesR s, (x.getD 0 []).length = s.step := by
    cases s
    · exact ⟨[[1, 1]], by simp [piecesR], rfl⟩
    · exact ⟨eightR, by simp [piecesR], rfl⟩
    · exact ⟨[[1, 0, 1, 1], [0, 1, 1, 2]], by simp [piecesR], rfl⟩
  obtain ⟨x, hx, hl⟩ := this
  intro z
  have : x ∈ (piecesR s).filter fun x => decide ((x.getD 0 []).length ≤ room) := List.mem_filter.mpr ⟨hx, decide_eq_true (by omega)⟩
  rw [z] at this
  cases this
/-! ### one piece behind another -/
def padF (a : Nat) (r : List Int) (b : Nat) : List Int := List.replicate a 0 ++ r ++ List.replicate b 0
section
variable {q z a b n : Nat} {r t : List Int}
theorem pad_ok (hq : 0 < q) (h : RowOk q z r) (hn : a + z + b = n) : RowOk q n (padF a r b) := by
  refine ⟨by unfold padF; rw [List.length_append, List.length_append, List.length_replicate, List.length_replicate, h.1]; exact hn, fun x hx => ?_⟩
  unfold padF at hx
  rcases List.mem_append.mp hx with hx | hx
  · rcases List.mem_append.mp hx with hx | hx
    · rw [List.eq_of_mem_replicate hx]
      omega
    · exact h.2 x hx
  · rw [List.eq_of_mem_replicate hx]
    omega
theorem pad_lo {i : Nat} (hi : i < a) : (padF a r b).getD i 0 = 0 := by
  unfold padF
  rw [List.getD_eq_getElem?_getD, List.append_assoc, List.getElem?_append_left (by rw [List.length_replicate]; exact hi), ← List.getD_eq_getElem?_getD, rep_at]
theorem pad_mid {i : Nat} (hi : i < r.length) : (padF a r b).getD (a + i) 0 = r.getD i 0 := by
  unfold padF
  rw [List.getD_eq_getElem?_getD, List.getD_eq_getElem?_getD, List.getElem?_append_left (by rw [List.length_append, List.length_replicate]; omega), List.getElem?_append_right (by rw [List.length_replicate]; omega), List.length_replicate, Nat.add_sub_cancel_left]
theorem pad_hi {i : Nat} (hi : a + r.length ≤ i) : (padF a r b).getD i 0 = 0 := by
  unfold padF
  rw [List.getD_eq_getElem?_getD, List.getElem?_append_right (by rw [List.length_append, List.length_replicate]; exact hi), ← List.getD_eq_getElem?_getD, rep_at]
theorem pad_firstF (hf : firstF r < r.length) : firstF (padF a r b) = a + firstF r := by
  refine first_of (by unfold padF; rw [List.length_append, List.length_append, List.length_replicate]; omega) (fun j hj => ?_) (by rw [pad_mid hf]; exact first_not hf)
  by_cases c : j < a
  · exact pad_lo c
  · obtain ⟨i, rfl⟩ : ∃ i, j = a + i := ⟨j - a, by omega⟩
    rw [pad_mid (by omega)]
    exact first_zero (by omega)
theorem pad_first (hq : 0 < q) (h : RowOk q z r) (hn : a + z + b = n) (hf : firstF r < z) : firstF (padF a r b) < n := by
  rw [pad_firstF (by rw [h.1]; exact hf)]
  omega
theorem pad_worth (hr : r.length = z) (ht : t.length = z) : worthF q (padF a r b) (padF a t b) = worthF q r t := by
  unfold worthF
  congr 1
  rw [dot_sumN (n := a + (z + b)) (by unfold padF; rw [List.length_append, List.length_append, List.length_replicate, List.length_replicate, hr]; omega), dot_sumN hr, sumN_split, sumN_split, sumN_zero a fun i hi => by rw [pad_lo hi, Int.zero_mul], sumN_zero b fun i hi => by rw [pad_hi (by omega), Int.zero_mul], Int.zero_add, Int.add_zero]
  exact sumN_congr z fun i hi => by rw [pad_mid (by omega), pad_mid (by omega)]
theorem pad_weight : weightF (padF a r b) = weightF r := by
  unfold weightF padF
  have := List.count_le_length (a := (0 : Int)) (l := r)
  simp only [List.length_append, List.length_replicate, List.count_append, List.count_replicate_self]
  omega
end
/-- rows of pieces one behind another, so far -/
structure Beg (s : Srt) (n ah : Nat) (rows : List (List Int)) : Prop where
  red : Red s.q n rows
  ins : ∀ a ∈ rows, ∀ b ∈ rows, worthF s.q a b = 0
  fit : ∀ r ∈ rows, weightF r % s.by_ = 0
  half : 2 * rows.length = ah
  far : ∀ r ∈ rows, ∀ j, ah ≤ j → r.getD j 0 = 0
section
variable {s : Srt} {n ah z : Nat} {rows pc f : List (List Int)} {ps : List Nat} {ss : List Int}
theorem Beg.nil : Beg s n 0 [] := ⟨Red.nil, by simp, by simp, rfl, by simp⟩
theorem Beg.step (h : Beg s n ah rows) (p : PieceOk s pc z) (hz : ah + z ≤ n) : Beg s n (ah + z) (rows ++ pc.map fun r => padF ah r (n - ah - z)) := by
  have q0 := s.q_pos
  have pl : ∀ r ∈ pc, r.length = z := fun r hr => (p.row r hr).1.1
  have pf : ∀ r ∈ pc, firstF (padF ah r (n - ah - z)) = ah + firstF r := fun r hr => pad_firstF (by rw [pl r hr]; exact (p.row r hr).2)
  have mp : ∀ x ∈ pc.map (fun r => padF ah r (n - ah - z)), ∃ r ∈ pc, x = padF ah r (n - ah - z) := fun x hx => by
    obtain ⟨r, hr, e⟩ := List.mem_map.mp hx
    exact ⟨r, hr, e.symm⟩
  have okp : ∀ r ∈ pc, RowOk s.q n (padF ah r (n - ah - z)) := fun r hr => pad_ok q0 (p.row r hr).1 (by omega)
  have fo : ∀ r ∈ rows, firstF r < ah := fun r hr => Nat.lt_of_not_le fun c => by
    have := (h.red.fst r hr).2
    rw [h.far r hr _ c] at this
    cases this
  have cross : ∀ x ∈ rows, ∀ r ∈ pc, worthF s.q x (padF ah r (n - ah - z)) = 0 := fun x hx r hr => by
    unfold worthF
    rw [dot_sumN (h.red.ok x hx).1, sumN_zero n fun i _ => ?_]
    · rfl
    · by_cases c : i < ah
      · rw [pad_lo c, Int.mul_zero]
      · rw [h.far x hx i (by omega), Int.zero_mul]
  refine ⟨⟨fun r hr => ?_, fun r hr => ?_, ?_⟩, fun a ha b hb => ?_, fun r hr => ?_, ?_, fun r hr j hj => ?_⟩
  · rcases List.mem_append.mp hr with hr | hr
    · exact h.red.ok r hr
    · obtain ⟨y, hy, rfl⟩ := mp r hr
      exact okp y hy
  · rcases List.mem_append.mp hr with hr | hr
    · exact h.red.fst r hr
    · obtain ⟨y, hy, rfl⟩ := mp r hr
      have := p.red.fst y hy
      rw [pf y hy, pad_mid (by rw [pl y hy]; exact this.1)]
      exact ⟨by omega, this.2⟩
  · refine List.pairwise_append.mpr ⟨h.red.off, ?_, fun x hx y hy => ?_⟩
    · rw [List.pairwise_map]
      refine p.red.off.imp_of_mem fun {a b} ha hb o => ?_
      rw [pf a ha, pf b hb, pad_mid (by rw [pl a ha]; exact (p.row b hb).2), pad_mid (by rw [pl b hb]; exact (p.row a ha).2)]
      exact o
    · obtain ⟨r, hr, rfl⟩ := mp y hy
      rw [pf r hr]
      exact ⟨h.far x hx _ (by omega), pad_lo (fo x hx)⟩
  · rcases List.mem_append.mp ha with ha | ha
    · rcases List.mem_append.mp hb with hb | hb
      · exact h.ins a ha b hb
      · obtain ⟨r, hr, rfl⟩ := mp b hb
        exact cross a ha r hr
    · obtain ⟨x, hx, rfl⟩ := mp a ha
      rcases List.mem_append.mp hb with hb | hb
      · rw [worth_comm (okp x hx).1 (h.red.ok b hb).1]
        exact cross b hb x hx
      · obtain ⟨r, hr, rfl⟩ := mp b hb
        rw [pad_worth (pl x hx) (pl r hr)]
        exact p.ins x hx r hr
  · rcases List.mem_append.mp hr with hr | hr
    · exact h.fit r hr
    · obtain ⟨y, hy, rfl⟩ := mp r hr
      rw [pad_weight]
      exact p.fit y hy
  · have h1 := h.half
    have h2 := p.half
    rw [List.length_append, List.length_map]
    omega
  · rcases List.mem_append.mp hr with hr | hr
    · exact h.far r hr j (by omega)
    · obtain ⟨y, hy, rfl⟩ := mp r hr
      exact pad_hi (by rw [pl y hy]; exact hj)
/-- the rows of pieces, exchanged, in steps: an own mirror -/
theorem Beg.own (h : Beg s n n rows) (hx : IsX s.q n ps ss) (st : StepsR s.q (rows.map (movedF s.q ps ss)) f) : IsOwn s n f := by
  have q0 := s.q_pos
  have ok : ∀ r ∈ rows.map (movedF s.q ps ss), RowOk s.q n r := fun r hr => by
    obtain ⟨y, hy, rfl⟩ := List.mem_map.mp hr
    exact moved_ok q0 (h.red.ok y hy).1
  obtain ⟨h1, h2, h3, h4⟩ := st.all s.q23 ok
  have ind : Ind s.q n (rows.map (movedF s.q ps ss)) := ind_of q0 ok fun i hi => by
    rw [List.length_map] at hi
    have fi := h.red.fst _ (List.getElem_mem hi)
    obtain ⟨p, hp, ep⟩ := hx.inv fi.1
    refine ⟨p, ?_, fun j hj => ?_⟩
    · rw [List.getElem_map, moved_at (h.red.ok _ (List.getElem_mem hi)).1 hp, ep, fi.2, Int.one_mul]
      have sb := (hx.at_ hp).2
      rw [Int.emod_eq_of_lt (by omega) sb.2]
      omega
    · rw [List.getElem_map, moved_at (h.red.ok _ (List.getElem_mem (by omega))).1 hp, ep, (List.pairwise_iff_getElem.mp h.red.off j i (by omega) hi hj).1, Int.zero_mul]
      rfl
  have hl := st.len s.q23 ok ind
  refine IsOwn.of h1 h2 (by rw [hl, List.length_map]; exact h.half) ok (fun r hr => (h3 r).mp (Sp.mem q0 (h1.ok r hr) hr)) (fun a ha b hb => ?_) (fun c r hr => ?_)
  · obtain ⟨x, hx', rfl⟩ := List.mem_map.mp ha
    obtain ⟨y, hy, rfl⟩ := List.mem_map.mp hb
    rw [moved_worth s.q23 hx (h.red.ok x hx').1 (h.red.ok y hy).1]
    exact h.ins x hx' y hy
  · obtain ⟨y, hy, rfl⟩ := List.mem_map.mp hr
    rw [moved_weight s.q23 hx (h.red.ok y hy)]
    have := h.fit y hy
    subst c
    exact this
end
end Own

/-! The neighbour that has a row. -/
namespace Own
/-- the code that a row leads to, by its words -/
structure NbR (q n : Nat) (rows : List (List Int)) (row : List Int) (rows' : List (List Int)) : Prop where
  red : Red q n rows'
  desc : Desc rows'
  span : ∀ v, Sp q n rows' v ↔ ∃ c m, Sp q n rows c ∧ worthF q c row = 0 ∧ v = plusF q c row m
section
variable {q n : Nat} {rows rows' rows'' : List (List Int)} {a b c v w row : List Int} {m : Int} {s : Srt}
theorem NbR.unique (hq : 0 < q) (h : NbR q n rows row rows') (g : NbR q n rows row rows'') : rows' = rows'' :=
  red_ext hq h.red g.red h.desc g.desc fun v => (h.span v).trans (g.span v).symm
theorem Desc.nil_one : Desc ([] : List (List Int)) := .nil
theorem with_nb (hq : q = 2 ∨ q = 3) {kept : List (List Int)} (hk : Red q n kept) (hr : RowOk q n row) (no : ¬ Sp q n kept row) (sp : ∀ v, Sp q n kept v ↔ Sp q n rows v ∧ worthF q v row = 0) (h : WithR q kept row rows') : NbR q n rows row rows' := by
  have q0 : 0 < q := by omega
  have lt := (left_of q0 hk hr).mp no
  have ok : ∀ r ∈ row :: kept, RowOk q n r := fun r hm => by
    rcases List.mem_cons.mp hm with rfl | hm
    · exact hr
    · exact hk.ok r hm
  refine ⟨WithR.red hq hk hr h, ?_, fun v => ?_⟩
  · rcases h with ⟨z, _⟩ | ⟨_, _, d⟩
    · omega
    · exact d
  · rw [WithR.span hq hk hr h]
    constructor
    · intro g
      obtain ⟨c, m, hc, rfl⟩ := g.split q0 ok
      obtain ⟨h1, h2⟩ := (sp c).mp hc
      exact ⟨c, m, h1, h2, rfl⟩
    · rintro ⟨c, m, h1, h2, rfl⟩
      exact (((sp c).mpr ⟨h1, h2⟩).sub fun r hm => List.mem_cons_of_mem _ hm).add m (List.mem_cons_self ..)
theorem LedR.nb (hq : q = 2 ∨ q = 3) (hR : Red q n rows) (hd : Desc rows) (hr : RowOk q n row) (no : ¬ Sp q n rows row) (h : LedR q rows row rows') : NbR q n rows row rows' :=
  with_nb hq (led_red (by omega) hR hd) hr (fun s => no ((ledK_span hq hR hd hr).mp s).1) (fun v => ledK_span hq hR hd hr) h
/-- kept in the other order -/
theorem led_rev (hq : q = 2 ∨ q = 3) (hR : Red q n rows) (hd : Desc rows) (hr : RowOk q n row) (no : ¬ Sp q n rows row) (h : WithR q (ledK q rows row).reverse row rows') : NbR q n rows row rows' := by
  have sp : ∀ v, Sp q n (ledK q rows row).reverse v ↔ Sp q n rows v ∧ worthF q v row = 0 := fun v => by
    rw [← ledK_span hq hR hd hr]
    exact ⟨fun h => h.sub fun r hm => List.mem_reverse.mp hm, fun h => h.sub fun r hm => List.mem_reverse.mpr hm⟩
  exact with_nb hq ((led_red (by omega) hR hd).perm (List.reverse_perm _)) hr (fun g => no ((sp _).mp g).1) sp h
/-- scaled and added -/
theorem unit_worth {x : Int} (hq : q = 2 ∨ q = 3) (hx : 0 ≤ x ∧ x < (q : Int)) (nz : x ≠ 0) : (x * x) % (q : Int) = 1 := by
  rcases hq with rfl | rfl
  · have : x = 1 := by omega
    subst this
    rfl
  · have : x = 1 ∨ x = 2 := by omega
    rcases this with rfl | rfl <;> rfl
theorem sp_add (hq : 0 < q) (hR : Red q n rows) (hc : Sp q n rows c) (m : Int) (hr : RowOk q n row) : Sp q n rows (plusF q row c m) ↔ Sp q n rows row := by
  have oc := hc.ok hq
  constructor
  · intro h
    have := h.plus hq hR.ok hc (-m)
    rwa [plus_back hq hr oc.1] at this
  · intro h
    exact h.plus hq hR.ok hc m
/-- c times the row and a word that is worth nought with it, c not nought -/
theorem alike_row (hq : q = 2 ∨ q = 3) (hr : RowOk q n row) {t : Int} (ht : 0 ≤ t ∧ t + 1 < (q : Int)) : RowOk q n (plusF q row row t) ∧ (∀ v : List Int, v.length = n → worthF q v (plusF q row row t) = ((1 + t) * worthF q v row) % (q : Int)) ∧ plusF q (plusF q row row t) (plusF q row row t) t = row := by
  have q0 : 0 < q := by omega
  have o1 : RowOk q n (plusF q row row t) := plusF_ok q0 hr.1
  refine ⟨o1, fun v hv => ?_, ?_⟩
  · rw [worth_comm hv o1.1, worth_plus hr.1 hr.1, worth_comm hr.1 hv]
    congr 1
    grind
  · refine row_ext (n := n) (by rw [plusF_len, o1.1]) hr.1 fun i => ?_
    rw [plusF_at rfl, plusF_at rfl]
    have b := hr.at i q0
    generalize row.getD i 0 = y at b ⊢
    rcases hq with rfl | rfl
    · have : t = 0 := by omega
      subst this
      omega
    · have : t = 0 ∨ t = 1 := by omega
      rcases this with rfl | rfl <;> omega
structure Alike (s : Srt) (n : Nat) (rows : List (List Int)) (row al : List Int) : Prop where
  ok : RowOk s.q n al
  fit : fitW s al
  no : ¬ Sp s.q n rows al
theorem alike_ok (h : IsOwn s n rows) (hr : RowOk s.q n row) (ft : fitW s row) (no : ¬ Sp s.q n rows row) (hc : Sp s.q n rows c) (z : worthF s.q c row = 0) {t : Int} (ht : 0 ≤ t ∧ t + 1 < (s.q : Int)) : Alike s n rows row (plusF s.q (plusF s.q row row t) c 1) := by
  have q0 := s.q_pos
  obtain ⟨o1, w1, b1⟩ := alike_row s.q23 hr ht
  have oc := hc.ok q0
  have wrr := fit_self ft hr
  have wcc := h.zero hc hc
  have z2 : worthF s.q row c = 0 := by rw [worth_comm hr.1 oc.1]; exact z
  have wc1 : worthF s.q c (plusF s.q row row t) = 0 := by rw [w1 c oc.1, z, Int.mul_zero]; rfl
  have w11 : worthF s.q (plusF s.q row row t) (plusF s.q row row t) = 0 := by
    rw [w1 _ o1.1, worth_plus hr.1 hr.1, wrr]
    simp
  have al : RowOk s.q n (plusF s.q (plusF s.q row row t) c 1) := plusF_ok q0 o1.1
  refine ⟨al, ?_, fun g => ?_⟩
  · by_cases ct : s = .twice
    · subst ct
      have t0 : t = 0 := by
        have h2 : t + 1 < ((2 : Nat) : Int) := ht.2
        omega
      subst t0
      have e : plusF 2 row row 0 = row := plus_q (n := n) (by decide) hr rfl rfl
      show weightF (plusF 2 (plusF 2 row row 0) c 1) % 4 = 0
      rw [e]
      exact four_plus hr oc ft (h.fit hc) z2 1
    · refine self_fit ct al ?_
      rw [worth_plus o1.1 oc.1, worth_comm o1.1 al.1, worth_comm oc.1 al.1, worth_plus o1.1 oc.1, worth_plus o1.1 oc.1, w11, wc1, wcc, worth_comm o1.1 oc.1, wc1]
      simp
  · have g1 := (sp_add q0 h.red hc 1 o1).mp g
    have g2 := g1.plus q0 h.red.ok g1 t
    rw [b1] at g2
    exact no g2
theorem alike_nb (h : IsOwn s n rows) (hr : RowOk s.q n row) (hc : Sp s.q n rows c) (z : worthF s.q c row = 0) {t : Int} (ht : 0 ≤ t ∧ t + 1 < (s.q : Int)) (nb : NbR s.q n rows row rows') : NbR s.q n rows (plusF s.q (plusF s.q row row t) c 1) rows' := by
  have q0 := s.q_pos
  obtain ⟨o1, w1, b1⟩ := alike_row s.q23 hr ht
  have oc := hc.ok q0
  have al : RowOk s.q n (plusF s.q (plusF s.q row row t) c 1) := plusF_ok q0 o1.1
  have wv : ∀ v, Sp s.q n rows v → worthF s.q v (plusF s.q (plusF s.q row row t) c 1) = ((1 + t) * worthF s.q v row) % (s.q : Int) := fun v hv => by
    have ov := hv.ok q0
    rw [worth_comm ov.1 al.1, worth_plus o1.1 oc.1, worth_comm o1.1 ov.1, w1 v ov.1, h.zero hc hv, Int.mul_zero, Int.add_zero, Int.emod_emod]
  have wz : ∀ v, Sp s.q n rows v → (worthF s.q v (plusF s.q (plusF s.q row row t) c 1) = 0 ↔ worthF s.q v row = 0) := fun v hv => by
    rw [wv v hv]
    have b := worth_rng (q := s.q) (a := v) (b := row) q0
    generalize worthF s.q v row = x at b
    rcases s.q23 with e | e <;> rw [e] at b ht ⊢
    · have : t = 0 := by omega
      subst this
      omega
    · have : t = 0 ∨ t = 1 := by omega
      rcases this with rfl | rfl <;> omega
  refine ⟨nb.red, nb.desc, fun v => (nb.span v).trans ⟨?_, ?_⟩⟩
  · rintro ⟨d, m, hd, zd, rfl⟩
    -- row = (1 + t) (alike - c), as (1 + t)(1 + t) = 1
    have od := hd.ok q0
    refine ⟨plusF s.q d c (-(m * (1 + t))), m * (1 + t), hd.plus q0 h.red.ok hc _, ?_, ?_⟩
    · rw [wz _ (hd.plus q0 h.red.ok hc _), worth_plus od.1 oc.1, zd, z, Int.mul_zero]
      rfl
    · refine row_ext (n := n) (by rw [plusF_len, od.1]) (by rw [plusF_len, plusF_len, od.1]) fun i => ?_
      rw [plusF_at (by rw [od.1, hr.1]), plusF_at (by rw [plusF_len, od.1, al.1]), plusF_at (by rw [od.1, oc.1]), plusF_at (by rw [o1.1, oc.1]), plusF_at rfl, Int.emod_add_emod]
      generalize d.getD i 0 = x
      generalize row.getD i 0 = y
      generalize c.getD i 0 = u
      rcases s.q23 with e | e <;> rw [e] at ht ⊢
      · have : t = 0 := by omega
        subst this
        have h1 : ((y + 0 * y) % ((2 : Nat) : Int) + 1 * u) % ((2 : Nat) : Int) = (y + u) % ((2 : Nat) : Int) := by omega
        rw [h1, Int.add_emod (x + _), Int.mul_emod (m * (1 + 0)), Int.emod_emod, ← Int.mul_emod, ← Int.add_emod]
        congr 1
        grind
      · have : t = 0 ∨ t = 1 := by omega
        rcases this with rfl | rfl
        · have h1 : ((y + 0 * y) % ((3 : Nat) : Int) + 1 * u) % ((3 : Nat) : Int) = (y + u) % ((3 : Nat) : Int) := by omega
          rw [h1, Int.add_emod (x + _), Int.mul_emod (m * (1 + 0)), Int.emod_emod, ← Int.mul_emod, ← Int.add_emod]
          congr 1
          grind
        · have h1 : ((y + 1 * y) % ((3 : Nat) : Int) + 1 * u) % ((3 : Nat) : Int) = (2 * y + u) % ((3 : Nat) : Int) := by omega
          rw [h1, Int.add_emod (x + _), Int.mul_emod (m * (1 + 1)), Int.emod_emod, ← Int.mul_emod, ← Int.add_emod]
          have h2 : x + -(m * (1 + 1)) * u + m * (1 + 1) * (2 * y + u) = x + m * y + 3 * (m * y) := by grind
          rw [h2]
          show (x + m * y) % 3 = (x + m * y + 3 * (m * y)) % 3
          omega
  · rintro ⟨d, m, hd, zd, rfl⟩
    have od := hd.ok q0
    refine ⟨plusF s.q d c m, m * (1 + t), hd.plus q0 h.red.ok hc _, ?_, ?_⟩
    · rw [worth_plus od.1 oc.1, (wz d hd).mp zd, z, Int.mul_zero]
      rfl
    · refine row_ext (n := n) (by rw [plusF_len, od.1]) (by rw [plusF_len, plusF_len, od.1]) fun i => ?_
      rw [plusF_at (by rw [od.1, al.1]), plusF_at (by rw [o1.1, oc.1]), plusF_at rfl, plusF_at (by rw [plusF_len, od.1, hr.1]), plusF_at (by rw [od.1, oc.1]), Int.emod_add_emod, Int.emod_add_emod]
      generalize d.getD i 0 = x
      generalize row.getD i 0 = y
      generalize c.getD i 0 = u
      rw [Int.add_emod x, Int.mul_emod m, Int.emod_emod, ← Int.mul_emod, ← Int.add_emod]
      congr 1
      grind
/-- back again: a word of the code that is worth something with the row -/
theorem back_no (hq : 0 < q) (hr : RowOk q n row) (wrr : worthF q row row = 0) (nb : NbR q n rows row rows') (hb : RowOk q n b) (nz : worthF q b row ≠ 0) : ¬ Sp q n rows' b := fun g => by
  obtain ⟨c, m, hc, zc, rfl⟩ := (nb.span b).mp g
  apply nz
  rw [worth_plus (hc.ok hq).1 hr.1, zc, wrr, Int.mul_zero]
  rfl
theorem back_nb (h : IsOwn s n rows) (hr : RowOk s.q n row) (nb : NbR s.q n rows row rows') (hb : Sp s.q n rows b) (nz : worthF s.q b row ≠ 0) : NbR s.q n rows' b rows := by
  have q0 := s.q_pos
  have ob := hb.ok q0
  have brg := worth_rng (q := s.q) (a := b) (b := row) q0
  have ub := unit_worth s.q23 brg nz
  refine ⟨h.red, h.desc, fun v => ⟨fun hv => ?_, ?_⟩⟩
  · have ov := hv.ok q0
    have od : RowOk s.q n (plusF s.q v b (-(worthF s.q v row * worthF s.q b row))) := plusF_ok q0 ov.1
    have sd := hv.plus q0 h.red.ok hb (-(worthF s.q v row * worthF s.q b row))
    refine ⟨plusF s.q v b (-(worthF s.q v row * worthF s.q b row)), worthF s.q v row * worthF s.q b row, ?_, h.zero sd hb, ?_⟩
    · refine (nb.span _).mpr ⟨_, 0, sd, ?_, (plus_q q0 od (by rw [od.1, hr.1]) (by rfl)).symm⟩
      rw [worth_plus ov.1 ob.1]
      generalize worthF s.q v row = x
      generalize worthF s.q b row = y at ub
      have : x + -(x * y) * y = x - x * (y * y) := by grind
      rw [this, Int.sub_emod, Int.mul_emod, ub, Int.mul_one, Int.emod_emod, Int.sub_self]
      rfl
    · have := plus_back (m := -(worthF s.q v row * worthF s.q b row)) q0 ov ob.1
      rw [Int.neg_neg] at this
      exact this.symm
  · rintro ⟨c, m, hc, zc, rfl⟩
    obtain ⟨d, k, hd, zd, rfl⟩ := (nb.span c).mp hc
    have od := hd.ok q0
    rw [worth_plus od.1 hr.1, h.zero hd hb, Int.zero_add, worth_comm hr.1 ob.1] at zc
    have k0 : k % (s.q : Int) = 0 := by
      generalize worthF s.q b row = y at *
      rcases s.q23 with e | e <;> rw [e] at zc brg ub ⊢
      · have : y = 1 := by omega
        subst this
        omega
      · have : y = 1 ∨ y = 2 := by omega
        rcases this with rfl | rfl <;> omega
    rw [plus_q q0 od (by rw [od.1, hr.1]) k0]
    exact hd.plus q0 h.red.ok hb m
theorem common_in (hq : 0 < q) (nb : NbR q n rows row rows') (hr : row.length = n) (hc : Sp q n rows c) (z : worthF q c row = 0) : Sp q n rows' c :=
  (nb.span c).mpr ⟨c, 0, hc, z, (plus_q hq (hc.ok hq) (by rw [(hc.ok hq).1, hr]) (by rfl)).symm⟩
end
end Own

/-! Data: rows, codes, and what is told of them. -/
namespace Own
open PySem PySem.Spec PyProof.Rows L2 Evl
def intsD (xs : List Int) : PyData := .tuple (xs.map PyData.int)
def rowsD (rows : List (List Int)) : PyData := .tuple (rows.map intsD)
def codeD (q n : Nat) (rows : List (List Int)) : PyData := .tuple [.int (q : Int), .int (n : Int), rowsD rows]
theorem eqvAll_ints : ∀ xs ys : List Int, PyData.eqvAll (xs.map PyData.int) (ys.map PyData.int) = decide (xs = ys)
  | [], [] => rfl
  | [], _ :: _ => rfl
  | _ :: _, [] => rfl
  | x :: xs, y :: ys => by
    show (PyData.eqv (.int x) (.int y) && PyData.eqvAll (xs.map PyData.int) (ys.map PyData.int)) = _
    rw [eqvAll_ints xs ys]
    have : PyData.eqv (.int x) (.int y) = decide (x = y) := by
      by_cases e : x = y <;> simp [PyData.eqv, e]
    rw [this]
    by_cases e : x = y <;> by_cases g : xs = ys <;> simp [e, g]
theorem eqv_intsD (xs ys : List Int) : PyData.eqv (intsD xs) (intsD ys) = decide (xs = ys) := by
  unfold intsD
  rw [PyData.eqv]
  exact eqvAll_ints xs ys
theorem eqvAll_rows : ∀ xs ys : List (List Int), PyData.eqvAll (xs.map intsD) (ys.map intsD) = decide (xs = ys)
  | [], [] => rfl
  | [], _ :: _ => rfl
  | _ :: _, [] => rfl
  | x :: xs, y :: ys => by
    show (PyData.eqv (intsD x) (intsD y) && PyData.eqvAll (xs.map intsD) (ys.map intsD)) = _
    rw [eqvAll_rows xs ys, eqv_intsD]
    by_cases e : x = y <;> by_cases g : xs = ys <;> simp [e, g]
theorem eqv_rowsD (xs ys : List (List Int)) : PyData.eqv (rowsD xs) (rowsD ys) = decide (xs = ys) := by
  unfold rowsD
  rw [PyData.eqv]
  exact eqvAll_rows xs ys
theorem lay_intsD (xs : List Int) : (intsD xs).canLay0 = true ∧ (intsD xs).depth ≤ 1 := by
  unfold intsD
  constructor
  · simp [PyData.canLay0, PySem.W.ke_canLayAll0]
  · simp [PyData.depth, PySem.W.ke_depthAll]
theorem lay_rows : ∀ rows : List (List Int), PyData.canLayAll0 (rows.map intsD) = true ∧ PyData.depthAll (rows.map intsD) ≤ 1
  | [] => by simp [PyData.canLayAll0, PyData.depthAll]
  | r :: rows => by
    have h := lay_intsD r
    have ih := lay_rows rows
    rw [List.map_cons, PyData.canLayAll0, PyData.depthAll, h.1, ih.1]
    exact ⟨rfl, by omega⟩
theorem lay_rowsD (rows : List (List Int)) : (rowsD rows).canLay0 = true ∧ (rowsD rows).depth ≤ 2 := by
  have h := lay_rows rows
  unfold rowsD
  constructor
  · rw [PyData.canLay0, h.1]
  · rw [PyData.depth]
    omega
theorem lay_codeD (q n : Nat) (rows : List (List Int)) : (codeD q n rows).canLay0 = true ∧ (codeD q n rows).depth ≤ 3 := by
  have h := lay_rowsD rows
  unfold codeD
  constructor
  · simp [PyData.canLay0, PyData.canLayAll0, h.1]
  · simp [PyData.depth, PyData.depthAll]
    omega
theorem sh_of {d : PyData} (h : d.canLay0 = true ∧ d.depth ≤ 10) : SeqAt.shaped d = true := by
  unfold SeqAt.shaped
  rw [h.1, decide_eq_true (show d.depth ≤ 64 by omega)]
  rfl
theorem sh_intsD (xs : List Int) : SeqAt.shaped (intsD xs) = true := sh_of ⟨(lay_intsD xs).1, Nat.le_trans (lay_intsD xs).2 (by decide)⟩
theorem sh_rowsD (rows : List (List Int)) : SeqAt.shaped (rowsD rows) = true := sh_of ⟨(lay_rowsD rows).1, Nat.le_trans (lay_rowsD rows).2 (by decide)⟩
theorem sh_codeD (q n : Nat) (rows : List (List Int)) : SeqAt.shaped (codeD q n rows) = true := sh_of ⟨(lay_codeD q n rows).1, Nat.le_trans (lay_codeD q n rows).2 (by decide)⟩
def toldD (z : Str) (d : PyData) : PyData := .tuple [.str z, d]
theorem sh_toldD (z : Str) {d : PyData} (hz : PyData.strOk z = true) (h : d.canLay0 = true ∧ d.depth ≤ 9) : SeqAt.shaped (toldD z d) = true := by
  refine sh_of ⟨?_, ?_⟩
  · unfold toldD
    simp [PyData.canLay0, PyData.canLayAll0, h.1, hz]
  · unfold toldD
    simp [PyData.depth, PyData.depthAll]
    omega
theorem eqv_same {d : PyData} (h : SeqAt.shaped d = true) : PyData.eqv d d = true := SeqAt.eqv_refl d (SeqAt.canLay_of_shaped h)
section
variable {K : PySem.W.Frag} {H : Hp} {p : Addr} {q n : Nat} {rows : List (List Int)} {xs : List Int}
theorem dp_intsT (h : Tp K H p (iL xs)) : Dp K H (.ref p) (intsD xs) := .tup h.sq (dp_ints xs)
theorem dp_all {es : List Addr} : ∀ {es : List Addr} {rows : List (List Int)}, LstG iL K H es rows → DpAll K H (es.map V.ref) (rows.map intsD)
  | [], [], _ => .nil
  | [], _ :: _, l => by cases l.len
  | _ :: _, [], l => by cases l.len
  | e :: es, r :: rows, l => .cons (dp_intsT (l.at_ 0 e r rfl rfl)) (dp_all (es := es) ⟨by simpa using l.len, fun i a x h1 h2 => l.at_ (i + 1) a x h1 h2⟩)
theorem dp_rows (h : TpR K H p rows) : Dp K H (.ref p) (rowsD rows) := by
  obtain ⟨es, h1, h2⟩ := h
  exact .tup h1.sq (dp_all (es := es) h2)
/-- a code: letters, length, rows -/
def TpC (K : PySem.W.Frag) (H : Hp) (p : Addr) (q n : Nat) (rows : List (List Int)) : Prop := ∃ r, Tp K H p [.int (q : Int), .int (n : Int), .ref r] ∧ TpR K H r rows
theorem TpR.ex' {H1 : Hp} (h : TpR K H p rows) (e : Ex H H1) : TpR K H1 p rows := by
  obtain ⟨es, h1, h2⟩ := h
  exact ⟨es, h1.ex e, h2.ex e⟩
theorem TpC.ex {H1 : Hp} (h : TpC K H p q n rows) (e : Ex H H1) : TpC K H1 p q n rows := by
  obtain ⟨r, h1, h2⟩ := h
  exact ⟨r, h1.ex e, h2.ex' e⟩
theorem dp_code (h : TpC K H p q n rows) : Dp K H (.ref p) (codeD q n rows) := by
  obtain ⟨r, h1, h2⟩ := h
  exact .tup h1.sq (.cons (.int _) (.cons (.int _) (.cons (dp_rows h2) .nil)))
end
end Own

/-! What is kept, from the first row on. -/
namespace Own
section
variable {q n last i : Nat} {rows : List (List Int)} {a b row one : List Int} {m : Int}
theorem plus_mod (h : a.length = b.length) (m : Int) : plusF q a b (m % (q : Int)) = plusF q a b m := by
  refine row_ext (n := a.length) plusF_len plusF_len fun i => ?_
  rw [plusF_at h, plusF_at h, Int.add_emod, Int.mul_emod, Int.emod_emod, ← Int.mul_emod, ← Int.add_emod]
theorem plus_neg (h : a.length = b.length) (m : Int) : plusF q a b (-m) = plusF q a b ((q : Int) - m) := by
  rw [← plus_mod h (-m), ← plus_mod h ((q : Int) - m)]
  congr 1
  rw [show (q : Int) - m = -m + (q : Int) * 1 by omega, Int.add_mul_emod_self_left]
/-- one row of those kept -/
def keepF (q : Nat) (row lr : List Int) (one : List Int) : List Int := if worthF q row one = 0 then one else plusF q one lr (-(worthF q row one) * worthF q row lr)
/-- those kept of the first rows -/
def kF (q : Nat) (rows : List (List Int)) (row : List Int) (last i : Nat) : List (List Int) := ((rows.take i).take last).map (keepF q row (rows.getD last [])) ++ (rows.take i).drop (last + 1)
theorem kF_zero : kF q rows row last 0 = [] := by simp [kF]
theorem kF_low (h : i < last) (hr : rows[i]? = some one) : kF q rows row last (i + 1) = kF q rows row last i ++ [keepF q row (rows.getD last []) one] := by
  have il := (List.getElem?_eq_some_iff.mp hr).1
  unfold kF
  rw [List.take_take, List.take_take, Nat.min_eq_right (show i + 1 ≤ last by omega), Nat.min_eq_right (show i ≤ last by omega), List.drop_eq_nil_of_le (by rw [List.length_take]; omega), List.drop_eq_nil_of_le (by rw [List.length_take]; omega), List.append_nil, List.append_nil, List.take_add_one, hr, List.map_append]
  rfl
theorem kF_at (hl : last < rows.length) : kF q rows row last (last + 1) = kF q rows row last last := by
  unfold kF
  rw [List.take_take, List.take_take, Nat.min_eq_left (show last ≤ last + 1 by omega), Nat.min_self, List.drop_eq_nil_of_le (by rw [List.length_take]; omega), List.drop_eq_nil_of_le (by rw [List.length_take]; omega)]
theorem kF_high (h : last < i) (hr : rows[i]? = some one) : kF q rows row last (i + 1) = kF q rows row last i ++ [one] := by
  have il := (List.getElem?_eq_some_iff.mp hr).1
  unfold kF
  rw [List.take_take, List.take_take, Nat.min_eq_left (show last ≤ i + 1 by omega), Nat.min_eq_left (show last ≤ i by omega), List.take_add_one, hr, List.drop_append_of_le_length (by rw [List.length_take]; omega), List.append_assoc]
  rfl
theorem led_zero {row : List Int} : ∀ (zs : List (List Int)) (st : LedS), (∀ z ∈ zs, worthF q z row = 0) → zs.foldl (ledStep q row) st = ⟨st.kept ++ zs, st.last, st.ahead⟩
  | [], st, _ => by simp
  | z :: zs, st, h => by
    rw [List.foldl_cons, show ledStep q row st z = ⟨st.kept ++ [z], st.last, st.ahead⟩ by unfold ledStep; rw [if_pos (h z (List.mem_cons_self ..))], led_zero zs _ fun y hy => h y (List.mem_cons_of_mem _ hy)]
    simp
theorem led_rest {row : List Int} : ∀ (zs : List (List Int)) (st : LedS), st.ahead ≠ 0 → zs.foldl (ledStep q row) st = ⟨st.kept ++ zs.map fun one => if worthF q one row = 0 then one else plusF q one st.last ((-(worthF q one row) * st.ahead) % (q : Int)), st.last, st.ahead⟩
  | [], st, _ => by simp
  | z :: zs, st, h => by
    rw [List.foldl_cons]
    by_cases c : worthF q z row = 0
    · rw [show ledStep q row st z = ⟨st.kept ++ [z], st.last, st.ahead⟩ by unfold ledStep; rw [if_pos c], led_rest zs ⟨st.kept ++ [z], st.last, st.ahead⟩ h]
      simp [c]
    · rw [show ledStep q row st z = ⟨st.kept ++ [plusF q z st.last ((-(worthF q z row) * st.ahead) % (q : Int))], st.last, st.ahead⟩ by unfold ledStep; rw [if_neg c, if_neg h], led_rest zs ⟨st.kept ++ [plusF q z st.last ((-(worthF q z row) * st.ahead) % (q : Int))], st.last, st.ahead⟩ h]
      simp [c]
theorem kF_end (hq : 0 < q) (ok : ∀ r ∈ rows, RowOk q n r) (hr : row.length = n) (hl : last < rows.length) (nz : worthF q row (rows.getD last []) ≠ 0) (z : ∀ i, last < i → i < rows.length → worthF q row (rows.getD i []) = 0) : kF q rows row last rows.length = (ledK q rows row).reverse := by
  have gd : ∀ i (h : i < rows.length), rows.getD i [] = rows[i] := fun i h => by rw [List.getD_eq_getElem?_getD, List.getElem?_eq_getElem h]; rfl
  have lm : rows.getD last [] ∈ rows := by rw [gd last hl]; exact List.getElem_mem _
  have wc : ∀ r ∈ rows, worthF q r row = worthF q row r := fun r hm => worth_comm (ok r hm).1 hr
  have split : rows = rows.take last ++ rows.getD last [] :: rows.drop (last + 1) := by
    conv => lhs; rw [← List.take_append_drop last rows]
    rw [List.drop_eq_getElem_cons hl, gd last hl]
  have h1 : ledK q rows row = (rows.drop (last + 1)).reverse ++ (rows.take last).reverse.map fun one => if worthF q one row = 0 then one else plusF q one (rows.getD last []) ((-(worthF q one row) * worthF q (rows.getD last []) row) % (q : Int)) := by
    have hb : ∀ y ∈ (rows.drop (last + 1)).reverse, worthF q y row = 0 := fun y hy => by
      have hy' := List.mem_reverse.mp hy
      obtain ⟨j, hj, rfl⟩ := List.getElem_of_mem hy'
      rw [List.length_drop] at hj
      rw [List.getElem_drop, wc _ (List.getElem_mem _), ← gd _ (by omega)]
      exact z _ (by omega) (by omega)
    unfold ledK ledAll
    conv => lhs; rw [split]
    rw [List.reverse_append, List.reverse_cons, List.foldl_append, List.foldl_append, led_zero _ _ hb]
    rw [List.foldl_cons, List.foldl_nil]
    have s1 : ledStep q row ⟨[] ++ (rows.drop (last + 1)).reverse, [], 0⟩ (rows.getD last []) = ⟨(rows.drop (last + 1)).reverse, rows.getD last [], worthF q (rows.getD last []) row⟩ := by
      unfold ledStep
      rw [if_neg (by rw [wc _ lm]; exact nz), if_pos rfl, List.nil_append]
    rw [s1, led_rest _ _ (by show worthF q (rows.getD last []) row ≠ 0; rw [wc _ lm]; exact nz)]
  rw [h1, List.reverse_append, List.reverse_reverse, ← List.map_reverse, List.reverse_reverse]
  unfold kF
  rw [List.take_length]
  congr 1
  refine List.map_congr_left fun one hm => ?_
  have om := List.mem_of_mem_take hm
  unfold keepF
  rw [wc one om, wc _ lm]
  split
  · rfl
  · rw [plus_mod (by rw [(ok one om).1, (ok _ lm).1])]
end
end Own

/-! Data: sorted lists, which of two is less, what is in a tuple, how often. -/
namespace Own
open PySem PySem.Spec PySem.W PyProof.Rows L2 Evl
/-- each of these stands for that -/
def LstR {α : Type} (Rl : Addr → α → Prop) (es : List Addr) (bs : List α) : Prop := es.length = bs.length ∧ ∀ (i : Nat) e x, es[i]? = some e → bs[i]? = some x → Rl e x
section
variable {α : Type} {Rl Rm : Addr → α → Prop} {es es2 : List Addr} {bs bs2 : List α}
theorem LstR.nil : LstR Rl [] [] := ⟨rfl, fun i e x h => by cases h⟩
theorem LstR.imp (l : LstR Rl es bs) (h : ∀ e x, Rl e x → Rm e x) : LstR Rm es bs := ⟨l.1, fun i e x h1 h2 => h e x (l.2 i e x h1 h2)⟩
theorem LstR.app (l : LstR Rl es bs) (l2 : LstR Rl es2 bs2) : LstR Rl (es ++ es2) (bs ++ bs2) := by
  refine ⟨by rw [List.length_append, List.length_append, l.1, l2.1], fun i a y h1 h2 => ?_⟩
  by_cases c : i < es.length
  · rw [List.getElem?_append_left c] at h1
    rw [List.getElem?_append_left (by rw [← l.1]; exact c)] at h2
    exact l.2 i a y h1 h2
  · rw [List.getElem?_append_right (by omega)] at h1
    rw [List.getElem?_append_right (by rw [← l.1]; omega), ← l.1] at h2
    exact l2.2 _ a y h1 h2
theorem LstR.one {e : Addr} {x : α} (h : Rl e x) : LstR Rl [e] [x] := ⟨rfl, fun i a y h1 h2 => by
  cases i with
  | zero =>
    cases h1
    cases h2
    exact h
  | succ i => cases h1⟩
theorem LstR.push {e : Addr} {x : α} (l : LstR Rl es bs) (h : Rl e x) : LstR Rl (es ++ [e]) (bs ++ [x]) := l.app (LstR.one h)
theorem LstR.tail {e : Addr} {x : α} (l : LstR Rl (e :: es) (x :: bs)) : Rl e x ∧ LstR Rl es bs := ⟨l.2 0 e x rfl rfl, by have := l.1; simpa using this, fun i a y h1 h2 => l.2 (i + 1) a y h1 h2⟩
theorem LstR.each : ∀ {es : List Addr} {bs : List α}, LstR Rl es bs → EachIs (fun v b => ∃ e, v = Value.ref e ∧ Rl e b) (es.map Value.ref) bs
  | [], [], _ => .nil
  | [], _ :: _, l => by cases l.1
  | _ :: _, [], l => by cases l.1
  | e :: es, x :: bs, l => .cons ⟨e, rfl, l.tail.1⟩ (LstR.each l.tail.2)
theorem each_lst : ∀ {vs : List Value} {bs : List α}, EachIs (fun v b => ∃ e, v = Value.ref e ∧ Rl e b) vs bs → ∃ es : List Addr, vs = es.map Value.ref ∧ LstR Rl es bs
  | _, _, .nil => ⟨[], rfl, LstR.nil⟩
  | _, _, .cons ⟨e, h1, h2⟩ r => by
    obtain ⟨es, h3, h4⟩ := each_lst r
    exact ⟨e :: es, by rw [h1, h3]; rfl, (LstR.one h2).app h4⟩
theorem LstR.get {i : Nat} {v : V} (l : LstR Rl es bs) (h : (es.map V.ref)[i]? = some v) : ∃ e x, v = .ref e ∧ es[i]? = some e ∧ bs[i]? = some x ∧ Rl e x := by
  rw [List.getElem?_map] at h
  cases he : es[i]? with
  | none =>
    rw [he] at h
    cases h
  | some e =>
    rw [he] at h
    cases h
    have hi := (List.getElem?_eq_some_iff.mp he).1
    have hx : bs[i]? = some (bs[i]'(by rw [← l.1]; exact hi)) := List.getElem?_eq_getElem _
    exact ⟨e, _, rfl, rfl, hx, l.2 i e _ he hx⟩
theorem LstR.dp {K : PySem.W.Frag} {H : Hp} {enc : α → PyData} (f : ∀ e x, Rl e x → Dp K H (.ref e) (enc x)) : ∀ {es : List Addr} {bs : List α}, LstR Rl es bs → DpAll K H (es.map V.ref) (bs.map enc)
  | [], [], _ => .nil
  | [], _ :: _, l => by cases l.1
  | _ :: _, [], l => by cases l.1
  | e :: es, x :: bs, l => .cons (f e x l.tail.1) (LstR.dp f l.tail.2)
end
def rSortD (K : PySem.W.Frag) : List V → Hp → VK → Prop := fun vs H Q => ∃ (α : Type) (Rl : Addr → α → Prop) (enc : α → PyData) (a : Addr) (es : List Addr) (bs : List α), vs = [V.ref a] ∧ SqL K H a (es.map V.ref) ∧ LstR Rl es bs ∧ (∀ e x, Rl e x → Dp K H (.ref e) (enc x)) ∧ AllAlike (bs.map enc) ∧ Sortable (bs.map enc) ∧ (∀ x ∈ bs, (enc x).depth ≤ 20) ∧
  ∀ (es' : List Addr) (p : Addr), LstR Rl es' (bs.mergeSort (dataLe false enc)) → H p = none → Q (.ref p) (upd H p (.lst (es'.map V.ref)))
def rLtD (K : PySem.W.Frag) : R2 := fun x y H Q => ∃ d e, Dp K H x d ∧ Dp K H y e ∧ alike d e = true ∧ d ≠ .none ∧ d.depth ≤ 60 ∧ Q (.bl (dataLt d e)) H
def rNotInT (K : PySem.W.Frag) : R2 := fun x y H Q => ∃ d ds, Dp K H x d ∧ Dp K H y (.tuple ds) ∧ SeqAt.shaped d = true ∧ SeqAt.shaped (.tuple ds) = true ∧ Q (.bl (!ds.any fun z => PyData.eqv z d)) H
def rTCntD (K : PySem.W.Frag) : V → List V → Hp → VK → Prop := fun x xs H Q => ∃ (p : Addr) (y : V) (d : PyData) (ds : List PyData), x = .ref p ∧ xs = [y] ∧ Dp K H (.ref p) (.tuple ds) ∧ Dp K H y d ∧ PyData.plainAll ds = true ∧ d.plain = true ∧ d.depth ≤ 60 ∧ Q (.int ((ds.countP fun z => PyData.eqv z d : Nat) : Int)) H
section
variable {X : Cx} {K : PySem.W.Frag}
theorem op_ltD (hu : X.A.units + 64 < cLine) : OpR X (compareOp .Lt) (rLtD X.K) := by
  intro pins s σ H x y v u Q I rx ry h
  obtain ⟨d, e, hd, he, al, nn, dp, q⟩ := h
  obtain ⟨as, r1⟩ := Dp.reads I d x v hd rx
  obtain ⟨bs, r2⟩ := Dp.reads I e y u he ry
  refine lt_data r1 r2 al nn ?_ ⟨.bl _, H, I, rfl, q⟩
  have : min d.depth e.depth ≤ d.depth := Nat.min_le_left _ _
  omega
theorem op_notInT (hu : X.A.units + 65 < cLine) : OpR X (compareOp .NotIn) (rNotInT X.K) := by
  intro pins s σ H x y v u Q I rx ry h
  obtain ⟨d, ds, hd, he, sd, se, q⟩ := h
  obtain ⟨as, r1⟩ := Dp.reads I d x v hd rx
  obtain ⟨bs, r2⟩ := Dp.reads I (.tuple ds) y u he ry
  refine SeqAt.notIn_tuple_reads r2 r1 ?_ (SeqAt.canLay_of_shaped sd) ?_ ⟨.bl _, H, I, rfl, q⟩
  · have := SeqAt.canLay_of_shaped se
    rwa [PyData.canLay0] at this
  · have h1 := SeqAt.depth_of_shaped sd
    have : min (PyData.depthAll ds) d.depth ≤ d.depth := Nat.min_le_right _ _
    omega
theorem mt_tcountD (hu : X.A.units + 65 < cLine) : MtR X "tuple.count" (rTCntD X.K) := by
  intro pins s σ H x xs v us Q I rx rxs h
  obtain ⟨p, y, d, ds, rfl, rfl, hp, hy, pl, pd, dd, q⟩ := h
  cases rx
  obtain ⟨u, rfl, ru⟩ := rxs.one
  obtain ⟨as, r1⟩ := Dp.reads I (.tuple ds) (.ref p) (.ref p) hp rfl
  obtain ⟨bs, r2⟩ := Dp.reads I d y u hy ru
  cases r1 with
  | tuple h1 h2 h3 h4 =>
    refine SeqAt.count_tuple_data ⟨_, h1, h2, _, h3⟩ h4 r2 pl pd ?_ ⟨.int _, H, I.tok _, ⟨_, rfl⟩, q⟩
    have : min (PyData.depthAll ds) d.depth ≤ d.depth := Nat.min_le_right _ _
    omega
theorem cr_sortedD (hu : X.A.units + 64 < cLine) : CallR X (.builtin "sorted") (rSortD X.K) := by
  intro pins s σ H vs us Q I r h
  obtain ⟨α, Rl, enc, a, es, bs, rfl, hs, lr, dp, al, so, de, q⟩ := h
  obtain rfl := Vals.ref1 r
  obtain ⟨its, rv, hl, hz⟩ := I.list hs
  obtain rfl := vals_refs rv
  have er : EachIs (fun v b => ∃ as, Reads s.heap v (enc b) as) (es.map Value.ref) bs := lr.each.mono fun v b ⟨e, h1, h2⟩ => by
    obtain ⟨as, r⟩ := Dp.reads I (enc b) (.ref e) v (dp e b h2) (by rw [h1]; rfl)
    exact ⟨as, r⟩
  have bl : bs.length ≤ sizeLine := by
    rw [← lr.1]
    rw [List.length_map] at hz
    exact hz
  refine sorted_data hl.isList lr.each er al so bl (fun b hb => by have := de b hb; omega) fun out ol eo => ?_
  obtain ⟨es', rfl, lr'⟩ := each_lst eo
  obtain ⟨ep, he'⟩ := PyProof.Rows.sortedAll_at s.heap (es.map Value.ref) (List.toArray (es'.map Value.ref))
  have hlen : (es'.map V.ref).length ≤ sizeLine := by
    rw [List.length_map] at ol ⊢
    omega
  exact ⟨.ref _, upd H (s.heap.objs.size + 1) (.lst (es'.map V.ref)), I.laid (t' := s.toks) (fun _ _ => PyProof.Rows.sortedAll_old) (Nat.le_succ _) ⟨hlen, es'.map Value.ref, ep, refs_vals es', he'⟩, rfl, q _ _ lr' (I.hok.fresh (Nat.le_succ _))⟩
theorem ko_ltD (hu : X.A.units + 64 < cLine) (h : X.K = K := by rfl) : OpR X (compareOp .Lt) (rLtD K) := by subst h; exact op_ltD hu
theorem ko_notInT (hu : X.A.units + 65 < cLine) (h : X.K = K := by rfl) : OpR X (compareOp .NotIn) (rNotInT K) := by subst h; exact op_notInT hu
theorem kc_sortedD (hu : X.A.units + 64 < cLine) (h : X.K = K := by rfl) : CallR X (.builtin "sorted") (rSortD K) := by subst h; exact cr_sortedD hu
theorem km_tcountD (hu : X.A.units + 65 < cLine) (h : X.K = K := by rfl) : MtR X "tuple.count" (rTCntD K) := by subst h; exact mt_tcountD hu
end
end Own

/-! All words of rows in steps; the order of codes. -/
namespace Own
open PySem PySem.W PyProof.Rows
section
variable {q n : Nat} {rows rows' : List (List Int)} {a b c v w row r : List Int} {m : Int}
/-! ### all words -/
theorem words_sp (hq : 0 < q) : ∀ (rows : List (List Int)), (∀ r ∈ rows, RowOk q n r) → ∀ w, w ∈ wordsF q n rows ↔ Sp q n rows w := by
  refine snoc_ind ?_ ?_
  · intro _ w
    constructor
    · intro h
      rw [show wordsF q n [] = [List.replicate n 0] from rfl, List.mem_singleton] at h
      rw [h]
      exact Sp.zero
    · intro h
      cases h with
      | zero => exact List.mem_singleton_self _
      | add m h hr => cases hr
  · intro l x ih ok w
    have ok1 : ∀ r ∈ l, RowOk q n r := fun r hr => ok r (List.mem_append_left _ hr)
    have ox := ok x (List.mem_append_right _ (List.mem_singleton_self _))
    have ih := ih ok1
    rw [words_snoc, List.mem_flatMap]
    constructor
    · rintro ⟨t, _, h⟩
      obtain ⟨y, hy, rfl⟩ := List.mem_map.mp h
      exact (((ih y).mp hy).sub fun r hr => List.mem_append_left _ hr).add _ (List.mem_append_right _ (List.mem_singleton_self _))
    · intro h
      have okc : ∀ r ∈ x :: l, RowOk q n r := fun r hr => by
        rcases List.mem_cons.mp hr with rfl | hr
        · exact ox
        · exact ok1 r hr
      obtain ⟨c, m, hc, rfl⟩ := (h.sub (rows' := x :: l) fun r hr => by
        rcases List.mem_append.mp hr with hr | hr
        · exact List.mem_cons_of_mem _ hr
        · rw [List.mem_singleton.mp hr]
          exact List.mem_cons_self ..).split hq okc
      have m0 := Int.emod_nonneg m (show (q : Int) ≠ 0 by omega)
      have m1 := Int.emod_lt_of_pos m (show (0 : Int) < q by omega)
      refine ⟨(m % (q : Int)).toNat, List.mem_range.mpr (by omega), List.mem_map.mpr ⟨c, (ih c).mpr hc, ?_⟩⟩
      rw [show (((m % (q : Int)).toNat : Nat) : Int) = m % (q : Int) by omega]
      exact plus_mod (by rw [(hc.ok hq).1, ox.1]) m
theorem Red.init {l : List (List Int)} {x : List Int} (h : Red q n (l ++ [x])) : Red q n l := ⟨fun r hr => h.ok r (List.mem_append_left _ hr), fun r hr => h.fst r (List.mem_append_left _ hr), (List.pairwise_append.mp h.off).1⟩
theorem nodup_flat {α β : Type} {f : α → List β} : ∀ {l : List α}, l.Nodup → (∀ x ∈ l, (f x).Nodup) → (∀ x ∈ l, ∀ y ∈ l, ∀ z, z ∈ f x → z ∈ f y → x = y) → (l.flatMap f).Nodup
  | [], _, _, _ => List.nodup_nil
  | x :: l, hn, hf, hd => by
    have hn' := List.nodup_cons.mp hn
    rw [List.flatMap_cons]
    refine nodup_app (hf x (List.mem_cons_self ..)) (nodup_flat hn'.2 (fun y hy => hf y (List.mem_cons_of_mem _ hy)) fun y hy z hz => hd y (List.mem_cons_of_mem _ hy) z (List.mem_cons_of_mem _ hz)) fun z hz hz2 => ?_
    obtain ⟨y, hy, h3⟩ := List.mem_flatMap.mp hz2
    exact hn'.1 (hd x (List.mem_cons_self ..) y (List.mem_cons_of_mem _ hy) z hz h3 ▸ hy)
theorem words_nodup (hq : 0 < q) : ∀ (rows : List (List Int)), Red q n rows → (wordsF q n rows).Nodup := by
  refine snoc_ind ?_ ?_
  · intro _
    rw [show wordsF q n [] = [List.replicate n 0] from rfl]
    exact List.nodup_cons.mpr ⟨by simp, List.nodup_nil⟩
  · intro l x ih hR
    have h1 := hR.init
    have ih := ih h1
    have ox := hR.ok x (List.mem_append_right _ (List.mem_singleton_self _))
    have fx := hR.fst x (List.mem_append_right _ (List.mem_singleton_self _))
    have ws := words_sp hq l h1.ok
    have z : ∀ y ∈ wordsF q n l, RowOk q n y ∧ y.getD (firstF x) 0 = 0 := fun y hy => by
      have sy := (ws y).mp hy
      exact ⟨sy.ok hq, sy.at_zero hq h1.ok fun r hr => ((List.pairwise_append.mp hR.off).2.2 r hr x (List.mem_singleton_self _)).1⟩
    have at_ : ∀ y ∈ wordsF q n l, ∀ t : Nat, t < q → (plusF q y x (t : Int)).getD (firstF x) 0 = t := fun y hy t ht => by
      rw [plusF_at (by rw [(z y hy).1.1, ox.1]), (z y hy).2, fx.2, Int.mul_one, Int.zero_add]
      exact Int.emod_eq_of_lt (by omega) (by omega)
    rw [words_snoc]
    refine nodup_flat List.nodup_range (fun t ht => nodup_map' ih fun y hy y' hy' e => ?_) fun t ht t' ht' v hv hv' => ?_
    · have h2 := congrArg (fun u : List Int => plusF q u x (-(t : Int))) e
      try dsimp only at h2
      rwa [plus_back hq (z y hy).1 ox.1, plus_back hq (z y' hy').1 ox.1] at h2
    · obtain ⟨y, hy, rfl⟩ := List.mem_map.mp hv
      obtain ⟨y', hy', e⟩ := List.mem_map.mp hv'
      have h1 := at_ y hy t (List.mem_range.mp ht)
      have h2 := at_ y' hy' t' (List.mem_range.mp ht')
      rw [e, h1] at h2
      omega
theorem sp_rev : Sp q n rows.reverse v ↔ Sp q n rows v := ⟨fun h => h.sub fun r hr => List.mem_reverse.mp hr, fun h => h.sub fun r hr => List.mem_reverse.mpr hr⟩
/-! ### all rows -/
def unitR (n i : Nat) : List Int := List.replicate i 0 ++ [1] ++ List.replicate (n - i - 1) 0
def unitsR (n : Nat) : List (List Int) := (List.range n).map (unitR n)
theorem unit_at_same {i : Nat} (h : i < n) : (unitR n i).getD i 0 = 1 := by
  unfold unitR
  rw [List.getD_eq_getElem?_getD, List.getElem?_append_left (by rw [List.length_append, List.length_replicate]; simp), List.getElem?_append_right (by rw [List.length_replicate]; exact Nat.le_refl _), List.length_replicate, Nat.sub_self]
  rfl
theorem unit_at_else {i j : Nat} (ne : j ≠ i) : (unitR n i).getD j 0 = 0 := by
  unfold unitR
  rcases Nat.lt_or_ge j i with h | h
  · rw [List.getD_eq_getElem?_getD, List.append_assoc, List.getElem?_append_left (by rw [List.length_replicate]; exact h), ← List.getD_eq_getElem?_getD, rep_at]
  · rw [List.getD_eq_getElem?_getD, List.getElem?_append_right (by rw [List.length_append, List.length_replicate]; simp only [List.length_singleton]; omega), ← List.getD_eq_getElem?_getD, rep_at]
theorem unitR_ok' {i : Nat} (hq : 2 ≤ q) (h : i < n) : RowOk q n (unitR n i) := by
  refine ⟨by unfold unitR; rw [List.length_append, List.length_append, List.length_replicate, List.length_replicate, List.length_singleton]; omega, fun x hx => ?_⟩
  unfold unitR at hx
  rcases List.mem_append.mp hx with hx | hx
  · rcases List.mem_append.mp hx with hx | hx
    · rw [List.eq_of_mem_replicate hx]
      omega
    · rw [List.mem_singleton.mp hx]
      omega
  · rw [List.eq_of_mem_replicate hx]
    omega
theorem unit_firstF {i : Nat} (h : i < n) : firstF (unitR n i) = i :=
  first_of (by rw [(unitR_ok' (q := 2) (by decide) h).1]; exact h) (fun j hj => unit_at_else (by omega)) (by rw [unit_at_same h]; decide)
theorem units_red (hq : 2 ≤ q) : Red q n (unitsR n) := by
  refine ⟨fun r hr => ?_, fun r hr => ?_, ?_⟩
  · obtain ⟨i, hi, rfl⟩ := List.mem_map.mp hr
    exact unitR_ok' hq (List.mem_range.mp hi)
  · obtain ⟨i, hi, rfl⟩ := List.mem_map.mp hr
    have := List.mem_range.mp hi
    rw [unit_firstF this]
    exact ⟨this, unit_at_same this⟩
  · unfold unitsR
    rw [List.pairwise_map]
    refine (List.nodup_iff_pairwise_ne.mp List.nodup_range).imp_of_mem fun ha hb ne => ?_
    rw [unit_firstF (List.mem_range.mp ha), unit_firstF (List.mem_range.mp hb)]
    exact ⟨unit_at_else (Ne.symm ne), unit_at_else ne⟩
theorem units_all (hq : 2 ≤ q) : Sp q n (unitsR n) w ↔ RowOk q n w := by
  have q0 : 0 < q := by omega
  refine ⟨fun h => h.ok q0, fun h => ?_⟩
  have hR := units_red (n := n) hq
  have lo := redF_ok (rows := unitsR n) q0 h
  refine gone_sp q0 hR h ?_
  rw [first_none fun j hj => ?_, lo.1]
  rw [lo.1] at hj
  have := redF_kill q0 hR h (unitR n j) (List.mem_map.mpr ⟨j, List.mem_range.mpr hj, rfl⟩)
  rwa [unit_firstF hj] at this
/-! ### the order of codes -/
end
theorem toks_inj {x y : PyData} (h : alike x y = true) (e : keyToks x = keyToks y) : PyData.eqv x y = true := by
  cases c : PyData.eqv x y with
  | true => rfl
  | false =>
    have h2 := (toks_eqv x y h).2 c
    have h3 := h2 [] [Sum.inl 0]
    have h4 := h2 [Sum.inl 0] []
    rw [e] at h3 h4
    have z1 := (lex_pre (keyToks y) [] [Sum.inl 0]).symm.trans h3
    have z2 := (lex_pre (keyToks y) [Sum.inl 0] []).symm.trans h4
    rw [← z2] at z1
    revert z1
    decide
theorem alike_intsD (xs ys : List Int) : alike (intsD xs) (intsD ys) = true := by
  unfold intsD
  rw [alike]
  exact alike_ints xs ys
theorem alike_rowsAll : ∀ xs ys : List (List Int), alikeAll (xs.map intsD) (ys.map intsD) = true
  | [], ys => by cases ys <;> simp [alikeAll]
  | x :: xs, [] => by simp [alikeAll]
  | x :: xs, y :: ys => by
    rw [List.map_cons, List.map_cons, alikeAll, alike_intsD, alike_rowsAll xs ys]
    rfl
theorem alike_codeD (q n q' n' : Nat) (rows rows' : List (List Int)) : alike (codeD q n rows) (codeD q' n' rows') = true := by
  unfold codeD
  simp [alike, alikeAll, rowsD, alike_rowsAll]
/-- one code ahead of another -/
def cLt (q n : Nat) (a b : List (List Int)) : Bool := dataLt (codeD q n a) (codeD q n b)
def cLe (q n : Nat) : List (List Int) → List (List Int) → Bool := dataLe false (codeD q n)
theorem cLe_eq (q n : Nat) (a b : List (List Int)) : cLe q n a b = !cLt q n b a := rfl
theorem cLt_total {q n : Nat} {a b : List (List Int)} (h1 : cLt q n a b = false) (h2 : cLt q n b a = false) : a = b := by
  have e : keyToks (codeD q n a) = keyToks (codeD q n b) := (listOrd itemOrd).total _ _ h1 h2
  have := toks_inj (alike_codeD q n q n a b) e
  unfold codeD at this
  rw [PyData.eqv, PyData.eqvAll, PyData.eqvAll, PyData.eqvAll, eqv_rowsD] at this
  simp [PyData.eqvAll, PyData.eqv] at this
  exact this
theorem cLe_total (q n : Nat) : TotalLe (cLe q n) := sortLe_total (listOrd itemOrd) false fun b => keyToks (codeD q n b)
theorem sorted_eq {α : Type} {le : α → α → Bool} (anti : ∀ a b, le a b = true → le b a = true → a = b) : ∀ {a b : List α}, a.Pairwise (fun x y => le x y = true) → b.Pairwise (fun x y => le x y = true) → a.Perm b → a = b
  | [], b, _, _, p => p.nil_eq
  | x :: a, b, ha, hb, p => by
    cases b with
    | nil => exact absurd p.symm.nil_eq (by simp)
    | cons y b =>
      have ha' := List.pairwise_cons.mp ha
      have hb' := List.pairwise_cons.mp hb
      have e : x = y := by
        rcases List.mem_cons.mp (p.mem_iff.mp (List.mem_cons_self ..)) with e | h1
        · exact e
        · rcases List.mem_cons.mp (p.mem_iff.mpr (List.mem_cons_self ..)) with e | h2
          · exact e.symm
          · exact anti x y (ha'.1 y h2) (hb'.1 x h1)
      subst e
      rw [sorted_eq anti ha'.2 hb'.2 (List.Perm.cons_inv p)]
theorem cLe_anti {q n : Nat} {a b : List (List Int)} (h1 : cLe q n a b = true) (h2 : cLe q n b a = true) : a = b := by
  rw [cLe_eq, Bool.not_eq_true'] at h1 h2
  exact cLt_total h2 h1
/-- codes in any order: sorted they are the same -/
theorem sort_perm {q n : Nat} {a b : List (List (List Int))} (p : a.Perm b) : a.mergeSort (cLe q n) = b.mergeSort (cLe q n) :=
  sorted_eq (fun _ _ => cLe_anti) (sort_pairwise (cLe_total q n) a) (sort_pairwise (cLe_total q n) b) ((List.mergeSort_perm a _).trans (p.trans (List.mergeSort_perm b _).symm))
/-- unlike codes, sorted: each ahead of the next -/
theorem sort_strict {q n : Nat} {a : List (List (List Int))} (nd : a.Nodup) : (a.mergeSort (cLe q n)).Pairwise fun x y => cLt q n x y = true := by
  have h1 := sort_pairwise (cLe_total q n) a
  have h2 : (a.mergeSort (cLe q n)).Nodup := (List.mergeSort_perm a _).symm.nodup nd
  refine (h1.and (List.nodup_iff_pairwise_ne.mp h2)).imp fun {x y} h => ?_
  cases c : cLt q n x y with
  | true => rfl
  | false =>
    have h3 := h.1
    rw [cLe_eq, Bool.not_eq_true'] at h3
    exact absurd (cLt_total c h3) h.2
/-- members and no twice: one order of the other -/
theorem perm_of {α : Type} [DecidableEq α] : ∀ {a b : List α}, a.Nodup → b.Nodup → (∀ x, x ∈ a ↔ x ∈ b) → a.Perm b
  | [], b, _, _, m => by
    cases b with
    | nil => exact .nil
    | cons y b => exact absurd ((m y).mpr (List.mem_cons_self ..)) (by simp)
  | x :: a, b, ha, hb, m => by
    have ha' := List.nodup_cons.mp ha
    have hx := (m x).mp (List.mem_cons_self ..)
    have p := List.perm_cons_erase hx
    refine (List.Perm.cons x (perm_of (b := b.erase x) ha'.2 (hb.erase x) fun z => ?_)).trans p.symm
    rw [hb.mem_erase_iff]
    constructor
    · intro h
      exact ⟨fun e => ha'.1 (e ▸ h), (m z).mp (List.mem_cons_of_mem _ h)⟩
    · intro h
      rcases List.mem_cons.mp ((m z).mpr h.2) with e | h'
      · exact absurd e h.1
      · exact h'
end Own

/-! All neighbours: by worths with the rows. -/
namespace Own
theorem emod_mix (q : Nat) (a x y : Int) : (a + (x % (q : Int) + -1 * (y % (q : Int)))) % (q : Int) = (a + (x + -1 * y)) % (q : Int) := by
  rw [Int.emod_def x, Int.emod_def y]
  have : a + (x - (q : Int) * (x / (q : Int)) + -1 * (y - (q : Int) * (y / (q : Int)))) = a + (x + -1 * y) + (q : Int) * (y / (q : Int) - x / (q : Int)) := by grind
  rw [this, Int.add_mul_emod_self_left]
/-- the row with these letters at the first places -/
def uP (n : Nat) (rows : List (List Int)) (w : List Int) (m : Nat) : List Int := (List.range m).foldl (fun r i => if w.getD i 0 ≠ 0 then r.set (firstF (rows.getD i [])) (w.getD i 0) else r) (List.replicate n 0)
def uF (n : Nat) (rows : List (List Int)) (w : List Int) : List Int := uP n rows w rows.length
def lastOf (w : List Int) (i : Nat) : Prop := i < w.length ∧ w.getD i 0 ≠ 0 ∧ ∀ j, i < j → w.getD j 0 = 0
def candR (q n : Nat) (rows : List (List Int)) (w : List Int) (i m : Nat) : List Int := plusF q (uF n rows w) (rows.getD i []) (m : Int)
section
variable {q n : Nat} {rows rows' : List (List Int)} {w w' row : List Int} {i i' m m' : Nat} {s : Srt}
theorem uP_succ (m : Nat) : uP n rows w (m + 1) = if w.getD m 0 ≠ 0 then (uP n rows w m).set (firstF (rows.getD m [])) (w.getD m 0) else uP n rows w m := by
  unfold uP
  rw [List.range_succ, List.foldl_append]
  rfl
theorem uP_len : ∀ m : Nat, (uP n rows w m).length = n
  | 0 => by simp [uP]
  | m + 1 => by
    rw [uP_succ]
    split
    · rw [List.length_set, uP_len m]
    · exact uP_len m
theorem getD_row (h : i < rows.length) : rows.getD i [] = rows[i] := by rw [List.getD_eq_getElem?_getD, List.getElem?_eq_getElem h]; rfl
theorem rowD_mem (h : i < rows.length) : rows.getD i [] ∈ rows := by
  rw [getD_row h]
  exact List.getElem_mem _
theorem Red.first_inj (hR : Red q n rows) (hi : i < rows.length) (hj : i' < rows.length) (e : firstF (rows.getD i []) = firstF (rows.getD i' [])) : i = i' := by
  have off := List.pairwise_iff_getElem.mp hR.off
  rcases Nat.lt_trichotomy i i' with h | h | h
  · have h1 := (off i i' hi hj h).1
    rw [getD_row hi, getD_row hj] at e
    rw [← e, (hR.fst _ (List.getElem_mem hi)).2] at h1
    cases h1
  · exact h
  · have h1 := (off i' i hj hi h).1
    rw [getD_row hi, getD_row hj] at e
    rw [e, (hR.fst _ (List.getElem_mem hj)).2] at h1
    cases h1
theorem set_getD {xs : List Int} {p j : Nat} {v : Int} : (xs.set p v).getD j 0 = if p = j ∧ j < xs.length then v else xs.getD j 0 := by
  rw [List.getD_eq_getElem?_getD, List.getElem?_set]
  by_cases c : p = j
  · subst c
    by_cases h : p < xs.length
    · rw [if_pos rfl, if_pos h, if_pos ⟨rfl, h⟩]
      rfl
    · rw [if_pos rfl, if_neg h, if_neg fun z => h z.2, getD_over (by omega)]
      rfl
  · rw [if_neg c, if_neg fun z => c z.1, ← List.getD_eq_getElem?_getD]
theorem uP_at (hR : Red q n rows) (hi : i < rows.length) : ∀ m : Nat, m ≤ rows.length → (uP n rows w m).getD (firstF (rows.getD i [])) 0 = if i < m then w.getD i 0 else 0
  | 0, _ => by
    show (List.replicate n (0 : Int)).getD _ 0 = _
    rw [rep_at, if_neg (by omega)]
  | m + 1, hm => by
    have ih := uP_at hR hi m (by omega)
    have fi := (hR.fst _ (rowD_mem hi)).1
    rw [uP_succ]
    by_cases c : w.getD m 0 = 0
    · rw [if_neg (by simpa using c), ih]
      by_cases e : i = m
      · subst e
        rw [if_neg (by omega), if_pos (by omega), c]
      · by_cases l : i < m
        · rw [if_pos l, if_pos (by omega)]
        · rw [if_neg l, if_neg (by omega)]
    · rw [if_pos c, set_getD, uP_len]
      by_cases e : i = m
      · subst e
        rw [if_pos ⟨rfl, fi⟩, if_pos (by omega)]
      · rw [if_neg fun z => e (hR.first_inj hi (by omega) z.1.symm), ih]
        by_cases l : i < m
        · rw [if_pos l, if_pos (by omega)]
        · rw [if_neg l, if_neg (by omega)]
theorem uP_off {j : Nat} (ne : ∀ r ∈ rows, firstF r ≠ j) : ∀ m : Nat, m ≤ rows.length → (uP n rows w m).getD j 0 = 0
  | 0, _ => rep_at n j
  | m + 1, hm => by
    rw [uP_succ]
    split
    · rw [set_getD, if_neg fun z => ne _ (rowD_mem (by omega)) z.1]
      exact uP_off ne m (by omega)
    · exact uP_off ne m (by omega)
theorem uF_at (hR : Red q n rows) (hi : i < rows.length) : (uF n rows w).getD (firstF (rows.getD i [])) 0 = w.getD i 0 := by
  unfold uF
  rw [uP_at hR hi _ (Nat.le_refl _), if_pos hi]
theorem uF_off {j : Nat} (ne : ∀ r ∈ rows, firstF r ≠ j) : (uF n rows w).getD j 0 = 0 := uP_off ne _ (Nat.le_refl _)
theorem row_cases (rows : List (List Int)) (j : Nat) : (∀ r ∈ rows, firstF r ≠ j) ∨ ∃ i, i < rows.length ∧ firstF (rows.getD i []) = j := by
  by_cases c : ∀ r ∈ rows, firstF r ≠ j
  · exact .inl c
  · obtain ⟨r, hr, e⟩ : ∃ r ∈ rows, firstF r = j := Classical.byContradiction fun no => c fun r hr e => no ⟨r, hr, e⟩
    obtain ⟨i, hi, rfl⟩ := List.getElem_of_mem hr
    exact .inr ⟨i, hi, by rw [getD_row hi]; exact e⟩
theorem uF_ok (hq : 0 < q) (hR : Red q n rows) (hw : RowOk q rows.length w) : RowOk q n (uF n rows w) := by
  refine ⟨uP_len _, fun x hx => ?_⟩
  obtain ⟨j, hj, rfl⟩ := List.getElem_of_mem hx
  have e : (uF n rows w).getD j 0 = (uF n rows w)[j] := by rw [List.getD_eq_getElem?_getD, List.getElem?_eq_getElem hj]; rfl
  rw [← e]
  rcases row_cases rows j with c | ⟨i, hi, rfl⟩
  · rw [uF_off c]
    omega
  · rw [uF_at hR hi]
    exact hw.at i hq
/-- its worths with the rows -/
theorem uF_worth (hq : 0 < q) (hR : Red q n rows) (hw : RowOk q rows.length w) (hi : i < rows.length) : worthF q (uF n rows w) (rows.getD i []) = w.getD i 0 := by
  have fi := hR.fst _ (rowD_mem hi)
  unfold worthF
  rw [dot_sumN (uF_ok hq hR hw).1, sumN_one n (firstF (rows.getD i [])) fi.1 fun j hj ne => ?_]
  · rw [uF_at hR hi, fi.2, Int.mul_one, hw.mod i hq]
  · rcases row_cases rows j with c | ⟨l, hl, rfl⟩
    · rw [uF_off c, Int.zero_mul]
    · rw [hR.at_first (rowD_mem hi) (rowD_mem hl), if_neg fun z => ne (by rw [z]), Int.mul_zero]
theorem set_weight : ∀ {xs : List Int} {p : Nat} {v : Int}, p < xs.length → xs.getD p 0 = 0 → v ≠ 0 → weightF (xs.set p v) = weightF xs + 1
  | [], p, v, h, _, _ => by cases h
  | x :: xs, 0, v, _, z, nv => by
    have cl := List.count_le_length (a := (0 : Int)) (l := xs)
    have z' : x = 0 := z
    unfold weightF
    rw [List.set_cons_zero, List.length_cons, List.length_cons, List.count_cons, List.count_cons]
    simp [nv, z']
    omega
  | x :: xs, p + 1, v, h, z, nv => by
    have ih := set_weight (xs := xs) (p := p) (v := v) (by simpa using h) (by simpa using z) nv
    have cl := List.count_le_length (a := (0 : Int)) (l := xs)
    have cl2 := List.count_le_length (a := (0 : Int)) (l := xs.set p v)
    unfold weightF at ih ⊢
    rw [List.length_set] at ih cl2
    rw [List.set_cons_succ, List.length_cons, List.length_cons, List.length_set, List.count_cons, List.count_cons]
    split <;> omega
theorem weight_take {w : List Int} {m : Nat} (h : m < w.length) : weightF (w.take (m + 1)) = weightF (w.take m) + if w.getD m 0 = 0 then 0 else 1 := by
  have e : w[m]? = some (w.getD m 0) := by rw [List.getD_eq_getElem?_getD, List.getElem?_eq_getElem h]; rfl
  have cl := List.count_le_length (a := (0 : Int)) (l := w.take m)
  have tl : (w.take m).length = m := by rw [List.length_take]; omega
  have cs : ([w.getD m 0] : List Int).count 0 = if w.getD m 0 = 0 then 1 else 0 := by
    by_cases c : w.getD m 0 = 0
    · rw [c]
      rfl
    · rw [if_neg c, List.count_cons, if_neg (by simpa using c)]
      rfl
  unfold weightF
  rw [List.take_add_one, e, Option.toList_some, List.length_append, List.count_append, cs, List.length_singleton]
  split <;> omega
theorem uP_weight (hR : Red q n rows) (hw : w.length = rows.length) : ∀ m : Nat, m ≤ rows.length → weightF (uP n rows w m) = weightF (w.take m)
  | 0, _ => by simp [uP, weightF]
  | m + 1, hm => by
    have ih := uP_weight hR hw m (by omega)
    have fm := (hR.fst _ (rowD_mem (show m < rows.length by omega))).1
    rw [uP_succ, weight_take (by omega)]
    by_cases c : w.getD m 0 = 0
    · rw [if_neg (by simpa using c), if_pos c, ih]
      rfl
    · rw [if_pos c, if_neg c, set_weight (by rw [uP_len]; exact fm) (by rw [uP_at hR (by omega) m (by omega), if_neg (by omega)]) c, ih]
theorem uF_weight (hR : Red q n rows) (hw : w.length = rows.length) : weightF (uF n rows w) = weightF w := by
  unfold uF
  rw [uP_weight hR hw _ (Nat.le_refl _), ← hw, List.take_length]
/-! ### a row of these worths -/
theorem cand_ok (hq : 0 < q) (hR : Red q n rows) (hw : RowOk q rows.length w) : RowOk q n (candR q n rows w i m) := plusF_ok hq (uF_ok hq hR hw).1
theorem cand_worth (h : IsOwn s n rows) (hw : RowOk s.q rows.length w) (hi : i < rows.length) {j : Nat} (hj : j < rows.length) : worthF s.q (candR s.q n rows w i m) (rows.getD j []) = w.getD j 0 := by
  have q0 := s.q_pos
  unfold candR
  rw [worth_plus (uF_ok q0 h.red hw).1 (h.red.ok _ (rowD_mem hi)).1, uF_worth q0 h.red hw hj, h.ins _ (rowD_mem hi) _ (rowD_mem hj), Int.mul_zero, Int.add_zero]
  exact hw.mod j q0
theorem cand_no (h : IsOwn s n rows) (hw : RowOk s.q rows.length w) (l : lastOf w i) : ¬ Sp s.q n rows (candR s.q n rows w i m) := fun g => by
  have hi : i < rows.length := by rw [← hw.1]; exact l.1
  have z := h.zero g (Sp.mem s.q_pos (h.red.ok _ (rowD_mem hi)) (rowD_mem hi))
  rw [cand_worth h hw hi hi] at z
  exact l.2.1 z
/-- a last one that is not 0 -/
theorem last_ex : ∀ w : List Int, (∃ j, w.getD j 0 ≠ 0) → ∃ i, lastOf w i := by
  refine snoc_ind ?_ ?_
  · rintro ⟨j, hj⟩
    exact absurd (getD_over (Nat.zero_le _)) hj
  · intro l x ih h
    by_cases c : x = 0
    · have gd : ∀ j, (l ++ [x]).getD j 0 = l.getD j 0 := fun j => by
        rcases Nat.lt_or_ge j l.length with g | g
        · rw [List.getD_eq_getElem?_getD, List.getElem?_append_left g, ← List.getD_eq_getElem?_getD]
        · rw [List.getD_eq_getElem?_getD, List.getElem?_append_right g, getD_over g, c]
          cases j - l.length <;> rfl
      obtain ⟨j, hj⟩ := h
      rw [gd] at hj
      obtain ⟨i, h1, h2, h3⟩ := ih ⟨j, hj⟩
      exact ⟨i, by rw [List.length_append]; omega, by rw [gd]; exact h2, fun j hj => by rw [gd]; exact h3 j hj⟩
    · have e : (l ++ [x]).getD l.length 0 = x := by
        rw [List.getD_eq_getElem?_getD, List.getElem?_append_right (Nat.le_refl _), Nat.sub_self]
        rfl
      exact ⟨l.length, by rw [List.length_append]; simp, by rw [e]; exact c, fun j hj => getD_over (by rw [List.length_append]; simp only [List.length_singleton]; omega)⟩
theorem last_one (a : lastOf w i) (b : lastOf w i') : i = i' := by
  rcases Nat.lt_trichotomy i i' with h | h | h
  · exact absurd (a.2.2 _ h) b.2.1
  · exact h
  · exact absurd (b.2.2 _ h) a.2.1
/-- every neighbour is led to by one of these rows -/
theorem cand_surj (h : IsOwn s n rows) (hr : RowOk s.q n row) (ft : fitW s row) (no : ¬ Sp s.q n rows row) : ∃ w i m, RowOk s.q rows.length w ∧ lastOf w i ∧ w.getD i 0 = 1 ∧ m < s.q ∧ fitW s (candR s.q n rows w i m) ∧ ∀ rows', NbR s.q n rows row rows' → NbR s.q n rows (candR s.q n rows w i m) rows' := by
  have q0 := s.q_pos
  have q23 := s.q23
  -- its worths with the rows
  let t : List Int := rows.map fun r => worthF s.q row r
  have tl : t.length = rows.length := List.length_map ..
  have ta : ∀ j, j < rows.length → t.getD j 0 = worthF s.q row (rows.getD j []) := fun j hj => by
    show (rows.map _).getD j 0 = _
    rw [getD_map' (d := []) _ hj]
  obtain ⟨i, li⟩ := last_ex t (by
    obtain ⟨r, hm, nz⟩ := h.some hr no
    obtain ⟨j, hj, rfl⟩ := List.getElem_of_mem hm
    refine ⟨j, ?_⟩
    rw [ta j hj, getD_row hj, worth_comm hr.1 (h.red.ok _ (List.getElem_mem hj)).1]
    exact nz)
  have il : i < rows.length := by rw [← tl]; exact li.1
  have ai := ta i il
  have arg := worth_rng (q := s.q) (a := row) (b := rows.getD i []) q0
  have anz := li.2.1
  rw [ai] at anz
  have aa := unit_worth q23 arg anz
  generalize hA : worthF s.q row (rows.getD i []) = a at *
  let w : List Int := t.map fun x => (a * x) % (s.q : Int)
  have wl : w.length = rows.length := by
    show (t.map _).length = _
    rw [List.length_map, tl]
  have wa : ∀ j, w.getD j 0 = (a * t.getD j 0) % (s.q : Int) := fun j => by
    rcases Nat.lt_or_ge j t.length with g | g
    · show (t.map _).getD j 0 = _
      rw [getD_map' (d := 0) _ g]
    · rw [getD_over (by rw [wl, ← tl]; exact g), getD_over g, Int.mul_zero]
      rfl
  have wo : RowOk s.q rows.length w := by
    refine ⟨wl, fun x hx => ?_⟩
    obtain ⟨y, _, rfl⟩ := List.mem_map.mp hx
    exact ⟨Int.emod_nonneg _ (by omega), Int.emod_lt_of_pos _ (by omega)⟩
  have wi1 : w.getD i 0 = 1 := by rw [wa, ai, aa]
  have lw : lastOf w i := ⟨by rw [wl]; exact il, by rw [wi1]; decide, fun j hj => by
    rw [wa, li.2.2 j hj, Int.mul_zero]
    rfl⟩
  -- a times the row
  have ht : 0 ≤ a - 1 ∧ a - 1 + 1 < (s.q : Int) := by omega
  obtain ⟨o1, w1, _⟩ := alike_row q23 hr ht
  have uo := uF_ok q0 h.red wo
  generalize hU : uF n rows w = u at uo
  have uw : ∀ j, j < rows.length → worthF s.q u (rows.getD j []) = w.getD j 0 := fun j hj => by rw [← hU]; exact uF_worth q0 h.red wo hj
  have od : RowOk s.q n (plusF s.q (plusF s.q row row (a - 1)) u (-1)) := plusF_ok q0 o1.1
  have sd : Sp s.q n rows (plusF s.q (plusF s.q row row (a - 1)) u (-1)) := h.all od fun r hm => by
    obtain ⟨j, hj, rfl⟩ := List.getElem_of_mem hm
    rw [← getD_row hj]
    have oj := h.red.ok _ (rowD_mem hj)
    rw [worth_comm oj.1 od.1, worth_plus o1.1 uo.1, worth_comm o1.1 oj.1, w1 _ oj.1, worth_comm oj.1 hr.1, uw j hj, wa, ta j hj]
    have : (1 + (a - 1)) * worthF s.q row (rows.getD j []) = a * worthF s.q row (rows.getD j []) := by grind
    rw [this]
    have z : ∀ x : Int, (x + -1 * x) % (s.q : Int) = 0 := fun x => by
      rw [show x + -1 * x = 0 by omega]
      rfl
    exact z _
  generalize hD : plusF s.q (plusF s.q row row (a - 1)) u (-1) = d at od sd
  have lo := h.red.ok _ (rowD_mem il)
  let m : Nat := ((worthF s.q d row * a) % (s.q : Int)).toNat
  have m0 := Int.emod_nonneg (worthF s.q d row * a) (show (s.q : Int) ≠ 0 by omega)
  have m1 := Int.emod_lt_of_pos (worthF s.q d row * a) (show (0 : Int) < s.q by omega)
  have mm : (m : Int) = (worthF s.q d row * a) % (s.q : Int) := by
    show ((((worthF s.q d row * a) % (s.q : Int)).toNat : Nat) : Int) = _
    omega
  have sz : Sp s.q n rows (plusF s.q (List.replicate n 0) (rows.getD i []) (m : Int)) := Sp.zero.add _ (rowD_mem il)
  have sc : Sp s.q n rows (plusF s.q (plusF s.q (List.replicate n 0) (rows.getD i []) (m : Int)) d (-1)) := sz.plus q0 h.red.ok sd (-1)
  have zc : worthF s.q (plusF s.q (plusF s.q (List.replicate n 0) (rows.getD i []) (m : Int)) d (-1)) row = 0 := by
    rw [worth_plus (sz.ok q0).1 od.1, worth_plus (List.length_replicate ..) lo.1, worth_zero, Int.zero_add, worth_comm lo.1 hr.1, hA, mm]
    have drg := worth_rng (q := s.q) (a := d) (b := row) q0
    generalize worthF s.q d row = y at drg
    have h1 : ((y * a) % (s.q : Int) * a) % (s.q : Int) = y % (s.q : Int) := by
      rw [Int.mul_emod, Int.emod_emod, ← Int.mul_emod, Int.mul_assoc, Int.mul_emod, aa, Int.mul_one, Int.emod_emod]
    rw [h1, Int.emod_eq_of_lt drg.1 drg.2, show y + -1 * y = 0 by omega]
    rfl
  have ce : candR s.q n rows w i m = plusF s.q (plusF s.q row row (a - 1)) (plusF s.q (plusF s.q (List.replicate n 0) (rows.getD i []) (m : Int)) d (-1)) 1 := by
    unfold candR
    rw [hU]
    have key : ∀ r1 : List Int, RowOk s.q n r1 → plusF s.q r1 u (-1) = d → plusF s.q u (rows.getD i []) (m : Int) = plusF s.q r1 (plusF s.q (plusF s.q (List.replicate n 0) (rows.getD i []) (m : Int)) d (-1)) 1 := fun r1 o1 hD => by
      refine row_ext (n := n) (by rw [plusF_len, uo.1]) (by rw [plusF_len, o1.1]) fun j => ?_
      have dj : d.getD j 0 = (r1.getD j 0 + -1 * u.getD j 0) % (s.q : Int) := by
        rw [← hD, plusF_at (by rw [o1.1, uo.1])]
      rw [plusF_at (by rw [uo.1, lo.1]), plusF_at (by rw [o1.1, (sc.ok q0).1]), plusF_at (by rw [(sz.ok q0).1, od.1]), plusF_at (by rw [List.length_replicate, lo.1]), rep_at, dj, Int.one_mul, Int.zero_add, Int.add_emod_emod, emod_mix]
      congr 1
      grind
    exact key _ o1 hD
  refine ⟨w, i, m, wo, lw, wi1, by omega, ?_, fun rows' nb => ?_⟩
  · rw [ce]
    exact (alike_ok h hr ft no sc zc ht).fit
  · rw [ce]
    exact alike_nb h hr sc zc ht nb
/-- unlike rows of these lead to unlike codes -/
theorem cand_inj (h : IsOwn s n rows) (hw : RowOk s.q rows.length w) (l : lastOf w i) (w1 : w.getD i 0 = 1) (hm : m < s.q) (hw' : RowOk s.q rows.length w') (l' : lastOf w' i') (w1' : w'.getD i' 0 = 1) (hm' : m' < s.q) (nb : NbR s.q n rows (candR s.q n rows w i m) rows') (nb' : NbR s.q n rows (candR s.q n rows w' i' m') rows') : w = w' ∧ m = m' := by
  have q0 := s.q_pos
  have il : i < rows.length := by rw [← hw.1]; exact l.1
  have il' : i' < rows.length := by rw [← hw'.1]; exact l'.1
  have oc := cand_ok (i := i) (m := m) q0 h.red hw
  have oc' := cand_ok (i := i') (m := m') q0 h.red hw'
  have lo := h.red.ok _ (rowD_mem il)
  have self : Sp s.q n rows' (candR s.q n rows w' i' m') := (nb'.span _).mpr ⟨_, 1, Sp.zero, worth_zero, (zero_plus q0 oc').symm⟩
  obtain ⟨c, mu, hc, zc, e⟩ := (nb.span _).mp self
  have coo := hc.ok q0
  have rel : ∀ j, j < rows.length → w'.getD j 0 = (mu * w.getD j 0) % (s.q : Int) := fun j hj => by
    rw [← cand_worth (m := m') h hw' il' hj, e, worth_plus coo.1 oc.1, h.zero hc (Sp.mem q0 (h.red.ok _ (rowD_mem hj)) (rowD_mem hj)), Int.zero_add, cand_worth h hw il hj]
  have ii : i = i' := by
    rcases Nat.lt_trichotomy i i' with g | g | g
    · have := rel i' il'
      rw [l.2.2 _ g, Int.mul_zero] at this
      exact absurd this l'.2.1
    · exact g
    · have h1 := rel i il
      rw [l'.2.2 _ g, w1, Int.mul_one] at h1
      have h2 := rel i' il'
      rw [w1', Int.mul_emod, ← h1, Int.zero_mul] at h2
      cases h2
  subst ii
  have mu1 : mu % (s.q : Int) = 1 := by
    have := rel i il
    rw [w1, w1', Int.mul_one] at this
    exact this.symm
  have we : w = w' := by
    refine row_ext (n := rows.length) hw.1 hw'.1 fun j => ?_
    by_cases hj : j < rows.length
    · rw [rel j hj, Int.mul_emod, mu1, Int.one_mul, Int.emod_emod, hw.mod j q0]
    · rw [getD_over (by rw [hw.1]; omega), getD_over (by rw [hw'.1]; omega)]
  subst we
  refine ⟨rfl, ?_⟩
  -- c is (m' - m) times the last row
  have ce : c = plusF s.q (List.replicate n 0) (rows.getD i []) ((m' : Int) - (m : Int)) := by
    refine row_ext (n := n) coo.1 (by rw [plusF_len, List.length_replicate]) fun j => ?_
    have h1 := congrArg (fun z : List Int => z.getD j 0) e
    try dsimp only at h1
    have uo := uF_ok q0 h.red hw
    rw [plusF_at (by rw [coo.1, oc.1])] at h1
    unfold candR at h1
    rw [plusF_at (by rw [uo.1, lo.1]), plusF_at (by rw [uo.1, lo.1])] at h1
    rw [plusF_at (by rw [List.length_replicate, lo.1]), rep_at, Int.zero_add, ← coo.mod j q0]
    generalize c.getD j 0 = x at *
    generalize (uF n rows w).getD j 0 = u at *
    generalize (rows.getD i []).getD j 0 = y at *
    have h2 : (x + mu * ((u + (m : Int) * y) % (s.q : Int))) % (s.q : Int) = (x + (u + (m : Int) * y)) % (s.q : Int) := by
      rw [Int.add_emod, Int.mul_emod, mu1, Int.one_mul, Int.emod_emod, Int.emod_emod, ← Int.add_emod]
    rw [h2] at h1
    rw [Int.emod_eq_emod_iff_emod_sub_eq_zero] at h1 ⊢
    have d1 := Int.dvd_of_emod_eq_zero h1
    have : x - ((m' : Int) - (m : Int)) * y = -(u + (m' : Int) * y - (x + (u + (m : Int) * y))) := by grind
    rw [this]
    exact Int.emod_eq_zero_of_dvd (Int.dvd_neg.mpr d1)
  have zz := zc
  rw [ce, worth_plus (List.length_replicate ..) lo.1, worth_zero, Int.zero_add, worth_comm lo.1 oc.1, cand_worth h hw il il, w1, Int.mul_one] at zz
  rcases s.q23 with g | g <;> rw [g] at zz hm hm' <;> omega
end
end Own

/-! All neighbours, counted and in order. -/
namespace Own
open PySem PySem.W
/-- the last that is not 0 -/
def lastF (w : List Int) : Nat := (List.range w.length).foldl (fun l i => if w.getD i 0 ≠ 0 then i else l) 0
theorem last_fold (w : List Int) : ∀ k : Nat, k ≤ w.length → (∃ j, j < k ∧ w.getD j 0 ≠ 0) → (List.range k).foldl (fun l i => if w.getD i 0 ≠ 0 then i else l) 0 < k ∧ w.getD ((List.range k).foldl (fun l i => if w.getD i 0 ≠ 0 then i else l) 0) 0 ≠ 0 ∧ ∀ j, (List.range k).foldl (fun l i => if w.getD i 0 ≠ 0 then i else l) 0 < j → j < k → w.getD j 0 = 0
  | 0, _, h => by
    obtain ⟨j, hj, _⟩ := h
    omega
  | k + 1, hk, h => by
    have st : (List.range (k + 1)).foldl (fun l i => if w.getD i 0 ≠ 0 then i else l) 0 = if w.getD k 0 ≠ 0 then k else (List.range k).foldl (fun l i => if w.getD i 0 ≠ 0 then i else l) 0 := by
      rw [List.range_succ, List.foldl_append]
      rfl
    rw [st]
    by_cases c : w.getD k 0 = 0
    · rw [if_neg (by simpa using c)]
      obtain ⟨j, hj, nz⟩ := h
      have jk : j < k := Nat.lt_of_le_of_ne (by omega) fun e => nz (e ▸ c)
      obtain ⟨h1, h2, h3⟩ := last_fold w k (by omega) ⟨j, jk, nz⟩
      refine ⟨by omega, h2, fun j' g1 g2 => ?_⟩
      by_cases e : j' = k
      · rw [e]
        exact c
      · exact h3 j' g1 (by omega)
    · rw [if_pos c]
      exact ⟨by omega, c, fun j' g1 g2 => by omega⟩
theorem lastF_of {w : List Int} (h : ∃ j, w.getD j 0 ≠ 0) : lastOf w (lastF w) := by
  obtain ⟨j, nz⟩ := h
  have jl : j < w.length := Nat.lt_of_not_le fun g => nz (getD_over g)
  obtain ⟨h1, h2, h3⟩ := last_fold w w.length (Nat.le_refl _) ⟨j, jl, nz⟩
  exact ⟨h1, h2, fun j' hj => by
    rcases Nat.lt_or_ge j' w.length with g | g
    · exact h3 j' hj g
    · exact getD_over g⟩
def Ended (w : List Int) : Prop := ∃ i, lastOf w i ∧ w.getD i 0 = 1
theorem Ended.last {w : List Int} (h : Ended w) : lastOf w (lastF w) ∧ w.getD (lastF w) 0 = 1 := by
  obtain ⟨i, l, e⟩ := h
  have := lastF_of ⟨i, l.2.1⟩
  rw [last_one this l]
  exact ⟨l, e⟩
section
variable {q n k : Nat} {rows rows' : List (List Int)} {w w' row : List Int} {i m m' : Nat} {s : Srt}
/-! ### the rows of some worths -/
def candF (s : Srt) (n : Nat) (rows : List (List Int)) (w : List Int) (m : Nat) : List Int := candR s.q n rows w (lastF w) m
instance (s : Srt) (row : List Int) : Decidable (fitW s row) := inferInstanceAs (Decidable (_ = _))
def msF (s : Srt) (n : Nat) (rows : List (List Int)) (w : List Int) : List Nat := (List.range s.q).filter fun m => decide (fitW s (candF s n rows w m))
theorem ms_mem : m ∈ msF s n rows w ↔ m < s.q ∧ fitW s (candF s n rows w m) := by
  unfold msF
  rw [List.mem_filter, List.mem_range, decide_eq_true_eq]
theorem cand_self (h : IsOwn s n rows) (hw : RowOk s.q rows.length w) (l : lastOf w i) (w1 : w.getD i 0 = 1) (m : Nat) : worthF s.q (candR s.q n rows w i m) (candR s.q n rows w i m) = (worthF s.q (uF n rows w) (uF n rows w) + 2 * (m : Int)) % (s.q : Int) := by
  have q0 := s.q_pos
  have il : i < rows.length := by rw [← hw.1]; exact l.1
  have uo := uF_ok q0 h.red hw
  have lo := h.red.ok _ (rowD_mem il)
  have oc := cand_ok (i := i) (m := m) q0 h.red hw
  have e1 : worthF s.q (uF n rows w) (rows.getD i []) = 1 := by rw [uF_worth q0 h.red hw il, w1]
  have e2 := cand_worth (m := m) h hw il il
  rw [w1] at e2
  have h1 : worthF s.q (candR s.q n rows w i m) (candR s.q n rows w i m) = (worthF s.q (uF n rows w) (candR s.q n rows w i m) + (m : Int) * worthF s.q (rows.getD i []) (candR s.q n rows w i m)) % (s.q : Int) := by
    conv => lhs; unfold candR
    rw [worth_plus uo.1 lo.1]
    rfl
  rw [h1, worth_comm lo.1 oc.1, e2, worth_comm uo.1 oc.1]
  unfold candR
  rw [worth_plus uo.1 lo.1, worth_comm lo.1 uo.1, e1, Int.emod_add_emod]
  congr 1
  grind
theorem u_self2 (h : Red 2 n rows) (hw : RowOk 2 rows.length w) : worthF 2 (uF n rows w) (uF n rows w) = (weightF w : Int) % 2 := by
  show dotF _ _ % ((2 : Nat) : Int) = _
  rw [dot_self (uF_ok (by decide) h hw), uF_weight h hw.1]
  rfl
theorem u_self3 (h : Red 3 n rows) (hw : RowOk 3 rows.length w) : worthF 3 (uF n rows w) (uF n rows w) = (weightF w : Int) % 3 := by
  rw [← weight3 (uF_ok (by decide) h hw), uF_weight h hw.1]
/-- of two letters: as many as fit are even -/
theorem ms_even (h : IsOwn s n rows) (q2 : s.q = 2) (hw : RowOk s.q rows.length w) (e : Ended w) (hm : m ∈ msF s n rows w) : weightF w % 2 = 0 := by
  obtain ⟨l, w1⟩ := e.last
  obtain ⟨_, ft⟩ := ms_mem.mp hm
  have z := fit_self ft (cand_ok s.q_pos h.red hw)
  have z2 := cand_self h hw l w1 m
  unfold candF at z
  rw [z2] at z
  have hR := h.red
  rw [q2] at z hR hw
  rw [u_self2 hR hw] at z
  omega
theorem fit_two (hr : RowOk 2 n row) : fitW .two row ↔ worthF 2 row row = 0 := ⟨fun h => fit_self (s := .two) (n := n) h hr, fun h => self_fit (s := .two) (n := n) (by decide) hr h⟩
theorem ms_two (h : IsOwn .two n rows) (hw : RowOk 2 rows.length w) (e : Ended w) (ev : weightF w % 2 = 0) : msF .two n rows w = [0, 1] := by
  obtain ⟨l, w1⟩ := e.last
  have ft : ∀ m, fitW .two (candF .two n rows w m) := fun m => by
    have oc := cand_ok (i := lastF w) (m := m) (by decide : 0 < 2) h.red hw
    refine (fit_two oc).mpr ?_
    have z := cand_self (s := .two) h hw l w1 m
    have u := u_self2 h.red hw
    show worthF 2 (candR 2 n rows w (lastF w) m) (candR 2 n rows w (lastF w) m) = 0
    have z' : worthF 2 (candR 2 n rows w (lastF w) m) (candR 2 n rows w (lastF w) m) = (worthF 2 (uF n rows w) (uF n rows w) + 2 * (m : Int)) % ((2 : Nat) : Int) := z
    rw [z', u]
    omega
  unfold msF
  rw [List.filter_eq_self.mpr fun m _ => decide_eq_true (ft m)]
  rfl
theorem ms_three (h : IsOwn .three n rows) (hw : RowOk 3 rows.length w) (e : Ended w) : msF .three n rows w = [weightF w % 3] := by
  obtain ⟨l, w1⟩ := e.last
  have ft : ∀ m : Nat, m < 3 → (fitW .three (candF .three n rows w m) ↔ m = weightF w % 3) := fun m hm => by
    have oc := cand_ok (i := lastF w) (m := m) (by decide : 0 < 3) h.red hw
    have z := cand_self (s := .three) h hw l w1 m
    have u := u_self3 h.red hw
    have z' : worthF 3 (candR 3 n rows w (lastF w) m) (candR 3 n rows w (lastF w) m) = (worthF 3 (uF n rows w) (uF n rows w) + 2 * (m : Int)) % ((3 : Nat) : Int) := z
    rw [u] at z'
    have f : fitW .three (candF .three n rows w m) ↔ worthF 3 (candR 3 n rows w (lastF w) m) (candR 3 n rows w (lastF w) m) = 0 := ⟨fun h => fit_self (s := .three) (n := n) h oc, fun h => self_fit (s := .three) (n := n) (by decide) oc h⟩
    rw [f, z']
    constructor
    · intro g
      omega
    · intro g
      omega
  unfold msF
  have r3 : List.range (Srt.q .three) = [0, 1, 2] := rfl
  rw [r3]
  have c : weightF w % 3 = 0 ∨ weightF w % 3 = 1 ∨ weightF w % 3 = 2 := by omega
  have d0 : decide (fitW .three (candF .three n rows w 0)) = decide (0 = weightF w % 3) := decide_eq_decide.mpr (ft 0 (by decide))
  have d1 : decide (fitW .three (candF .three n rows w 1)) = decide (1 = weightF w % 3) := decide_eq_decide.mpr (ft 1 (by decide))
  have d2 : decide (fitW .three (candF .three n rows w 2)) = decide (2 = weightF w % 3) := decide_eq_decide.mpr (ft 2 (by decide))
  rw [List.filter_cons, List.filter_cons, List.filter_cons, List.filter_nil, d0, d1, d2]
  rcases c with c | c | c <;> rw [c] <;> rfl
theorem ms_twice (h : IsOwn .twice n rows) (hw : RowOk 2 rows.length w) (e : Ended w) (ev : weightF w % 2 = 0) : (msF .twice n rows w).length = 1 := by
  obtain ⟨l, w1⟩ := e.last
  have il : lastF w < rows.length := by rw [← hw.1]; exact l.1
  have uo := uF_ok (by decide : 0 < 2) h.red hw
  have lo : RowOk 2 n (rows.getD (lastF w) []) := h.red.ok _ (rowD_mem il)
  have l4 : weightF (rows.getD (lastF w) []) % 4 = 0 := h.four rfl _ (rowD_mem il)
  have uw : worthF 2 (uF n rows w) (rows.getD (lastF w) []) = 1 := by
    have := uF_worth (q := 2) (by decide) h.red hw il
    rw [this, w1]
  have uw' : dotF (uF n rows w) (rows.getD (lastF w) []) % ((2 : Nat) : Int) = 1 := uw
  have wp := weight_plus uo lo
  have wu := uF_weight h.red hw.1
  have c0 : candF .twice n rows w 0 = uF n rows w := plus_q (by decide) uo (by rw [uo.1, lo.1]) rfl
  have c1 : candF .twice n rows w 1 = plusF 2 (uF n rows w) (rows.getD (lastF w) []) 1 := rfl
  have f0 : fitW .twice (candF .twice n rows w 0) ↔ weightF w % 4 = 0 := by rw [c0]; show weightF (uF n rows w) % 4 = 0 ↔ _; rw [wu]
  have f1 : fitW .twice (candF .twice n rows w 1) ↔ weightF w % 4 = 2 := by
    rw [c1]
    show weightF (plusF 2 (uF n rows w) (rows.getD (lastF w) []) 1) % 4 = 0 ↔ _
    rw [wu] at wp
    generalize dotF (uF n rows w) (rows.getD (lastF w) []) = d at wp uw'
    constructor
    · intro g
      omega
    · intro g
      omega
  unfold msF
  have r2 : List.range (Srt.q .twice) = [0, 1] := rfl
  rw [r2, List.filter_cons, List.filter_cons, List.filter_nil, decide_eq_decide.mpr f0, decide_eq_decide.mpr f1]
  have c : weightF w % 4 = 0 ∨ weightF w % 4 = 2 := by omega
  rcases c with c | c
  · rw [decide_eq_true c, decide_eq_false (by omega)]
    rfl
  · rw [decide_eq_false (by omega), decide_eq_true c]
    rfl
theorem lex_tot (a b : List Int) : (!HT.lexLt a b || !HT.lexLt b a) = true := by
  cases c : HT.lexLt a b with
  | false => rfl
  | true =>
    rw [NtL.lex_asym _ _ c]
    rfl
theorem lex_trich : ∀ a b : List Int, HT.lexLt a b = false → HT.lexLt b a = false → a = b
  | [], [], _, _ => rfl
  | [], _ :: _, h, _ => by cases h
  | _ :: _, [], _, h => by cases h
  | x :: xs, y :: ys, h1, h2 => by
    rw [HT.lexLt_cons] at h1 h2
    by_cases e : x = y
    · rw [if_pos e] at h1
      rw [if_pos e.symm] at h2
      rw [e, lex_trich xs ys h1 h2]
    · rw [if_neg e] at h1
      rw [if_neg (Ne.symm e)] at h2
      have := of_decide_eq_false h1
      have := of_decide_eq_false h2
      omega
/-! ### the code of a row -/
noncomputable def nbF (q n : Nat) (rows : List (List Int)) (row : List Int) : List (List Int) := open Classical in if h : ∃ r, NbR q n rows row r then h.choose else []
theorem nbF_eq (hq : 0 < q) (h : NbR q n rows row rows') : nbF q n rows row = rows' := by
  unfold nbF
  have e : ∃ r, NbR q n rows row r := ⟨_, h⟩
  rw [dif_pos e]
  exact e.choose_spec.unique hq h
theorem nbF_ex (h : IsOwn s n rows) (hr : RowOk s.q n row) (no : ¬ Sp s.q n rows row) : ∃ r, NbR s.q n rows row r := by
  -- the rows in steps, in order
  have q0 := s.q_pos
  have kr := led_red (row := row) q0 h.red h.desc
  have lm := led_more q0 h.red h.desc hr ((left_of q0 h.red hr).mp no)
  let ul := unitF s.q (redF s.q (ledK s.q rows row) row)
  let X := ul :: (ledK s.q rows row).map (clrF s.q ul)
  let le : List Int → List Int → Bool := fun x y => !HT.lexLt x y
  have lex : WithR s.q (ledK s.q rows row) row (X.mergeSort le) := by
    refine .inr ⟨lm, List.mergeSort_perm _ _, ?_⟩
    have tr : ∀ a b c : List Int, le a b = true → le b c = true → le a c = true := fun a b c h1 h2 => by
      simp only [le, Bool.not_eq_true'] at h1 h2 ⊢
      exact NtL.lex_tr c b a h2 h1
    have tot : ∀ a b : List Int, (le a b || le b a) = true := fun a b => by
      simp only [le]
      exact lex_tot a b
    exact (List.pairwise_mergeSort tr tot X).imp fun h => by simpa [le] using h
  exact ⟨_, LedR.nb s.q23 h.red h.desc hr no lex⟩
/-! ### which worths -/
theorem ended_iff {w : List Int} : Ended w ↔ w.getD (lastF w) 0 = 1 ∧ ∃ j, w.getD j 0 ≠ 0 := by
  constructor
  · intro h
    have := h.last
    exact ⟨this.2, _, this.1.2.1⟩
  · intro ⟨h1, h2⟩
    exact ⟨_, lastF_of h2, h1⟩
/-- those that end with 1, the first place first -/
def msgsR (q : Nat) : Nat → List (List Int)
  | 0 => [[]]
  | k + 1 => (List.range q).flatMap fun x : Nat => (msgsR q k).map fun m => m ++ [(x : Int)]
def endedL (q : Nat) : Nat → List (List Int)
  | 0 => []
  | k + 1 => ((endedL q k).map fun m => m ++ [0]) ++ (msgsR q k).map fun m => m ++ [1]
theorem getD_app0 {m : List Int} {x : Int} {j : Nat} : (m ++ [x]).getD j 0 = if j < m.length then m.getD j 0 else if j = m.length then x else 0 := by
  rcases Nat.lt_trichotomy j m.length with h | h | h
  · rw [if_pos h, List.getD_eq_getElem?_getD, List.getElem?_append_left h, ← List.getD_eq_getElem?_getD]
  · subst h
    rw [if_neg (Nat.lt_irrefl _), if_pos rfl, List.getD_eq_getElem?_getD, List.getElem?_append_right (Nat.le_refl _), Nat.sub_self]
    rfl
  · rw [if_neg (by omega), if_neg (by omega), getD_over (by rw [List.length_append]; simp only [List.length_singleton]; omega)]
theorem ok_snoc {q k : Nat} {m : List Int} {x : Int} : RowOk q (k + 1) (m ++ [x]) ↔ RowOk q k m ∧ 0 ≤ x ∧ x < (q : Int) := by
  constructor
  · intro h
    refine ⟨⟨by have := h.1; rw [List.length_append] at this; simpa using this, fun y hy => h.2 y (List.mem_append_left _ hy)⟩, h.2 x (List.mem_append_right _ (List.mem_singleton_self _))⟩
  · rintro ⟨h, hx⟩
    refine ⟨by rw [List.length_append, h.1]; rfl, fun y hy => ?_⟩
    rcases List.mem_append.mp hy with hy | hy
    · exact h.2 y hy
    · rw [List.mem_singleton.mp hy]
      exact hx
theorem snoc_of {q k : Nat} {w : List Int} (h : RowOk q (k + 1) w) : ∃ m x, w = m ++ [x] := by
  rcases List.eq_nil_or_concat w with e | ⟨m, x, e⟩
  · rw [e] at h
    cases h.1
  · exact ⟨m, x, by rw [e, List.concat_eq_append]⟩
theorem msgsR_mem (q : Nat) : ∀ (k : Nat) (w : List Int), w ∈ msgsR q k ↔ RowOk q k w
  | 0, w => msgs_mem q 0 w
  | k + 1, w => by
    unfold msgsR
    rw [List.mem_flatMap]
    constructor
    · rintro ⟨x, hx, h⟩
      obtain ⟨m, hm, rfl⟩ := List.mem_map.mp h
      have := List.mem_range.mp hx
      exact ok_snoc.mpr ⟨(msgsR_mem q k m).mp hm, by omega, by omega⟩
    · intro h
      obtain ⟨m, x, rfl⟩ := snoc_of h
      obtain ⟨h1, h2, h3⟩ := ok_snoc.mp h
      refine ⟨x.toNat, List.mem_range.mpr (by omega), List.mem_map.mpr ⟨m, (msgsR_mem q k m).mpr h1, ?_⟩⟩
      rw [show ((x.toNat : Nat) : Int) = x by omega]
theorem app_inj {a b : List Int} {x y : Int} (h : a ++ [x] = b ++ [y]) : a = b ∧ x = y := by
  have := List.append_inj' h rfl
  exact ⟨this.1, by have := this.2; simpa using this⟩
theorem msgsR_nodup (q : Nat) : ∀ k : Nat, (msgsR q k).Nodup
  | 0 => by simp [msgsR]
  | k + 1 => by
    unfold msgsR
    refine nodup_flat List.nodup_range (fun x _ => nodup_map' (msgsR_nodup q k) fun a _ b _ e => (app_inj e).1) fun x _ y _ z hz hz' => ?_
    obtain ⟨a, _, rfl⟩ := List.mem_map.mp hz
    obtain ⟨b, _, e⟩ := List.mem_map.mp hz'
    have := (app_inj e).2
    omega
theorem ended_snoc {m : List Int} {x : Int} : Ended (m ++ [x]) ↔ x = 1 ∨ (x = 0 ∧ Ended m) := by
  constructor
  · rintro ⟨i, ⟨h1, h2, h3⟩, h4⟩
    rw [List.length_append, List.length_singleton] at h1
    by_cases c : i = m.length
    · subst c
      rw [getD_app0, if_neg (Nat.lt_irrefl _), if_pos rfl] at h4
      exact .inl h4
    · have il : i < m.length := by omega
      have hx := h3 m.length il
      rw [getD_app0, if_neg (Nat.lt_irrefl _), if_pos rfl] at hx
      rw [getD_app0, if_pos il] at h2 h4
      refine .inr ⟨hx, i, ⟨il, h2, fun j hj => ?_⟩, h4⟩
      have := h3 j hj
      rw [getD_app0] at this
      by_cases l : j < m.length
      · rwa [if_pos l] at this
      · exact getD_over (by omega)
  · rintro (rfl | ⟨rfl, i, ⟨h1, h2, h3⟩, h4⟩)
    · refine ⟨m.length, ⟨by rw [List.length_append]; simp, ?_, fun j hj => getD_over (by rw [List.length_append]; simp only [List.length_singleton]; omega)⟩, ?_⟩
      · rw [getD_app0, if_neg (Nat.lt_irrefl _), if_pos rfl]
        decide
      · rw [getD_app0, if_neg (Nat.lt_irrefl _), if_pos rfl]
    · refine ⟨i, ⟨by rw [List.length_append]; omega, by rw [getD_app0, if_pos h1]; exact h2, fun j hj => ?_⟩, by rw [getD_app0, if_pos h1]; exact h4⟩
      rw [getD_app0]
      split
      · exact h3 j hj
      · split <;> rfl
theorem endedL_mem {q : Nat} (hq : 2 ≤ q) : ∀ (k : Nat) (w : List Int), w ∈ endedL q k ↔ RowOk q k w ∧ Ended w
  | 0, w => by
    constructor
    · intro h
      cases h
    · rintro ⟨h, i, l, _⟩
      have := l.1
      rw [h.1] at this
      omega
  | k + 1, w => by
    unfold endedL
    rw [List.mem_append, List.mem_map, List.mem_map]
    constructor
    · rintro (⟨m, hm, rfl⟩ | ⟨m, hm, rfl⟩)
      · obtain ⟨h1, h2⟩ := (endedL_mem hq k m).mp hm
        exact ⟨ok_snoc.mpr ⟨h1, by omega, by omega⟩, ended_snoc.mpr (.inr ⟨rfl, h2⟩)⟩
      · exact ⟨ok_snoc.mpr ⟨(msgsR_mem q k m).mp hm, by omega, by omega⟩, ended_snoc.mpr (.inl rfl)⟩
    · rintro ⟨h, e⟩
      obtain ⟨m, x, rfl⟩ := snoc_of h
      obtain ⟨h1, _⟩ := ok_snoc.mp h
      rcases ended_snoc.mp e with g | ⟨g, e2⟩
      · exact .inr ⟨m, (msgsR_mem q k m).mpr h1, by rw [g]⟩
      · exact .inl ⟨m, (endedL_mem hq k m).mpr ⟨h1, e2⟩, by rw [g]⟩
theorem endedL_nodup (q : Nat) : ∀ k : Nat, (endedL q k).Nodup
  | 0 => List.nodup_nil
  | k + 1 => by
    unfold endedL
    refine nodup_app (nodup_map' (endedL_nodup q k) fun a _ b _ e => (app_inj e).1) (nodup_map' (msgsR_nodup q k) fun a _ b _ e => (app_inj e).1) fun x hx hx' => ?_
    obtain ⟨a, _, rfl⟩ := List.mem_map.mp hx
    obtain ⟨b, _, e⟩ := List.mem_map.mp hx'
    have := (app_inj e).2
    omega
/-! ### how many -/
theorem msgsR_len (q : Nat) : ∀ k : Nat, (msgsR q k).length = q ^ k
  | 0 => rfl
  | k + 1 => by
    unfold msgsR
    rw [flat_len (k := q ^ k) fun x _ => by rw [List.length_map, msgsR_len q k], List.length_range, Nat.pow_succ, Nat.mul_comm]
theorem endedL_len (q : Nat) : ∀ k : Nat, (endedL q k).length * (q - 1) + 1 = q ^ k ∨ q = 0
  | 0 => .inl (by simp [endedL])
  | k + 1 => by
    by_cases c : q = 0
    · exact .inr c
    · rcases endedL_len q k with h | h
      · left
        unfold endedL
        rw [List.length_append, List.length_map, List.length_map, msgsR_len, Nat.add_mul, Nat.pow_succ]
        have : q ^ k * q = q ^ k * (q - 1) + q ^ k := by
          conv => lhs; rw [show q = q - 1 + 1 by omega, Nat.mul_add, Nat.mul_one]
          congr 2 <;> (congr 1; omega)
        omega
      · exact .inr h
/-- those of two letters with an even weight -/
def evL (k : Nat) : List (List Int) := (endedL 2 k).filter fun w => weightF w % 2 == 0
theorem weight_snoc (m : List Int) (x : Int) : weightF (m ++ [x]) = weightF m + if x = 0 then 0 else 1 := by
  have cl := List.count_le_length (a := (0 : Int)) (l := m)
  unfold weightF
  rw [List.length_append, List.count_append, List.length_singleton]
  by_cases c : x = 0
  · rw [if_pos c, c]
    have : ([0] : List Int).count 0 = 1 := rfl
    omega
  · rw [if_neg c]
    have : ([x] : List Int).count 0 = 0 := by rw [List.count_cons, if_neg (by simpa using c)]; rfl
    omega
theorem odd_even (k : Nat) : ((msgsR 2 (k + 1)).filter fun w => weightF w % 2 == 1).length = 2 ^ k ∧ ((msgsR 2 (k + 1)).filter fun w => weightF w % 2 == 0).length = 2 ^ k := by
  have split : ∀ (p : List Int → Bool), ((msgsR 2 (k + 1)).filter p).length = ((msgsR 2 k).filter fun m => p (m ++ [0])).length + ((msgsR 2 k).filter fun m => p (m ++ [1])).length := fun p => by
    have e : msgsR 2 (k + 1) = (msgsR 2 k).map (fun m => m ++ [0]) ++ (msgsR 2 k).map fun m => m ++ [1] := by
      show (List.range 2).flatMap _ = _
      rw [show List.range 2 = [0, 1] from rfl, List.flatMap_cons, List.flatMap_cons, List.flatMap_nil, List.append_nil]
      rfl
    rw [e, List.filter_append, List.length_append, List.filter_map, List.filter_map, List.length_map, List.length_map]
    rfl
  have two := filter_two (fun w : List Int => weightF w % 2 == 0) (msgsR 2 k)
  rw [msgsR_len] at two
  have flip : ∀ m : List Int, (!(weightF m % 2 == 0)) = (weightF m % 2 == 1) := fun m => by
    have : weightF m % 2 = 0 ∨ weightF m % 2 = 1 := by omega
    rcases this with h | h <;> rw [h] <;> rfl
  have e1 : (fun m : List Int => weightF (m ++ [0]) % 2 == 1) = fun m => weightF m % 2 == 1 := funext fun m => by rw [weight_snoc, if_pos rfl, Nat.add_zero]
  have e2 : (fun m : List Int => weightF (m ++ [1]) % 2 == 1) = fun m => weightF m % 2 == 0 := funext fun m => by
    rw [weight_snoc, if_neg (by decide)]
    have : weightF m % 2 = 0 ∨ weightF m % 2 = 1 := by omega
    rcases this with h | h
    · rw [h, show (weightF m + 1) % 2 = 1 by omega]
      rfl
    · rw [h, show (weightF m + 1) % 2 = 0 by omega]
      rfl
  have e3 : (fun m : List Int => weightF (m ++ [0]) % 2 == 0) = fun m => weightF m % 2 == 0 := funext fun m => by rw [weight_snoc, if_pos rfl, Nat.add_zero]
  have e4 : (fun m : List Int => weightF (m ++ [1]) % 2 == 0) = fun m => weightF m % 2 == 1 := funext fun m => by
    rw [weight_snoc, if_neg (by decide)]
    have : weightF m % 2 = 0 ∨ weightF m % 2 = 1 := by omega
    rcases this with h | h
    · rw [h, show (weightF m + 1) % 2 = 1 by omega]
      rfl
    · rw [h, show (weightF m + 1) % 2 = 0 by omega]
      rfl
  have e5 : (fun w : List Int => !(weightF w % 2 == 0)) = fun m => weightF m % 2 == 1 := funext flip
  rw [e5] at two
  rw [split, split, e1, e2, e3, e4]
  omega
theorem evL_len : ∀ k : Nat, (evL k).length + 1 = 2 ^ (k - 1) ∨ k = 0
  | 0 => .inr rfl
  | k + 1 => by
    left
    have e : (evL (k + 1)).length = (evL k).length + ((msgsR 2 k).filter fun m => weightF m % 2 == 1).length := by
      have ee : endedL 2 (k + 1) = (endedL 2 k).map (fun m => m ++ [0]) ++ (msgsR 2 k).map fun m => m ++ [1] := rfl
      unfold evL
      rw [ee, List.filter_append, List.length_append, List.filter_map, List.filter_map, List.length_map, List.length_map]
      congr 2
      · congr 1
        funext m
        show (weightF (m ++ [0]) % 2 == 0) = _
        rw [weight_snoc, if_pos rfl, Nat.add_zero]
      · congr 1
        funext m
        show (weightF (m ++ [1]) % 2 == 0) = _
        rw [weight_snoc, if_neg (by decide)]
        have : weightF m % 2 = 0 ∨ weightF m % 2 = 1 := by omega
        rcases this with h | h
        · rw [h, show (weightF m + 1) % 2 = 1 by omega]
          rfl
        · rw [h, show (weightF m + 1) % 2 = 0 by omega]
          rfl
    rw [e, Nat.add_sub_cancel]
    cases k with
    | zero => rfl
    | succ k =>
      rw [(odd_even k).1]
      rcases evL_len (k + 1) with h | h
      · rw [Nat.add_sub_cancel] at h
        rw [Nat.pow_succ]
        omega
      · cases h
/-! ### all of them -/
def condB (q : Nat) (w : List Int) : Bool := decide (w.getD (lastF w) 0 = 1) && (q == 3 || weightF w % 2 == 0)
def idxOf (s : Srt) (n : Nat) (rows : List (List Int)) (ws : List (List Int)) : List (List Int × Nat) := ws.flatMap fun w => (msF s n rows w).map fun m => (w, m)
noncomputable def codesOf (s : Srt) (n : Nat) (rows : List (List Int)) (ws : List (List Int)) : List (List (List Int)) := ws.flatMap fun w => (msF s n rows w).map fun m => nbF s.q n rows (candF s n rows w m)
section
variable {q n k : Nat} {rows rows' : List (List Int)} {w row : List Int} {m : Nat} {s : Srt} {ws : List (List Int)}
theorem codes_idx : codesOf s n rows ws = (idxOf s n rows ws).map fun p => nbF s.q n rows (candF s n rows p.1 p.2) := by
  unfold codesOf idxOf
  rw [List.map_flatMap]
  congr 1
  funext w
  rw [List.map_map]
  rfl
theorem idx_mem {p : List Int × Nat} : p ∈ idxOf s n rows ws ↔ p.1 ∈ ws ∧ p.2 ∈ msF s n rows p.1 := by
  unfold idxOf
  rw [List.mem_flatMap]
  constructor
  · rintro ⟨w, hw, h⟩
    obtain ⟨m, hm, rfl⟩ := List.mem_map.mp h
    exact ⟨hw, hm⟩
  · rintro ⟨h1, h2⟩
    exact ⟨p.1, h1, List.mem_map.mpr ⟨p.2, h2, rfl⟩⟩
theorem idx_nodup (hw : ws.Nodup) : (idxOf s n rows ws).Nodup := by
  unfold idxOf
  refine nodup_flat hw (fun w _ => nodup_map' (List.nodup_range.filter _) fun a _ b _ e => by cases e; rfl) fun x _ y _ z hz hz' => ?_
  obtain ⟨a, _, rfl⟩ := List.mem_map.mp hz
  obtain ⟨b, _, e⟩ := List.mem_map.mp hz'
  cases e
  rfl
structure Wrt (s : Srt) (k : Nat) (ws : List (List Int)) : Prop where
  nodup : ws.Nodup
  mem : ∀ w, w ∈ ws → RowOk s.q k w ∧ Ended w
  all : ∀ w, RowOk s.q k w → Ended w → (s.q = 3 ∨ weightF w % 2 = 0) → w ∈ ws
theorem cand_nb (h : IsOwn s n rows) (hw : RowOk s.q rows.length w) (e : Ended w) : NbR s.q n rows (candF s n rows w m) (nbF s.q n rows (candF s n rows w m)) := by
  obtain ⟨r, hr⟩ := nbF_ex h (cand_ok s.q_pos h.red hw) (cand_no h hw e.last.1)
  rw [show nbF s.q n rows (candF s n rows w m) = r from nbF_eq s.q_pos hr]
  exact hr
theorem codes_nodup (h : IsOwn s n rows) (W : Wrt s rows.length ws) : (codesOf s n rows ws).Nodup := by
  rw [codes_idx]
  refine nodup_map' (idx_nodup W.nodup) fun a ha b hb e => ?_
  obtain ⟨a1, a2⟩ := idx_mem.mp ha
  obtain ⟨b1, b2⟩ := idx_mem.mp hb
  obtain ⟨wa, ea⟩ := W.mem _ a1
  obtain ⟨wb, eb⟩ := W.mem _ b1
  have na := cand_nb (m := a.2) h wa ea
  have nb := cand_nb (m := b.2) h wb eb
  rw [← e] at nb
  have := cand_inj h wa ea.last.1 ea.last.2 (ms_mem.mp a2).1 wb eb.last.1 eb.last.2 (ms_mem.mp b2).1 na nb
  exact Prod.ext this.1 this.2
/-- the codes that fitting rows lead to, all of them -/
theorem codes_mem (h : IsOwn s n rows) (W : Wrt s rows.length ws) : rows' ∈ codesOf s n rows ws ↔ ∃ row, RowOk s.q n row ∧ fitW s row ∧ ¬ Sp s.q n rows row ∧ NbR s.q n rows row rows' := by
  rw [codes_idx, List.mem_map]
  constructor
  · rintro ⟨p, hp, rfl⟩
    obtain ⟨p1, p2⟩ := idx_mem.mp hp
    obtain ⟨wp, ep⟩ := W.mem _ p1
    exact ⟨_, cand_ok s.q_pos h.red wp, (ms_mem.mp p2).2, cand_no h wp ep.last.1, cand_nb h wp ep⟩
  · rintro ⟨row, hr, ft, no, nb⟩
    obtain ⟨w, i, m, wo, l, w1, hm, fc, key⟩ := cand_surj h hr ft no
    have e : Ended w := ⟨i, l, w1⟩
    have ii : lastF w = i := last_one e.last.1 l
    have fc' : fitW s (candF s n rows w m) := by
      unfold candF
      rw [ii]
      exact fc
    have mm : m ∈ msF s n rows w := ms_mem.mpr ⟨hm, fc'⟩
    refine ⟨(w, m), idx_mem.mpr ⟨W.all w wo e ?_, mm⟩, ?_⟩
    · rcases s.q23 with g | g
      · exact .inr (ms_even h g wo e mm)
      · exact .inl g
    · have := key rows' nb
      refine nbF_eq s.q_pos ?_
      show NbR s.q n rows (candR s.q n rows w (lastF w) m) rows'
      rw [ii]
      exact this
theorem codes_perm {ws' : List (List Int)} (h : IsOwn s n rows) (W : Wrt s rows.length ws) (W' : Wrt s rows.length ws') : (codesOf s n rows ws).Perm (codesOf s n rows ws') :=
  perm_of (codes_nodup h W) (codes_nodup h W') fun x => (codes_mem h W).trans (codes_mem h W').symm
/-! the two ways through the worths -/
theorem wrt_law (s : Srt) (k : Nat) : Wrt s k (endedL s.q k) := by
  have q2 : 2 ≤ s.q := by have := s.q_le; omega
  exact ⟨endedL_nodup _ _, fun w hw => (endedL_mem q2 k w).mp hw, fun w h1 h2 _ => (endedL_mem q2 k w).mpr ⟨h1, h2⟩⟩
def progW (q k : Nat) : List (List Int) := (wordsF q k (unitsR k).reverse).filter fun w => decide (∃ j, j < w.length ∧ w.getD j 0 ≠ 0) && condB q w
theorem prog_mem {w : List Int} : w ∈ progW s.q k ↔ RowOk s.q k w ∧ Ended w ∧ (s.q = 3 ∨ weightF w % 2 = 0) := by
  have q2 : 2 ≤ s.q := by have := s.q_le; omega
  have q0 := s.q_pos
  unfold progW condB
  rw [List.mem_filter, words_sp q0 _ (fun r hr => (units_red q2).ok r (List.mem_reverse.mp hr)), sp_rev, units_all q2]
  simp only [Bool.and_eq_true, Bool.or_eq_true, decide_eq_true_eq, beq_iff_eq]
  constructor
  · rintro ⟨h1, ⟨j, _, nz⟩, h3, h4⟩
    exact ⟨h1, ended_iff.mpr ⟨h3, j, nz⟩, h4⟩
  · rintro ⟨h1, h2, h3⟩
    obtain ⟨e1, j, nz⟩ := ended_iff.mp h2
    exact ⟨h1, ⟨j, Nat.lt_of_not_le fun g => nz (getD_over g), nz⟩, e1, h3⟩
theorem wrt_prog (s : Srt) (k : Nat) : Wrt s k (progW s.q k) := by
  have q2 : 2 ≤ s.q := by have := s.q_le; omega
  refine ⟨(words_nodup s.q_pos _ ((units_red q2).perm (List.reverse_perm _))).filter _, fun w hw => ?_, fun w h1 h2 h3 => prog_mem.mpr ⟨h1, h2, h3⟩⟩
  obtain ⟨h1, h2, _⟩ := prog_mem.mp hw
  exact ⟨h1, h2⟩
theorem codes_length (ws : List (List Int)) (c : Nat) (h : ∀ w ∈ ws, (msF s n rows w).length = c) : (codesOf s n rows ws).length = ws.length * c := by
  unfold codesOf
  exact flat_len fun w hw => by rw [List.length_map]; exact h w hw
def manyF (s : Srt) (k : Nat) : Nat := if k = 0 then 0 else match s with | .two => 2 ^ k - 2 | .twice => 2 ^ k / 2 - 1 | .three => (3 ^ k - 1) / 2
/-- so many there are -/
theorem codes_many (h : IsOwn s n rows) : (codesOf s n rows (progW s.q rows.length)).length = manyF s rows.length := by
  have pl2 : s.q = 2 → (progW s.q rows.length).length = (evL rows.length).length := fun q2 => by
    refine (perm_of (wrt_prog s rows.length).nodup ((endedL_nodup 2 _).filter _) fun w => ?_).length_eq
    rw [prog_mem, List.mem_filter, endedL_mem (by decide), beq_iff_eq, q2]
    constructor
    · rintro ⟨h1, h2, h3⟩
      exact ⟨⟨h1, h2⟩, h3.resolve_left (by decide)⟩
    · rintro ⟨⟨h1, h2⟩, h3⟩
      exact ⟨h1, h2, .inr h3⟩
  unfold manyF
  cases s with
  | two =>
    rw [codes_length _ 2 fun w hw => by
      obtain ⟨h1, h2, h3⟩ := prog_mem.mp hw
      rw [ms_two h h1 h2 (h3.resolve_left (by decide))]
      rfl, pl2 rfl]
    rcases evL_len rows.length with g | g
    · by_cases k0 : rows.length = 0
      · rw [if_pos k0, k0]
        rfl
      · rw [if_neg k0]
        have : 2 ^ rows.length = 2 * 2 ^ (rows.length - 1) := by
          conv => lhs; rw [show rows.length = rows.length - 1 + 1 by omega, Nat.pow_succ, Nat.mul_comm]
        show _ = 2 ^ rows.length - 2
        omega
    · rw [if_pos g, g]
      rfl
  | twice =>
    rw [codes_length _ 1 fun w hw => by
      obtain ⟨h1, h2, h3⟩ := prog_mem.mp hw
      exact ms_twice h h1 h2 (h3.resolve_left (by decide)), pl2 rfl]
    rcases evL_len rows.length with g | g
    · by_cases k0 : rows.length = 0
      · rw [if_pos k0, k0]
        rfl
      · rw [if_neg k0]
        have : 2 ^ rows.length = 2 * 2 ^ (rows.length - 1) := by
          conv => lhs; rw [show rows.length = rows.length - 1 + 1 by omega, Nat.pow_succ, Nat.mul_comm]
        show _ = 2 ^ rows.length / 2 - 1
        omega
    · rw [if_pos g, g]
      rfl
  | three =>
    rw [codes_length _ 1 fun w hw => by
      obtain ⟨h1, h2, _⟩ := prog_mem.mp hw
      rw [ms_three h h1 h2]
      rfl]
    have pl : (progW (Srt.q .three) rows.length).length = (endedL 3 rows.length).length := by
      refine (perm_of (wrt_prog .three rows.length).nodup (endedL_nodup 3 _) fun w => ?_).length_eq
      rw [prog_mem (s := .three), endedL_mem (by decide)]
      constructor
      · rintro ⟨h1, h2, _⟩
        exact ⟨h1, h2⟩
      · rintro ⟨h1, h2⟩
        exact ⟨h1, h2, .inl rfl⟩
    rw [pl]
    rcases endedL_len 3 rows.length with g | g
    · by_cases k0 : rows.length = 0
      · rw [if_pos k0, k0]
        rfl
      · rw [if_neg k0]
        show _ = (3 ^ rows.length - 1) / 2
        omega
    · cases g
end
end
end Own

/-! All neighbours: what the walk needs beside. -/
namespace Own
open PySem PySem.W
section
variable {q n k : Nat} {rows rows' : List (List Int)} {w w' row : List Int} {i m m' : Nat} {s : Srt}
def nzL (w : List Int) : List Int := w.filter fun x => !(x == 0)
theorem nzL_len0 : ∀ w : List Int, (nzL w).length + w.count 0 = w.length
  | [] => rfl
  | x :: xs => by
    have ih := nzL_len0 xs
    unfold nzL at ih ⊢
    rw [List.filter_cons, List.count_cons]
    by_cases c : x = 0
    · subst c
      simp
      omega
    · simp [c]
      omega
theorem nzL_len (w : List Int) : (nzL w).length = weightF w := by
  have := nzL_len0 w
  unfold weightF
  omega
theorem nzL_last (l : lastOf w i) : ∃ ds, nzL w = ds ++ [w.getD i 0] := by
  obtain ⟨h1, h2, h3⟩ := l
  refine ⟨nzL (w.take i), ?_⟩
  have e : w = w.take i ++ (w.getD i 0 :: w.drop (i + 1)) := by
    conv => lhs; rw [← List.take_append_drop i w, List.drop_eq_getElem_cons h1]
    rw [List.getD_eq_getElem?_getD, List.getElem?_eq_getElem h1]
    rfl
  have z : nzL (w.drop (i + 1)) = [] := by
    unfold nzL
    rw [List.filter_eq_nil_iff]
    intro x hx
    obtain ⟨j, hj, rfl⟩ := List.getElem_of_mem hx
    have := h3 (i + 1 + j) (by omega)
    rw [List.length_drop] at hj
    rw [List.getD_eq_getElem?_getD, List.getElem?_eq_getElem (by omega)] at this
    rw [List.getElem_drop]
    have t2 : w[i + 1 + j] = 0 := this
    simp [t2]
  conv => lhs; rw [e]
  unfold nzL at z ⊢
  rw [List.filter_append, List.filter_cons, z, if_pos (by simpa using h2)]
theorem nzL_nil (h : (nzL w).length = 0) : ¬ ∃ j, j < w.length ∧ w.getD j 0 ≠ 0 := by
  rintro ⟨j, hj, nz⟩
  obtain ⟨ds, e⟩ := nzL_last (lastF_of ⟨j, nz⟩)
  rw [e, List.length_append, List.length_singleton] at h
  omega
theorem nzL_pos (h : 0 < (nzL w).length) : ∃ j, j < w.length ∧ w.getD j 0 ≠ 0 := by
  obtain ⟨x, hx⟩ := List.exists_mem_of_length_pos h
  unfold nzL at hx
  obtain ⟨h1, h2⟩ := List.mem_filter.mp hx
  obtain ⟨j, hj, rfl⟩ := List.getElem_of_mem h1
  refine ⟨j, hj, ?_⟩
  rw [List.getD_eq_getElem?_getD, List.getElem?_eq_getElem hj]
  simpa using h2
theorem nzL_range (w : List Int) : ((List.range w.length).filter fun i => !(w.getD i 0 == 0)).map (fun i => w.getD i 0) = nzL w := by
  unfold nzL
  conv => rhs; rw [show w = (List.range w.length).map (fun i => w.getD i 0) by
    apply List.ext_getElem
    · simp
    · intro j h1 h2
      rw [List.getElem_map, List.getElem_range, List.getD_eq_getElem?_getD, List.getElem?_eq_getElem h1]
      rfl]
  rw [List.filter_map]
  congr 1
/-- what the program asks of some worths -/
def pickB (q : Nat) (w : List Int) : Bool := decide (∃ j, j < w.length ∧ w.getD j 0 ≠ 0) && condB q w
theorem progW_eq (q k : Nat) : progW q k = (wordsF q k (unitsR k).reverse).filter (pickB q) := rfl
theorem led_congr {a b : List Int} (h : ∀ r ∈ rows, worthF q r a = worthF q r b) : ledK q rows a = ledK q rows b := by
  have key : ∀ (l : List (List Int)) (st : LedS), (∀ r ∈ l, worthF q r a = worthF q r b) → l.foldl (ledStep q a) st = l.foldl (ledStep q b) st := by
    intro l
    induction l with
    | nil => intro st _; rfl
    | cons x xs ih =>
      intro st h
      rw [List.foldl_cons, List.foldl_cons]
      have e : ledStep q a st x = ledStep q b st x := by
        unfold ledStep
        rw [h x (List.mem_cons_self ..)]
      rw [e]
      exact ih _ fun r hr => h r (List.mem_cons_of_mem _ hr)
  unfold ledK ledAll
  rw [key _ _ fun r hr => h r (List.mem_reverse.mp hr)]
theorem cand_worths (h : IsOwn s n rows) (hw : RowOk s.q rows.length w) (e : Ended w) (m : Nat) : (rows.map fun r => worthF s.q (candF s n rows w m) r) = w := by
  have il : lastF w < rows.length := by rw [← hw.1]; exact e.last.1.1
  refine List.ext_getElem (by rw [List.length_map, hw.1]) fun j h1 h2 => ?_
  rw [List.length_map] at h1
  have := cand_worth (m := m) h hw il h1
  rw [getD_row h1] at this
  rw [List.getElem_map]
  unfold candF
  rw [this, List.getD_eq_getElem?_getD, List.getElem?_eq_getElem h2]
  rfl
theorem cand_worth_r (h : IsOwn s n rows) (hw : RowOk s.q rows.length w) (e : Ended w) (m m' : Nat) : ∀ r ∈ rows, worthF s.q r (candF s n rows w m) = worthF s.q r (candF s n rows w m') := fun r hr => by
  have il : lastF w < rows.length := by rw [← hw.1]; exact e.last.1.1
  obtain ⟨j, hj, rfl⟩ := List.getElem_of_mem hr
  have a := cand_worth (m := m) h hw il hj
  have b := cand_worth (m := m') h hw il hj
  rw [getD_row hj] at a b
  have o := (h.red.ok _ (List.getElem_mem hj)).1
  unfold candF
  rw [worth_comm o (cand_ok s.q_pos h.red hw).1, worth_comm o (cand_ok s.q_pos h.red hw).1, a, b]
theorem codes_app (a b : List (List Int)) : codesOf s n rows (a ++ b) = codesOf s n rows a ++ codesOf s n rows b := by
  unfold codesOf
  rw [List.flatMap_append]
theorem codes_one (w : List Int) : codesOf s n rows [w] = (msF s n rows w).map fun m => nbF s.q n rows (candF s n rows w m) := by
  unfold codesOf
  rw [List.flatMap_cons, List.flatMap_nil, List.append_nil]
/-- sorted codes -/
noncomputable def nbsF (s : Srt) (n : Nat) (rows : List (List Int)) : List (List (List Int)) := (codesOf s n rows (progW s.q rows.length)).mergeSort (cLe s.q n)
theorem nbs_len (h : IsOwn s n rows) : (nbsF s n rows).length = manyF s rows.length := by
  unfold nbsF
  rw [List.length_mergeSort, codes_many h]
theorem nbs_mem (h : IsOwn s n rows) : rows' ∈ nbsF s n rows ↔ ∃ row, RowOk s.q n row ∧ fitW s row ∧ ¬ Sp s.q n rows row ∧ NbR s.q n rows row rows' := by
  unfold nbsF
  rw [List.mem_mergeSort, codes_mem h (wrt_prog s _)]
theorem nbs_law (h : IsOwn s n rows) : nbsF s n rows = (codesOf s n rows (endedL s.q rows.length)).mergeSort (cLe s.q n) :=
  sort_perm (codes_perm h (wrt_prog s _) (wrt_law s _))
theorem nbs_strict (h : IsOwn s n rows) : (nbsF s n rows).Pairwise fun x y => cLt s.q n x y = true := sort_strict (codes_nodup h (wrt_prog s _))
theorem nbs_nodup (h : IsOwn s n rows) : (nbsF s n rows).Nodup := (List.mergeSort_perm _ _).nodup_iff.mpr (codes_nodup h (wrt_prog s _))
theorem many_le (h : IsOwn s n rows) (hn : s.q ^ rows.length ≤ 1000) : manyF s rows.length ≤ 1000 := by
  unfold manyF
  split
  · omega
  · cases s
    · have : 2 ^ rows.length ≤ 1000 := hn
      show 2 ^ rows.length - 2 ≤ 1000
      omega
    · have : 2 ^ rows.length ≤ 1000 := hn
      show 2 ^ rows.length / 2 - 1 ≤ 1000
      omega
    · have : 3 ^ rows.length ≤ 1000 := hn
      show (3 ^ rows.length - 1) / 2 ≤ 1000
      omega
theorem codes_alike (q n : Nat) (cs : List (List (List Int))) : AllAlike (cs.map (codeD q n)) := by
  intro d hd d' hd'
  obtain ⟨a, _, rfl⟩ := List.mem_map.mp hd
  obtain ⟨b, _, rfl⟩ := List.mem_map.mp hd'
  exact alike_codeD ..
theorem codes_sortable (q n : Nat) (cs : List (List (List Int))) : Sortable (cs.map (codeD q n)) := by
  refine .inl fun d hd => ?_
  obtain ⟨a, _, rfl⟩ := List.mem_map.mp hd
  exact ⟨_, _, rfl⟩
end
end Own

namespace K47
open PySem PySem.Spec PyProof.Rows L2 Evl Own
/-! ### the text -/
def topS (i : Nat) : Stmt := PySem.Challenge.pw_ownmirrors_k47_whole_all_neighbours_and.main.body.getD i (.Pass ⟨0, 0, 0, 0⟩)
abbrev s_added : Stmt := topS 4
theorem sc_added : FnScope ["letters", "one", "other", "left", "right"] ["letters", "one", "other"] (defScope s_added) := ⟨rfl, rfl, rfl, by decide +kernel, rfl, by decide +kernel, by decide +kernel⟩
abbrev s_less : Stmt := topS 5
theorem sc_less : FnScope ["letters", "one", "other", "left", "right"] ["letters", "one", "other"] (defScope s_less) := ⟨rfl, rfl, rfl, by decide +kernel, rfl, by decide +kernel, by decide +kernel⟩
abbrev s_times : Stmt := topS 6
theorem sc_times : FnScope ["letters", "row", "number", "rest", "letter"] ["letters", "row", "number"] (defScope s_times) := ⟨rfl, rfl, rfl, by decide +kernel, rfl, by decide +kernel, by decide +kernel⟩
abbrev s_worth : Stmt := topS 7
theorem sc_worth : FnScope ["letters", "one", "other", "left", "right"] ["letters", "one", "other"] (defScope s_worth) := ⟨rfl, rfl, rfl, by decide +kernel, rfl, by decide +kernel, by decide +kernel⟩
abbrev s_weight : Stmt := topS 8
theorem sc_weight : FnScope ["row"] ["row"] (defScope s_weight) := ⟨rfl, rfl, rfl, by decide +kernel, rfl, by decide +kernel, by decide +kernel⟩
abbrev s_nought_row : Stmt := topS 9
theorem sc_nought_row : FnScope ["length"] ["length"] (defScope s_nought_row) := ⟨rfl, rfl, rfl, by decide +kernel, rfl, by decide +kernel, by decide +kernel⟩
abbrev s_unit_row : Stmt := topS 10
theorem sc_unit_row : FnScope ["length", "place"] ["length", "place"] (defScope s_unit_row) := ⟨rfl, rfl, rfl, by decide +kernel, rfl, by decide +kernel, by decide +kernel⟩
abbrev s_first_place : Stmt := topS 12
theorem sc_first_place : FnScope ["row", "at"] ["row"] (defScope s_first_place) := ⟨rfl, rfl, rfl, by decide +kernel, rfl, by decide +kernel, by decide +kernel⟩
abbrev s_lowered : Stmt := topS 13
theorem sc_lowered : FnScope ["letters", "steps", "row", "left", "step", "number"] ["letters", "steps", "row"] (defScope s_lowered) := ⟨rfl, rfl, rfl, by decide +kernel, rfl, by decide +kernel, by decide +kernel⟩
abbrev s_dimension : Stmt := topS 14
theorem sc_dimension : FnScope ["code"] ["code"] (defScope s_dimension) := ⟨rfl, rfl, rfl, by decide +kernel, rfl, by decide +kernel, by decide +kernel⟩
abbrev s_whole_room : Stmt := topS 15
theorem sc_whole_room : FnScope ["letters", "length", "place"] ["letters", "length"] (defScope s_whole_room) := ⟨rfl, rfl, rfl, by decide +kernel, rfl, by decide +kernel, by decide +kernel⟩
abbrev s_walked : Stmt := topS 16
theorem sc_walked : FnScope ["code", "letters", "length", "rows", "found", "row", "more", "turn", "word"] ["code"] (defScope s_walked) := ⟨rfl, rfl, rfl, by decide +kernel, rfl, by decide +kernel, by decide +kernel⟩
abbrev s_words : Stmt := topS 17
theorem sc_words : FnScope ["code"] ["code"] (defScope s_words) := ⟨rfl, rfl, rfl, by decide +kernel, rfl, by decide +kernel, by decide +kernel⟩
abbrev s_is_sort : Stmt := topS 21
theorem sc_is_sort : FnScope ["value"] ["value"] (defScope s_is_sort) := ⟨rfl, rfl, rfl, by decide +kernel, rfl, by decide +kernel, by decide +kernel⟩
abbrev s_is_inside : Stmt := topS 22
theorem sc_is_inside : FnScope ["code", "letters", "length", "rows", "at", "row", "other"] ["code"] (defScope s_is_inside) := ⟨rfl, rfl, rfl, by decide +kernel, rfl, by decide +kernel, by decide +kernel⟩
abbrev s_is_own : Stmt := topS 23
theorem sc_is_own : FnScope ["code"] ["code"] (defScope s_is_own) := ⟨rfl, rfl, rfl, by decide +kernel, rfl, by decide +kernel, by decide +kernel⟩
abbrev s_is_twice : Stmt := topS 24
theorem sc_is_twice : FnScope ["code", "row"] ["code"] (defScope s_is_twice) := ⟨rfl, rfl, rfl, by decide +kernel, rfl, by decide +kernel, by decide +kernel⟩
abbrev s_is_of_sort : Stmt := topS 25
theorem sc_is_of_sort : FnScope ["sort", "code"] ["sort", "code"] (defScope s_is_of_sort) := ⟨rfl, rfl, rfl, by decide +kernel, rfl, by decide +kernel, by decide +kernel⟩
abbrev s_plus_times : Stmt := topS 27
theorem sc_plus_times : FnScope ["letters", "one", "other", "many", "a", "b"] ["letters", "one", "other", "many"] (defScope s_plus_times) := ⟨rfl, rfl, rfl, by decide +kernel, rfl, by decide +kernel, by decide +kernel⟩
abbrev s_need_sort : Stmt := topS 28
theorem sc_need_sort : FnScope ["sort", "codes", "code"] ["sort", "codes"] (defScope s_need_sort) := ⟨rfl, rfl, rfl, by decide +kernel, rfl, by decide +kernel, by decide +kernel⟩
abbrev s_with_row : Stmt := topS 29
theorem sc_with_row : FnScope ["letters", "length", "rows", "row", "left", "place", "cleared", "one"] ["letters", "length", "rows", "row"] (defScope s_with_row) := ⟨rfl, rfl, rfl, by decide +kernel, rfl, by decide +kernel, by decide +kernel⟩
abbrev s_common_rows : Stmt := topS 30
theorem sc_common_rows : FnScope ["letters", "rows", "worths", "last", "at", "told", "kept", "one"] ["letters", "rows", "worths"] (defScope s_common_rows) := ⟨rfl, rfl, rfl, by decide +kernel, rfl, by decide +kernel, by decide +kernel⟩
abbrev s_is_fitting : Stmt := topS 31
theorem sc_is_fitting : FnScope ["sort", "row"] ["sort", "row"] (defScope s_is_fitting) := ⟨rfl, rfl, rfl, by decide +kernel, rfl, by decide +kernel, by decide +kernel⟩
abbrev s_leading_rows : Stmt := topS 32
theorem sc_leading_rows : FnScope ["sort", "code", "worths", "letters", "length", "rows", "row", "last", "at", "told", "plain", "both", "one"] ["sort", "code", "worths"] (defScope s_leading_rows) := ⟨rfl, rfl, rfl, by decide +kernel, rfl, by decide +kernel, by decide +kernel⟩
abbrev s_neighbours : Stmt := topS 33
theorem sc_neighbours : FnScope ["sort", "code", "letters", "length", "rows", "found", "worths", "told", "one", "kept", "row"] ["sort", "code"] (defScope s_neighbours) := ⟨rfl, rfl, rfl, by decide +kernel, rfl, by decide +kernel, by decide +kernel⟩
abbrev s__law_box : Stmt := topS 35
theorem sc__law_box : FnScope ["script", "k", "cell"] ["script", "k"] (defScope s__law_box) := ⟨rfl, rfl, rfl, by decide +kernel, rfl, by decide +kernel, by decide +kernel⟩
abbrev s__law_take : Stmt := topS 36
theorem sc__law_take : FnScope ["box", "many", "digit", "raw"] ["box", "many"] (defScope s__law_take) := ⟨rfl, rfl, rfl, by decide +kernel, rfl, by decide +kernel, by decide +kernel⟩
abbrev s__law_pick : Stmt := topS 37
theorem sc__law_pick : FnScope ["box", "some"] ["box", "some"] (defScope s__law_pick) := ⟨rfl, rfl, rfl, by decide +kernel, rfl, by decide +kernel, by decide +kernel⟩
abbrev s__law_plain : Stmt := topS 38
theorem sc__law_plain : FnScope ["value", "one"] ["value"] (defScope s__law_plain) := ⟨rfl, rfl, rfl, by decide +kernel, rfl, by decide +kernel, by decide +kernel⟩
abbrev s__law_first : Stmt := topS 39
theorem sc__law_first : FnScope ["row", "place"] ["row"] (defScope s__law_first) := ⟨rfl, rfl, rfl, by decide +kernel, rfl, by decide +kernel, by decide +kernel⟩
abbrev s__law_plus : Stmt := topS 40
theorem sc__law_plus : FnScope ["letters", "one", "other", "many", "at"] ["letters", "one", "other", "many"] (defScope s__law_plus) := ⟨rfl, rfl, rfl, by decide +kernel, rfl, by decide +kernel, by decide +kernel⟩
abbrev s__law_worth : Stmt := topS 41
theorem sc__law_worth : FnScope ["letters", "one", "other", "at"] ["letters", "one", "other"] (defScope s__law_worth) := ⟨rfl, rfl, rfl, by decide +kernel, rfl, by decide +kernel, by decide +kernel⟩
abbrev s__law_weight : Stmt := topS 42
theorem sc__law_weight : FnScope ["row"] ["row"] (defScope s__law_weight) := ⟨rfl, rfl, rfl, by decide +kernel, rfl, by decide +kernel, by decide +kernel⟩
abbrev s__law_with : Stmt := topS 43
theorem sc__law_with : FnScope ["letters", "rows", "row", "left", "one", "many", "place", "found"] ["letters", "rows", "row"] (defScope s__law_with) := ⟨rfl, rfl, rfl, by decide +kernel, rfl, by decide +kernel, by decide +kernel⟩
abbrev s__law_steps : Stmt := topS 44
theorem sc__law_steps : FnScope ["letters", "rows", "found", "row"] ["letters", "rows"] (defScope s__law_steps) := ⟨rfl, rfl, rfl, by decide +kernel, rfl, by decide +kernel, by decide +kernel⟩
abbrev s__law_led : Stmt := topS 45
theorem sc__law_led : FnScope ["letters", "rows", "row", "kept", "last", "ahead", "one", "told"] ["letters", "rows", "row"] (defScope s__law_led) := ⟨rfl, rfl, rfl, by decide +kernel, rfl, by decide +kernel, by decide +kernel⟩
abbrev s__law_by : Stmt := topS 46
theorem sc__law_by : FnScope ["sort"] ["sort"] (defScope s__law_by) := ⟨rfl, rfl, rfl, by decide +kernel, rfl, by decide +kernel, by decide +kernel⟩
abbrev s__law_fitting : Stmt := topS 47
theorem sc__law_fitting : FnScope ["sort", "row", "many", "found", "place"] ["sort", "row"] (defScope s__law_fitting) := ⟨rfl, rfl, rfl, by decide +kernel, rfl, by decide +kernel, by decide +kernel⟩
abbrev s__law_row : Stmt := topS 48
theorem sc__law_row : FnScope ["box", "letters", "length", "place"] ["box", "letters", "length"] (defScope s__law_row) := ⟨rfl, rfl, rfl, by decide +kernel, rfl, by decide +kernel, by decide +kernel⟩
abbrev s__law_letters : Stmt := topS 49
theorem sc__law_letters : FnScope ["sort"] ["sort"] (defScope s__law_letters) := ⟨rfl, rfl, rfl, by decide +kernel, rfl, by decide +kernel, by decide +kernel⟩
abbrev s__law_pieces : Stmt := topS 50
theorem sc__law_pieces : FnScope ["sort", "room", "eight", "ring", "great", "at", "tails", "twelve", "some", "rows"] ["sort", "room"] (defScope s__law_pieces) := ⟨rfl, rfl, rfl, by decide +kernel, rfl, by decide +kernel, by decide +kernel⟩
abbrev s__law_begin : Stmt := topS 51
theorem sc__law_begin : FnScope ["box", "sort", "length", "found", "ahead", "turn", "piece", "size", "row"] ["box", "sort", "length"] (defScope s__law_begin) := ⟨rfl, rfl, rfl, by decide +kernel, rfl, by decide +kernel, by decide +kernel⟩
abbrev s__law_exchange : Stmt := topS 52
theorem sc__law_exchange : FnScope ["box", "letters", "length", "left", "places", "turn", "place"] ["box", "letters", "length"] (defScope s__law_exchange) := ⟨rfl, rfl, rfl, by decide +kernel, rfl, by decide +kernel, by decide +kernel⟩
abbrev s__law_moved : Stmt := topS 53
theorem sc__law_moved : FnScope ["letters", "row", "exchange", "at"] ["letters", "row", "exchange"] (defScope s__law_moved) := ⟨rfl, rfl, rfl, by decide +kernel, rfl, by decide +kernel, by decide +kernel⟩
abbrev s__law_own : Stmt := topS 54
theorem sc__law_own : FnScope ["box", "sort", "length", "turns", "letters", "exchange", "rows", "row"] ["box", "sort", "length", "turns"] (defScope s__law_own) := ⟨rfl, rfl, rfl, by decide +kernel, rfl, by decide +kernel, by decide +kernel⟩
abbrev s__law_walk : Stmt := topS 55
theorem sc__law_walk : FnScope ["box", "sort", "length", "rows", "turns", "letters", "found", "turn", "row"] ["box", "sort", "length", "rows", "turns"] (defScope s__law_walk) := ⟨rfl, rfl, rfl, by decide +kernel, rfl, by decide +kernel, by decide +kernel⟩
abbrev s__law_inside : Stmt := topS 56
theorem sc__law_inside : FnScope ["letters", "rows", "at", "other"] ["letters", "rows"] (defScope s__law_inside) := ⟨rfl, rfl, rfl, by decide +kernel, rfl, by decide +kernel, by decide +kernel⟩
abbrev s__law_is_one : Stmt := topS 57
theorem sc__law_is_one : FnScope ["sort", "length", "value", "letters", "rows", "places", "row", "one", "at", "place", "other"] ["sort", "length", "value"] (defScope s__law_is_one) := ⟨rfl, rfl, rfl, by decide +kernel, rfl, by decide +kernel, by decide +kernel⟩
abbrev s__law_no_sort : Stmt := topS 58
theorem sc__law_no_sort : FnScope ["box", "word", "changed"] ["box"] (defScope s__law_no_sort) := ⟨rfl, rfl, rfl, by decide +kernel, rfl, by decide +kernel, by decide +kernel⟩
abbrev s__law_stranger : Stmt := topS 59
theorem sc__law_stranger : FnScope ["box", "sort", "length", "letters", "kind", "rows", "row", "at"] ["box", "sort", "length"] (defScope s__law_stranger) := ⟨rfl, rfl, rfl, by decide +kernel, rfl, by decide +kernel, by decide +kernel⟩
abbrev s__law_apart : Stmt := topS 60
theorem sc__law_apart : FnScope ["letters", "one", "other", "found", "row", "left", "known", "many"] ["letters", "one", "other"] (defScope s__law_apart) := ⟨rfl, rfl, rfl, by decide +kernel, rfl, by decide +kernel, by decide +kernel⟩
abbrev s__law_near_room : Stmt := topS 61
theorem sc__law_near_room : FnScope ["box", "sort", "lengths"] ["box", "sort"] (defScope s__law_near_room) := ⟨rfl, rfl, rfl, by decide +kernel, rfl, by decide +kernel, by decide +kernel⟩
abbrev s__law_many : Stmt := topS 62
theorem sc__law_many : FnScope ["sort", "length", "power", "turn"] ["sort", "length"] (defScope s__law_many) := ⟨rfl, rfl, rfl, by decide +kernel, rfl, by decide +kernel, by decide +kernel⟩
abbrev s__law_asked : Stmt := topS 63
theorem sc__law_asked : FnScope ["sort", "code", "e"] ["sort", "code"] (defScope s__law_asked) := ⟨rfl, rfl, rfl, by decide +kernel, rfl, by decide +kernel, by decide +kernel⟩
abbrev s__law_rows_of_worths : Stmt := topS 64
theorem sc__law_rows_of_worths : FnScope ["letters", "many", "rows", "ended", "place", "one", "longer", "letter"] ["letters", "many"] (defScope s__law_rows_of_worths) := ⟨rfl, rfl, rfl, by decide +kernel, rfl, by decide +kernel, by decide +kernel⟩
abbrev s__law_all : Stmt := topS 65
theorem sc__law_all : FnScope ["sort", "code", "letters", "length", "rows", "found", "worths", "row", "last", "at", "place", "many", "right"] ["sort", "code"] (defScope s__law_all) := ⟨rfl, rfl, rfl, by decide +kernel, rfl, by decide +kernel, by decide +kernel⟩
abbrev s__law_lot : Stmt := topS 66
theorem sc__law_lot : FnScope ["box", "sort", "code", "told", "letters", "length", "rows", "at", "turn", "one", "row"] ["box", "sort", "code", "told"] (defScope s__law_lot) := ⟨rfl, rfl, rfl, by decide +kernel, rfl, by decide +kernel, by decide +kernel⟩
abbrev s__law_is_whole : Stmt := topS 67
theorem sc__law_is_whole : FnScope ["box", "sort", "code", "told"] ["box", "sort", "code"] (defScope s__law_is_whole) := ⟨rfl, rfl, rfl, by decide +kernel, rfl, by decide +kernel, by decide +kernel⟩
abbrev s_law : Stmt := topS 68
theorem sc_law : FnScope ["script", "k", "box", "sort", "length", "letters", "code", "row", "back"] ["script"] (defScope s_law) := ⟨rfl, rfl, rfl, by decide +kernel, rfl, by decide +kernel, by decide +kernel⟩
/-- what the module leaves to the built-ins -/
structure Zs (mg : Str → Option Value) : Prop where
  abs : mg "abs" = none
  all : mg "all" = none
  any : mg "any" = none
  bool : mg "bool" = none
  enumerate : mg "enumerate" = none
  int : mg "int" = none
  isinstance : mg "isinstance" = none
  len : mg "len" = none
  list : mg "list" = none
  max : mg "max" = none
  range : mg "range" = none
  reversed : mg "reversed" = none
  sorted : mg "sorted" = none
  str : mg "str" = none
  sum : mg "sum" = none
  tuple : mg "tuple" = none
  zip : mg "zip" = none
structure Cs (K : PySem.W.Frag) (w : World) (mg : Str → Option Value) : Prop where
  STEPSn : DicN K w mg "STEPS" (dSTEPS.map (·.1))
  LETTERS : DicK K w mg "LETTERS" dLETTERS
end K47

namespace K47
open PySem PySem.Spec PyProof.Rows L2 Evl Own
section
variable {P : Program} {w : World} {K : PySem.W.Frag} {mg : Str → Option Value} {base : Heap} {f : Addr} {fd : FuncData}
theorem ok__law_box (F : FnP K "_law_box" s__law_box f fd) (Z : Zs mg) : FnOk P w K mg base CX0 1 f fd ["script", "k"] (spBox K) := by
  refine F.ok sc__law_box (fun vs H Q E h => ?_) (fun cdv A outer s H vs Q E hr h => ⟨_, PSs.nox (pss_cons (ps_set (i := 2) sc__law_box.nd rfl (by first | exact Or.inl rfl | exact Or.inr rfl) (pe_op op_add (pe_op op_mul pe_int (pv 1)) pe_int))
  (pss_cons (ps_if (pt_cmpR op_lt (pv 1) (pe_callB (kc_len (K := K)) (by rfl) Z.len PySem.boot_len (pa_cons (pv 0) pa_nil)) (nomark _)) (pss_one (ps_set (i := 2) sc__law_box.nd rfl (by first | exact Or.inl rfl | exact Or.inr rfl) (pe_callB call_abs (by rfl) Z.abs (by decide +kernel) (pa_cons (pe_ix (kx_list (K := K)) (pv 0) (pv 1) (fun _ _ => rfl)) pa_nil)))) (pss_one (ps_if (pt_cmpR op_gt (pe_callB (kc_len (K := K)) (by rfl) Z.len PySem.boot_len (pa_cons (pv 0) pa_nil)) pe_int (nomark _)) (pss_one (ps_set (i := 2) sc__law_box.nd rfl (by first | exact Or.inl rfl | exact Or.inr rfl) (pe_op op_add (pv 2) (pe_op op_mul (pe_op op_mod (pe_callTy call_int1 (by rfl) Z.int (by decide +kernel) (pa_cons (pe_callB call_abs (by rfl) Z.abs (by decide +kernel) (pa_cons (pe_ix (kx_list (K := K)) (pv 0) (pe_op op_mod (pe_callTy call_int1 (by rfl) Z.int (by decide +kernel) (pa_cons (pv 1) pa_nil)) (pe_callB (kc_len (K := K)) (by rfl) Z.len PySem.boot_len (pa_cons (pv 0) pa_nil))) (fun _ _ => rfl)) pa_nil)) pa_nil)) pe_int) pe_int)))) pss_nil)))
  (pss_one (ps_ret (pe_lst (pa_cons (pe_ix (kx_list (K := K)) (pe_lst (pa_cons pe_int (pa_cons (pv 2) pa_nil))) (pe_callTy call_int1 (by rfl) Z.int (by decide +kernel) (pa_cons (pe_cmpR op_ge (pv 2) (pe_op op_pow pe_int pe_int) (nomark _)) pa_nil)) (fun _ _ => rfl)) (pa_cons (pe_op op_add (pe_op op_mod (pe_callTy call_int1 (by rfl) Z.int (by decide +kernel) (pa_cons (pe_op op_add (pe_op op_mul (pe_op op_mod (pe_callTy call_int1 (by rfl) Z.int (by decide +kernel) (pa_cons (pv 2) pa_nil)) pe_int) pe_int) (pe_op op_mul pe_int (pv 1))) pa_nil)) pe_int) pe_int) (pa_cons pe_int pa_nil)))))))), ?_⟩)
  · obtain ⟨a, ns, k, rfl, _⟩ := h
    rfl
  · obtain ⟨a, ns, k, rfl, ha, hk, hl, q⟩ := h
    refine ⟨_, rfl, _, _, rfl, rfl, .inl ⟨by decide, by decide⟩, _, _, rfl, rfl, ?_⟩
    dsimp only [gName]
    refine if_both (fun σ' H2 => H2 = H ∧ ∃ c : Int, 0 ≤ c ∧ σ' = [some (.ref a), some (.int (k : Int)), some (.int c)]) ?_ ?_
    · rintro σ' H2 ⟨rfl, c, c0, rfl⟩
      refine ⟨_, rfl, by show 2 ≤ sizeLine; decide, fun L hL => ⟨_, rfl, _, _, rfl, rfl, ⟨by decide, by decide, by decide⟩, _, _, rfl, rfl, ?_⟩⟩
      have eL := Ex.new (o := .lst [V.int 0, .int c]) hL
      have key : ∀ x : Int, 0 ≤ x → ∀ d : Addr, upd H2 L (.lst [V.int 0, .int c]) d = none → ∀ m : Int, Q (.ref d) (upd (upd H2 L (.lst [V.int 0, .int c])) d (.lst [.int x, .int m, .int 0])) := fun x hx d hd m =>
        q d _ ⟨eL.trans (Ex.new hd), fresh_back eL hd, x, m, 0, upd_same, hx⟩
      refine .inr ⟨_, rfl, L, _, _, .int (if (10 : Int) ^ (18 : Int).toNat ≤ c then c else 0), rfl, rfl, sq_of upd_same, ?_, ?_⟩
      · by_cases big : (10 : Int) ^ (18 : Int).toNat ≤ c
        · rw [decide_eq_true big, if_pos big]
          rfl
        · rw [decide_eq_false big, if_neg big]
          rfl
      · refine ⟨_, rfl, .inl ⟨_, rfl, _, _, rfl, rfl, (show (0 : Int) < 2147483629 by decide), _, _, rfl, rfl, .inr ⟨by decide, by decide⟩, _, rfl, _, _, rfl, rfl, .inl ⟨by decide, by decide⟩, _, _, rfl, rfl, .inl ⟨_, rfl, _, _, rfl, rfl, (show (0 : Int) < 2147483629 by decide), _, _, rfl, rfl, by show 3 ≤ sizeLine; decide, fun d hd => key _ ?_ d hd _⟩⟩⟩
        split
        · exact c0
        · exact Int.le_refl 0
    · intro nx hn
      refine ⟨_, rfl, _, rfl, a, _, rfl, .inl ha, _, _, rfl, rfl, _, rfl, ?_⟩
      rw [List.length_map]
      by_cases c1 : k < ns.length
      · rw [decide_eq_true (show (k : Int) < (ns.length : Int) by omega)]
        refine iteT ⟨_, rfl, _, rfl, a, _, _, _, rfl, rfl, ha, atI_int c1, _, rfl, ?_⟩
        refine hn _ _ ⟨rfl, _, ?_, rfl⟩
        split <;> omega
      · rw [decide_eq_false (show ¬ (k : Int) < (ns.length : Int) by omega)]
        refine iteF ⟨_, rfl, a, _, rfl, .inl ha, _, _, rfl, rfl, _, rfl, ?_⟩
        rw [List.length_map]
        by_cases c2 : 0 < ns.length
        · rw [decide_eq_true (show (0 : Int) < (ns.length : Int) by omega)]
          have hm : (k : Int) % (ns.length : Int) = ((k % ns.length : Nat) : Int) := by rw [Int.natCast_emod]
          have hlt : k % ns.length < ns.length := Nat.mod_lt _ c2
          refine iteT ⟨_, rfl, _, rfl, _, rfl, .inl ⟨_, rfl, _, rfl, a, _, rfl, .inl ha, _, _, rfl, rfl, ?_, ?_⟩⟩
          · show (0 : Int) < ((ns.map V.int).length : Int)
            rw [List.length_map]
            omega
          · refine ⟨a, _, _, .int (ns.getD (k % ns.length) 0), rfl, rfl, ha, by rw [List.length_map, hm]; exact atI_int hlt, _, rfl, .inl ⟨_, rfl, _, _, rfl, rfl, (show (0 : Int) < 2147483629 by decide), _, _, rfl, rfl, .inr ⟨by decide, by decide⟩, _, _, rfl, rfl, ?_⟩⟩
            refine hn _ _ ⟨rfl, _, ?_, rfl⟩
            have h1 : 0 ≤ (if ns.getD (k % ns.length) 0 < 0 then -(ns.getD (k % ns.length) 0) else ns.getD (k % ns.length) 0) % 2147483629 := Int.emod_nonneg _ (by decide)
            omega
        · rw [decide_eq_false (show ¬ (0 : Int) < (ns.length : Int) by omega)]
          exact iteF (hn _ _ ⟨rfl, _, by omega, rfl⟩)
theorem ok__law_take (F : FnP K "_law_take" s__law_take f fd) (Z : Zs mg) : FnOk P w K mg base CX0 1 f fd ["box", "many"] spTake := by
  refine F.ok sc__law_take (fun vs H Q E h => ?_) (fun cdv A outer s H vs Q E hr h => ⟨_, PSs.nox (pss_cons (ps_if (pt_cmpR op_gt (pe_ix (kx_list (K := K)) (pv 0) pe_int (fun _ _ => rfl)) pe_int (nomark _)) (pss_cons (ps_set (i := 2) sc__law_take.nd rfl (by first | exact Or.inl rfl | exact Or.inr rfl) (pe_op op_mod (pe_callTy call_int1 (by rfl) Z.int (by decide +kernel) (pa_cons (pe_ix (kx_list (K := K)) (pv 0) pe_int (fun _ _ => rfl)) pa_nil)) (pv 1)))
  (pss_cons (ps_asg (pe_op op_fdivW (pe_ix (kx_list (K := K)) (pv 0) pe_int (fun _ _ => rfl)) (pv 1)) (pg_sub (pv 0) pe_int set_list))
  (pss_one (ps_ret (pv 2))))) pss_nil)
  (pss_cons (ps_asg (pe_op op_add (pe_ix (kx_list (K := K)) (pv 0) pe_int (fun _ _ => rfl)) pe_int) (pg_sub (pv 0) pe_int set_list))
  (pss_cons (ps_set (i := 3) sc__law_take.nd rfl (by first | exact Or.inl rfl | exact Or.inr rfl) (pe_op op_mod (pe_callTy call_int1 (by rfl) Z.int (by decide +kernel) (pa_cons (pe_op op_add (pe_op op_mul (pe_op op_add (pe_ix (kx_list (K := K)) (pv 0) pe_int (fun _ _ => rfl)) (pe_op op_mul pe_int (pe_ix (kx_list (K := K)) (pv 0) pe_int (fun _ _ => rfl)))) pe_int) pe_int) pa_nil)) pe_int))
  (pss_cons (ps_asg (pe_op op_add (pe_op op_mod (pe_callTy call_int1 (by rfl) Z.int (by decide +kernel) (pa_cons (pe_op op_add (pe_op op_mul (pv 3) pe_int) pe_int) pa_nil)) pe_int) pe_int) (pg_sub (pv 0) pe_int set_list))
  (pss_one (ps_ret (pe_op op_mod (pe_callTy call_int1 (by rfl) Z.int (by decide +kernel) (pa_cons (pe_op op_fdivW (pe_op op_add (pe_op op_mul (pv 3) pe_int) (pe_ix (kx_list (K := K)) (pv 0) pe_int (fun _ _ => rfl))) pe_int) pa_nil)) (pv 1)))))))), ?_⟩)
  · obtain ⟨a, R, b, rfl, _⟩ := h
    rfl
  · obtain ⟨a, R, b, rfl, hw, b0, bl, k⟩ := h
    obtain ⟨c, m, t, hb, c0⟩ := hw.box
    refine ⟨_, rfl, a, _, 0, .int c, rfl, rfl, sq_of hb, rfl, _, _, rfl, rfl, _, rfl, ?_⟩
    by_cases cp : 0 < c
    · rw [decide_eq_true cp]
      refine iteT ⟨_, rfl, a, _, 0, .int c, rfl, rfl, sq_of hb, rfl, .inl ⟨_, rfl, _, rfl, _, _, rfl, rfl, b0, ?_⟩⟩
      refine ⟨_, rfl, a, _, 0, .int c, rfl, rfl, sq_of hb, rfl, _, rfl, _, _, rfl, rfl, ⟨b0, bl⟩, _, rfl, a, _, 0, 0, rfl, rfl, hb, rfl, ?_⟩
      exact ⟨_, rfl, k _ _ (Int.emod_nonneg _ (by omega)) (Int.emod_lt_of_pos _ b0) (hw.set (c := c / b) (m := m) (k := t) (Int.ediv_nonneg c0 (by omega)))⟩
    · rw [decide_eq_false cp]
      refine iteF ?_
      refine ⟨_, rfl, a, _, 2, .int t, rfl, rfl, sq_of hb, rfl, _, _, rfl, rfl, _, rfl, a, _, 2, 2, rfl, rfl, hb, rfl, ?_⟩
      have w2 := hw.set (c := c) (m := m) (k := t + 1) c0
      refine ⟨_, rfl, a, _, 1, .int m, rfl, rfl, sq_of upd_same, rfl, _, rfl, a, _, 2, .int (t + 1), rfl, rfl, sq_of upd_same, rfl, _, _, rfl, rfl, .inl ⟨by decide, by decide⟩, _, _, rfl, rfl, _, _, rfl, rfl, .inr ⟨by decide, by decide⟩, _, _, rfl, rfl, .inl ⟨_, rfl, _, _, rfl, rfl, (show (0 : Int) < 2147483563 by decide), ?_⟩⟩
      refine ⟨_, rfl, _, _, rfl, rfl, .inr ⟨by decide, by decide⟩, _, _, rfl, rfl, .inl ⟨_, rfl, _, _, rfl, rfl, (show (0 : Int) < 2147483629 by decide), _, _, rfl, rfl, _, rfl, a, _, 1, 1, rfl, rfl, upd_same, rfl, ?_⟩⟩
      have w3 := w2.set (c := c) (m := (((m + 70003 * (t + 1)) * 61223 + 41) % 2147483563 * 38021 + 23063) % 2147483629 + 1) (k := t + 1) c0
      exact ⟨_, rfl, _, _, rfl, rfl, .inr ⟨by decide, by decide⟩, _, rfl, a, _, 1, .int _, rfl, rfl, sq_of upd_same, rfl, _, _, rfl, rfl, _, _, rfl, rfl, ⟨by decide, by decide⟩, .inl ⟨_, rfl, _, rfl, _, _, rfl, rfl, b0, k _ _ (Int.emod_nonneg _ (by omega)) (Int.emod_lt_of_pos _ b0) w3⟩⟩
theorem ok__law_pick (F : FnP K "_law_pick" s__law_pick f fd) (Z : Zs mg) (G__law_take : Fn P w K mg base CX0 1 "_law_take" s__law_take ["box", "many"] spTake) : FnOk P w K mg base CX0 2 f fd ["box", "some"] (spPick K) := by
  refine F.ok sc__law_pick (fun vs H Q E h => ?_) (fun cdv A outer s H vs Q E hr h => ⟨_, PSs.nox (pss_one (ps_ret (pe_ix (kx_seqB (K := K)) (pv 1) (pe_callF G__law_take (hr.mono (by decide)) rfl pass0 (pa_cons (pv 0) (pa_cons (pe_callB (kc_len (K := K)) (by rfl) Z.len PySem.boot_len (pa_cons (pv 1) pa_nil)) pa_nil))) (fun _ _ => rfl)))), ?_⟩)
  · obtain ⟨a, p, b, R, xs, rfl, _⟩ := h
    rfl
  · obtain ⟨a, p, b, R, xs, rfl, hw, hp, hne, hz, k⟩ := h
    have hlen : 0 < xs.length := List.length_pos_iff.mpr hne
    refine ⟨_, rfl, _, rfl, _, rfl, p, _, rfl, (hp.ex hw.ex).or, a, R, (xs.length : Int), rfl, hw, Int.ofNat_lt.mpr hlen, ?_, fun r H1 h0 h1 hw1 => ?_⟩
    · have := Nat.log2_le_self xs.length
      show xs.length.log2 < 9000
      omega
    · obtain ⟨i, rfl⟩ : ∃ i : Nat, r = (i : Int) := ⟨r.toNat, by omega⟩
      have hi : i < xs.length := by omega
      have hx : xs[i]? = some xs[i] := List.getElem?_eq_getElem hi
      exact ⟨p, b, _, _, xs[i], rfl, rfl, hp.ex hw1.ex, atI_nat hx, k i _ _ hx hw1⟩
end
end K47

namespace K47
open PySem PySem.Spec PyProof.Rows L2 Evl Own
theorem upd_upd {H : Hp} {p : Addr} {a b : HO} : upd (upd H p a) p b = upd H p b := by
  funext x
  by_cases e : x = p
  · subst e
    rw [upd_same, upd_same]
  · rw [upd_ne e, upd_ne e, upd_ne e]
def spSrt (g : Srt → Nat) : Sp := fun vs H Q _ => ∃ s : Srt, vs = [.str s.s] ∧ ∀ H', Ex H H' → Q (.int (g s : Nat)) H'
def pick3 {α : Type} (s : Srt) (x y z : α) : α := match s with | .two => x | .twice => y | .three => z
/-- a table of three things, by sort -/
theorem get3 {H : Hp} {p : Addr} (s : Srt) {x y z : V} (h : H p = some (.dK (mergeK [] [(Sum.inr "two", x), (Sum.inr "twice", y), (Sum.inr "three", z)]))) : DGet H p (.str s.s) (some (pick3 s x y z)) := by
  cases s
  · exact DGet.k (k := Sum.inr "two") h
  · exact DGet.k (k := Sum.inr "twice") h
  · exact DGet.k (k := Sum.inr "three") h
section
variable {P : Program} {w : World} {K : PySem.W.Frag} {mg : Str → Option Value} {base : Heap} {f : Addr} {fd : FuncData}
theorem ok__law_by (F : FnP K "_law_by" s__law_by f fd) (Z : Zs mg) : FnOk P w K mg base CX0 1 f fd ["sort"] (spSrt Srt.by_) := by
  refine F.ok sc__law_by (fun vs H Q E h => ?_) (fun cdv A outer s H vs Q E hr h => ⟨_, PSs.nox (pss_one (ps_ret (pe_dget (hu_of hr) (pe_disp (pps_cons pe_str pe_int (pps_cons pe_str pe_int (pps_cons pe_str pe_int pps_nil))) (by rfl) (by rfl) (fun z => by cases z) (by decide)) (pv 0) (fun _ _ => rfl)))), ?_⟩)
  · obtain ⟨s, rfl, _⟩ := h
    rfl
  · obtain ⟨s, rfl, k⟩ := h
    refine fun p hp => ⟨upd_same, [(Sum.inr "two", .int 2), (Sum.inr "twice", .int 4), (Sum.inr "three", .int 3)], rfl, by show 3 ≤ 15; decide, ?_⟩
    rw [upd_upd]
    refine ⟨_, rfl, p, _, rfl, get3 s upd_same, ?_⟩
    have := k _ (Ex.new (o := .dK (mergeK [] [(Sum.inr "two", .int 2), (Sum.inr "twice", .int 4), (Sum.inr "three", .int 3)])) hp)
    cases s <;> exact this
theorem ok__law_letters (F : FnP K "_law_letters" s__law_letters f fd) (Z : Zs mg) : FnOk P w K mg base CX0 1 f fd ["sort"] (spSrt Srt.q) := by
  refine F.ok sc__law_letters (fun vs H Q E h => ?_) (fun cdv A outer s H vs Q E hr h => ⟨_, PSs.nox (pss_one (ps_ret (pe_dget (hu_of hr) (pe_disp (pps_cons pe_str pe_int (pps_cons pe_str pe_int (pps_cons pe_str pe_int pps_nil))) (by rfl) (by rfl) (fun z => by cases z) (by decide)) (pv 0) (fun _ _ => rfl)))), ?_⟩)
  · obtain ⟨s, rfl, _⟩ := h
    rfl
  · obtain ⟨s, rfl, k⟩ := h
    refine fun p hp => ⟨upd_same, [(Sum.inr "two", .int 2), (Sum.inr "twice", .int 2), (Sum.inr "three", .int 3)], rfl, by show 3 ≤ 15; decide, ?_⟩
    rw [upd_upd]
    refine ⟨_, rfl, p, _, rfl, get3 s upd_same, ?_⟩
    have := k _ (Ex.new (o := .dK (mergeK [] [(Sum.inr "two", .int 2), (Sum.inr "twice", .int 2), (Sum.inr "three", .int 3)])) hp)
    cases s <;> exact this
def nbnd : Srt → Nat
  | .two => 14
  | .twice => 16
  | .three => 12
def spRoom : Sp := fun vs H Q _ => ∃ (a : Addr) (R : Hp) (s : Srt), vs = [.ref a, .str s.s] ∧ Bx a R H ∧ ∀ (n : Nat) (H' : Hp), n ≤ nbnd s → n % s.step = 0 → Bx a R H' → Q (.int (n : Int)) H'
def lens : Srt → List Int
  | .two => [0, 2, 4, 6, 8, 10, 12, 14]
  | .twice => [8, 8, 16]
  | .three => [4, 8, 12]
theorem lens_ok (s : Srt) : ∀ x ∈ lens s, ∃ n : Nat, x = (n : Int) ∧ n ≤ nbnd s ∧ n % s.step = 0 := by
  cases s <;> intro x hx
  · refine ⟨x.toNat, ?_, ?_, ?_⟩ <;> revert x hx <;> decide
  · refine ⟨x.toNat, ?_, ?_, ?_⟩ <;> revert x hx <;> decide
  · refine ⟨x.toNat, ?_, ?_, ?_⟩ <;> revert x hx <;> decide
theorem _root_.Own.Tp.dmut {K : PySem.W.Frag} {H : Hp} {p t : Addr} {es : List (Key × V)} {xs : List V} {o' : HO} (h : Tp K H t xs) (hp : H p = some (.dK es)) : Tp K (upd H p o') t xs := by
  rcases h with ⟨o, g1, g2⟩ | h
  · have : t ≠ p := fun z => by
      rw [z, hp] at g2
      cases g2
    exact .inl ⟨o, g1, by rw [upd_ne this]; exact g2⟩
  · exact .inr h
theorem ok__law_near_room (F : FnP K "_law_near_room" s__law_near_room f fd) (Z : Zs mg) (G__law_take : Fn P w K mg base CX0 1 "_law_take" s__law_take ["box", "many"] spTake) (G__law_pick : Fn P w K mg base CX0 2 "_law_pick" s__law_pick ["box", "some"] (spPick K)) : FnOk P w K mg base CX0 3 f fd ["box", "sort"] spRoom := by
  refine F.ok sc__law_near_room (fun vs H Q E h => ?_) (fun cdv A outer s H vs Q E hr h => ⟨_, PSs.nox (pss_cons (ps_set (i := 2) sc__law_near_room.nd rfl (by first | exact Or.inl rfl | exact Or.inr rfl) (pe_disp (pps_cons pe_str (pe_tupF (pa_cons pe_int (pa_cons pe_int (pa_cons pe_int (pa_cons pe_int (pa_cons pe_int (pa_cons pe_int (pa_cons pe_int (pa_cons pe_int pa_nil))))))))) (pps_cons pe_str (pe_tupF (pa_cons pe_int (pa_cons pe_int (pa_cons pe_int pa_nil)))) (pps_cons pe_str (pe_tupF (pa_cons pe_int (pa_cons pe_int (pa_cons pe_int pa_nil)))) pps_nil))) (by rfl) (by rfl) (fun z => by cases z) (by decide)))
  (pss_cons (ps_if (pt_cmpR op_eq (pe_callF G__law_take (hr.mono (by decide)) rfl pass0 (pa_cons (pv 0) (pa_cons pe_int pa_nil))) pe_int (nomark _)) (pss_one (ps_ret (pe_ix (kx_tup (K := K)) (pe_dget (hu_of hr) (pv 2) (pv 1) (fun _ _ => rfl)) (pe_un un_neg pe_int) (fun _ _ => rfl)))) pss_nil)
  (pss_one (ps_ret (pe_callF G__law_pick (hr.mono (by decide)) rfl pass0 (pa_cons (pv 0) (pa_cons (pe_dget (hu_of hr) (pv 2) (pv 1) (fun _ _ => rfl)) pa_nil))))))), ?_⟩)
  · obtain ⟨a, R, s, rfl, _⟩ := h
    rfl
  · obtain ⟨a, R, s, rfl, hw, k⟩ := h
    refine fun p hp => ⟨by show 8 ≤ sizeLine; decide, fun f1 o1 hf1 ho1 => ⟨by show 3 ≤ sizeLine; decide, fun f2 o2 hf2 ho2 => ⟨by show 3 ≤ sizeLine; decide, fun f3 o3 hf3 ho3 => ?_⟩⟩⟩
    have w0 := hw.new (o := .dK []) hp
    have w1 := w0.new (o := .frz o1 (.tup ((lens .two).map V.int))) hf1
    have w2 := w1.new (o := .frz o2 (.tup ((lens .twice).map V.int))) hf2
    have w3 := w2.new (o := .frz o3 (.tup ((lens .three).map V.int))) hf3
    have r0 := Ex.new (o := .dK []) (hw.free hp)
    have r1 := Ex.new (o := .frz o1 (.tup ((lens .two).map V.int))) (w0.free hf1)
    have r2 := Ex.new (o := .frz o2 (.tup ((lens .twice).map V.int))) (w1.free hf2)
    have r3 := Ex.new (o := .frz o3 (.tup ((lens .three).map V.int))) (w2.free hf3)
    have t1 := (Tp.of (K := K) ho1 (upd_same (H := upd R p (.dK [])) (a := f1) (o := .frz o1 (.tup ((lens .two).map V.int))))).ex (r2.trans r3)
    have t2 := (Tp.of (K := K) ho2 (upd_same (H := upd (upd R p (.dK [])) f1 (.frz o1 (.tup ((lens .two).map V.int)))) (a := f2) (o := .frz o2 (.tup ((lens .twice).map V.int))))).ex r3
    have t3 := Tp.of (K := K) ho3 (upd_same (H := upd (upd (upd R p (.dK [])) f1 (.frz o1 (.tup ((lens .two).map V.int)))) f2 (.frz o2 (.tup ((lens .twice).map V.int)))) (a := f3) (o := .frz o3 (.tup ((lens .three).map V.int))))
    have d3 := (r1.trans (r2.trans r3)) _ _ (upd_same (H := R) (a := p) (o := .dK []))
    have q3 := r0.trans (r1.trans (r2.trans r3))
    generalize upd (upd (upd (upd R p (.dK [])) f1 (.frz o1 (.tup ((lens .two).map V.int)))) f2 (.frz o2 (.tup ((lens .twice).map V.int)))) f3 (.frz o3 (.tup ((lens .three).map V.int))) = R3 at w3 t1 t2 t3 d3 q3
    clear r0 r1 r2 r3 w0 w1 w2
    have w4 := w3.mut (o' := .dK (mergeK [] [(Sum.inr "two", .ref f1), (Sum.inr "twice", .ref f2), (Sum.inr "three", .ref f3)])) d3
    have q4 : Ex R (upd R3 p (.dK (mergeK [] [(Sum.inr "two", .ref f1), (Sum.inr "twice", .ref f2), (Sum.inr "three", .ref f3)]))) := ex_side q3 (hw.free hp)
    replace t1 := t1.dmut (o' := .dK (mergeK [] [(Sum.inr "two", .ref f1), (Sum.inr "twice", .ref f2), (Sum.inr "three", .ref f3)])) d3
    replace t2 := t2.dmut (o' := .dK (mergeK [] [(Sum.inr "two", .ref f1), (Sum.inr "twice", .ref f2), (Sum.inr "three", .ref f3)])) d3
    replace t3 := t3.dmut (o' := .dK (mergeK [] [(Sum.inr "two", .ref f1), (Sum.inr "twice", .ref f2), (Sum.inr "three", .ref f3)])) d3
    have d4 : upd R3 p (.dK (mergeK [] [(Sum.inr "two", .ref f1), (Sum.inr "twice", .ref f2), (Sum.inr "three", .ref f3)])) p = some (.dK (mergeK [] [(Sum.inr "two", .ref f1), (Sum.inr "twice", .ref f2), (Sum.inr "three", .ref f3)])) := upd_same
    have t : Tp K (upd R3 p (.dK (mergeK [] [(Sum.inr "two", .ref f1), (Sum.inr "twice", .ref f2), (Sum.inr "three", .ref f3)]))) (pick3 s f1 f2 f3) ((lens s).map V.int) := by cases s <;> assumption
    generalize upd R3 p (.dK (mergeK [] [(Sum.inr "two", .ref f1), (Sum.inr "twice", .ref f2), (Sum.inr "three", .ref f3)])) = R4 at w4 q4 t d4
    refine ⟨w3.ex _ _ d3, [(Sum.inr "two", .ref f1), (Sum.inr "twice", .ref f2), (Sum.inr "three", .ref f3)], rfl, by show 3 ≤ 15; decide, ?_⟩
    have pk : ∀ H' : Hp, Bx a R4 H' → DGet H' p (.str s.s) (some (.ref (pick3 s f1 f2 f3))) := fun H' w => by
      have := get3 s (w.ex _ _ d4)
      cases s <;> exact this
    have ret : ∀ (x : Int) (H' : Hp), x ∈ lens s → Bx a R4 H' → Q (.int x) H' := fun x H' hx w => by
      obtain ⟨n, rfl, h1, h2⟩ := lens_ok s x hx
      exact k n H' h1 h2 (w.weak q4)
    refine ⟨_, rfl, a, R4, 3, rfl, w4, by decide, by decide, fun r H5 r0 r1 w5 => ⟨rfl, _, rfl, ?_⟩⟩
    rw [dec_int]
    cases c : r == 0 with
    | true =>
      refine iteT ⟨_, rfl, _, rfl, p, _, rfl, pk _ w5, _, rfl, pick3 s f1 f2 f3, _, _, .int (pick3 s 14 16 12), rfl, rfl, (t.ex w5.ex).sq, by cases s <;> rfl, ret _ _ (by cases s <;> decide) w5⟩
    | false =>
      refine iteF ⟨_, rfl, _, rfl, _, rfl, p, _, rfl, pk _ w5, a, _, true, R4, _, rfl, w5, sqb_t t, by cases s <;> simp [lens], by cases s <;> decide, fun i v H6 hv w6 => ?_⟩
      obtain ⟨rfl, hi⟩ := int_at hv
      exact ret _ _ (Own.getD_mem hi) w6
end
end K47

namespace K47
open PySem PySem.Spec PyProof.Rows L2 Evl Own
def spFirst (K : PySem.W.Frag) : Sp := fun vs H Q _ => ∃ (p : Addr) (xs : List Int), vs = [.ref p] ∧ Tp K H p (iL xs) ∧ xs.length ≤ 1000 ∧ Q (.int (firstF xs : Nat)) H
def spWorth (K : PySem.W.Frag) : Sp := fun vs H Q _ => ∃ (q n : Nat) (p r : Addr) (xs ys : List Int), vs = [.int (q : Int), .ref p, .ref r] ∧ Tp K H p (iL xs) ∧ Tp K H r (iL ys) ∧ n ≤ 1000 ∧ 2 ≤ q ∧ q ≤ 3 ∧ RowOk q n xs ∧ RowOk q n ys ∧ ∀ H', Ex H H' → Q (.int (worthF q xs ys)) H'
def spWeight (K : PySem.W.Frag) : Sp := fun vs H Q _ => ∃ (p : Addr) (xs : List Int), vs = [.ref p] ∧ Tp K H p (iL xs) ∧ Q (.int (weightF xs : Nat)) H
def spInside (K : PySem.W.Frag) : Sp := fun vs H Q _ => ∃ (q n : Nat) (p : Addr) (rows : List (List Int)), vs = [.int (q : Int), .ref p] ∧ TpR K H p rows ∧ n ≤ 1000 ∧ rows.length ≤ 1000 ∧ 2 ≤ q ∧ q ≤ 3 ∧ (∀ r ∈ rows, RowOk q n r) ∧ ∀ H', Ex H H' → Q (.bl (insideB q rows)) H'
section
variable {P : Program} {w : World} {K : PySem.W.Frag} {mg : Str → Option Value} {base : Heap} {f : Addr} {fd : FuncData}
theorem ok__law_first (F : FnP K "_law_first" s__law_first f fd) (Z : Zs mg) : FnOk P w K mg base CX0 1 f fd ["row"] (spFirst K) := by
  refine F.ok sc__law_first (fun vs H Q E h => ?_) (fun cdv A outer s H vs Q E hr h => ⟨_, PSs.nox (pss_cons (ps_for PassesOwn.never rfl (pi_range1 (by rfl) Z.range (pa_cons (pe_callB (kc_len (K := K)) (by rfl) Z.len PySem.boot_len (pa_cons (pv 0) pa_nil)) pa_nil)) (pg_name (i := 1) sc__law_first.nd rfl (by first | exact Or.inl rfl | exact Or.inr rfl)) (pss_one (ps_if (pt_cmpR op_ne (pe_ix (kx_tup (K := K)) (pv 0) (pv 1) (fun _ _ => rfl)) pe_int (nomark _)) (pss_one (ps_ret (pv 1))) pss_nil)))
  (pss_one (ps_ret (pe_callB (kc_len (K := K)) (by rfl) Z.len PySem.boot_len (pa_cons (pv 0) pa_nil))))), ?_⟩)
  · obtain ⟨p, xs, rfl, _⟩ := h
    rfl
  · obtain ⟨p, xs, rfl, hp, few, k⟩ := h
    refine ⟨_, rfl, p, _, rfl, .inr hp.sq, _, rfl, by omega, by unfold iL; rw [List.length_map]; omega, ?_⟩
    unfold iL
    rw [List.length_map, Int.toNat_natCast]
    refine for_range (lo := 0) (n := xs.length) (fun i σ H' => H' = H ∧ (∀ j, j < i → xs.getD j 0 = 0) ∧ ∃ v, σ = [some (.ref p), v]) ⟨rfl, fun j hj => by omega, none, rfl⟩ (fun i σ H' hi y => ?_) (fun σ H' y => ?_)
    · obtain ⟨rfl, h0, v, rfl⟩ := y
      have e0 : (0 : Int) + (i : Int) = (i : Int) := by omega
      show gName _ (V.int ((0 : Int) + (i : Int))) _ _ _
      rw [e0]
      refine ⟨_, rfl, _, rfl, p, _, _, _, rfl, rfl, hp.sq, atI_int hi, rfl, _, rfl, ?_⟩
      rw [dec_int]
      by_cases c : xs.getD i 0 = 0
      · rw [c]
        refine iteF ⟨rfl, fun j hj => ?_, _, rfl⟩
        by_cases e : j = i
        · rw [e]
          exact c
        · exact h0 j (by omega)
      · rw [beq_eq_false_iff_ne.mpr c]
        refine iteT ⟨_, rfl, ?_⟩
        rw [first_of hi h0 c] at k
        exact k
    · obtain ⟨rfl, h0, v, rfl⟩ := y
      rw [first_none h0] at k
      refine ⟨_, rfl, p, _, rfl, .inr hp.sq, ?_⟩
      unfold iL
      rw [List.length_map]
      exact k
theorem ok__law_worth (F : FnP K "_law_worth" s__law_worth f fd) (Z : Zs mg) : FnOk P w K mg base CX0 1 f fd ["letters", "one", "other"] (spWorth K) := by
  refine F.ok sc__law_worth (fun vs H Q E h => ?_) (fun cdv A outer s H vs Q E hr h => ⟨_, PSs.nox (pss_one (ps_ret (pe_op op_mod (pe_callTy call_int1 (by rfl) Z.int (by decide +kernel) (pa_cons (pe_callB (kc_sum (K := K) rfl) (by rfl) Z.sum (by decide +kernel) (pa_cons (pe_lc (own := [("at", 3)]) (g := (gName 3)) rfl sc__law_worth.nd (pi_range1 (by rfl) Z.range (pa_cons (pe_callB (kc_len (K := K)) (by rfl) Z.len PySem.boot_len (pa_cons (pv 1) pa_nil)) pa_nil)) (blkOk_by (own := [("at", 3)]) (N := ["letters", "one", "other", "at"]) (sc := defScope s__law_worth) (by decide +kernel)) (fun _ _ _ _ _ => (pg_name (i := 3) sc__law_worth.nd rfl (Or.inl rfl))) (fun _ _ _ _ _ => pts_nil) (fun _ _ _ _ _ => (pe_op op_mul (pe_ix (kx_tup (K := K)) (pv 1) (pv 3) (fun _ _ => rfl)) (pe_ix (kx_tup (K := K)) (pv 2) (pv 3) (fun _ _ => rfl))))) pa_nil)) pa_nil)) (pv 0)))), ?_⟩)
  · obtain ⟨q, n, p, r, xs, ys, rfl, _⟩ := h
    rfl
  · obtain ⟨q, n, p, r, xs, ys, rfl, hp, hr', few, q0, q1, ox, oy, k⟩ := h
    have lx := ox.1
    have ly := oy.1
    refine ⟨_, rfl, p, _, rfl, .inr hp.sq, _, rfl, by omega, by unfold iL; rw [List.length_map]; omega, ?_⟩
    unfold iL at hp hr' ⊢
    rw [List.length_map, Int.toNat_natCast]
    refine lcP (walk_range (lo := 0)) (fun _ _ => trivial) (by omega) (fun _ => true) (fun i => V.int (xs.getD i 0 * ys.getD i 0)) (fun i H1 x H2 hi e y K1 K0 k1 k0 => ?_) (fun d H2 hd e2 h2 => ?_)
    · obtain ⟨rfl, rfl⟩ := y
      have e0 : (0 : Int) + (i : Int) = (i : Int) := by omega
      show gName _ (V.int ((0 : Int) + (i : Int))) _ _ _
      rw [e0]
      have bx := ox.at i (by omega)
      exact ⟨rfl, yes_go ⟨_, rfl, _, rfl, p, _, _, _, rfl, rfl, (hp.ex e).sq, atI_int hi, _, rfl, _, rfl, r, _, _, _, rfl, rfl, (hr'.ex e).sq, atI_int (by omega), _, _, rfl, rfl, .inl ⟨by omega, by omega⟩, k1 rfl _ (Ex.refl _)⟩⟩
    · rw [given_all] at h2
      have e : (List.range xs.length).map (fun i => V.int (xs.getD i 0 * ys.getD i 0)) = ((List.range xs.length).map fun i => xs.getD i 0 * ys.getD i 0).map V.int := by
        rw [List.map_map]
        rfl
      rw [e] at h2
      exact ⟨d, _, rfl, sq_of h2, .inl ⟨_, rfl, _, rfl, _, _, rfl, rfl, by omega, k _ e2⟩⟩
theorem ok__law_weight (F : FnP K "_law_weight" s__law_weight f fd) (Z : Zs mg) : FnOk P w K mg base CX0 1 f fd ["row"] (spWeight K) := by
  refine F.ok sc__law_weight (fun vs H Q E h => ?_) (fun cdv A outer s H vs Q E hr h => ⟨_, PSs.nox (pss_one (ps_ret (pe_op op_sub (pe_callB (kc_len (K := K)) (by rfl) Z.len PySem.boot_len (pa_cons (pv 0) pa_nil)) (km_count (K := K) (pv 0) (pa_cons pe_int pa_nil))))), ?_⟩)
  · obtain ⟨p, xs, rfl, _⟩ := h
    rfl
  · obtain ⟨p, xs, rfl, hp, k⟩ := h
    refine ⟨_, rfl, p, _, rfl, .inr hp.sq, _, rfl, ⟨p, _, rfl, hp⟩, p, xs, 0, rfl, rfl, hp, _, _, rfl, rfl, ?_⟩
    have e : ((iL xs).length : Int) - ((xs.count 0 : Nat) : Int) = ((weightF xs : Nat) : Int) := by
      unfold weightF iL
      rw [List.length_map]
      have := List.count_le_length (a := (0 : Int)) (l := xs)
      omega
    show Q (V.int (((iL xs).length : Int) - ((xs.count 0 : Nat) : Int))) H
    rw [e]
    exact k
theorem cut_at {xs : List V} {i : Nat} (h : i ≤ xs.length) : cutV xs (some (i : Int)) none = xs.drop i := by
  unfold cutV
  have e1 : HT.sIx xs.length 0 (some (i : Int)) = i := by
    show HT.sIx xs.length 0 (some (i : Int)) = i
    rw [HT.sIx_nat]
    omega
  have e2 : HT.sIx xs.length xs.length none = xs.length := rfl
  rw [e1, e2]
  exact List.take_of_length_le (by rw [List.length_drop]; omega)
theorem no_part {σ : L2.St} {H : Hp} {Q : Option Int → Hp → Prop} (h : Q none H) : tNoPart σ H Q := h
theorem ref_at {es : List Addr} {i : Nat} {x : V} (h : (es.map V.ref)[i]? = some x) : ∃ e, x = .ref e ∧ es[i]? = some e := by
  rw [List.getElem?_map] at h
  cases he : es[i]? with
  | none =>
    rw [he] at h
    cases h
  | some e =>
    rw [he] at h
    cases h
    exact ⟨e, rfl, rfl⟩
end
end K47

namespace K47
open PySem PySem.Spec PyProof.Rows L2 Evl Own
def spPlus (K : PySem.W.Frag) : Sp := fun vs H Q _ => ∃ (q n : Nat) (p r : Addr) (xs ys : List Int) (m : Int), vs = [.int (q : Int), .ref p, .ref r, .int m] ∧ Tp K H p (iL xs) ∧ Tp K H r (iL ys) ∧ n ≤ 1000 ∧ 2 ≤ q ∧ q ≤ 3 ∧ xs.length = n ∧ ys.length = n ∧ -1000 ≤ m ∧ m ≤ 1000 ∧ RetU K (iL (plusF q xs ys m)) H Q
/-- rows in a list (false) or a tuple (true) -/
def RwB (K : PySem.W.Frag) (b : Bool) (H : Hp) (p : Addr) (rows : List (List Int)) : Prop := ∃ es : List Addr, (match b with | true => Tp K H p (es.map V.ref) | false => H p = some (.lst (es.map V.ref))) ∧ LstG iL K H es rows
theorem RwB.ex {K : PySem.W.Frag} {b : Bool} {H H1 : Hp} {p : Addr} {rows : List (List Int)} (h : RwB K b H p rows) (e : Ex H H1) : RwB K b H1 p rows := by
  obtain ⟨es, h1, h2⟩ := h
  refine ⟨es, ?_, h2.ex e⟩
  cases b
  · exact e _ _ h1
  · exact h1.ex e
theorem RwB.t {K : PySem.W.Frag} {H : Hp} {p : Addr} {rows : List (List Int)} (h : TpR K H p rows) : RwB K true H p rows := h
theorem RwB.sq {K : PySem.W.Frag} {b : Bool} {H : Hp} {p : Addr} {rows : List (List Int)} (h : RwB K b H p rows) : ∃ es : List Addr, SqB K b H p (es.map V.ref) ∧ LstG iL K H es rows := by
  obtain ⟨es, h1, h2⟩ := h
  refine ⟨es, ?_, h2⟩
  cases b
  · exact sqb_l h1
  · exact sqb_t h1
def spWith (K : PySem.W.Frag) : Sp := fun vs H Q _ => ∃ (q n : Nat) (b : Bool) (p r : Addr) (rows : List (List Int)) (row : List Int), vs = [.int (q : Int), .ref p, .ref r] ∧ RwB K b H p rows ∧ Tp K H r (iL row) ∧ n ≤ 100 ∧ rows.length ≤ 100 ∧ (q = 2 ∨ q = 3) ∧ Red q n rows ∧ RowOk q n row ∧
  ∀ (t : Addr) (rows' : List (List Int)) (H' : Hp), Ex H H' → TpR K H' t rows' → WithR q rows row rows' → Q (.ref t) H'
theorem redF_take {q : Nat} {rows : List (List Int)} {row one : List Int} {i : Nat} (h : rows[i]? = some one) : redF q (rows.take (i + 1)) row = redStep q (redF q (rows.take i) row) one := by
  unfold redF
  rw [List.take_add_one, h, List.foldl_append]
  rfl
section
variable {P : Program} {w : World} {K : PySem.W.Frag} {mg : Str → Option Value} {base : Heap} {f : Addr} {fd : FuncData}
theorem ok__law_plus (F : FnP K "_law_plus" s__law_plus f fd) (Z : Zs mg) : FnOk P w K mg base CX0 1 f fd ["letters", "one", "other", "many"] (spPlus K) := by
  refine F.ok sc__law_plus (fun vs H Q E h => ?_) (fun cdv A outer s H vs Q E hr h => ⟨_, PSs.nox (pss_one (ps_ret (pe_callTy (kc_tuple (K := K)) (by rfl) Z.tuple (by decide +kernel) (pa_cons (pe_lc (own := [("at", 4)]) (g := (gName 4)) rfl sc__law_plus.nd (pi_range1 (by rfl) Z.range (pa_cons (pe_callB (kc_len (K := K)) (by rfl) Z.len PySem.boot_len (pa_cons (pv 1) pa_nil)) pa_nil)) (blkOk_by (own := [("at", 4)]) (N := ["letters", "one", "other", "many", "at"]) (sc := defScope s__law_plus) (by decide +kernel)) (fun _ _ _ _ _ => (pg_name (i := 4) sc__law_plus.nd rfl (Or.inl rfl))) (fun _ _ _ _ _ => pts_nil) (fun _ _ _ _ _ => (pe_op op_mod (pe_callTy call_int1 (by rfl) Z.int (by decide +kernel) (pa_cons (pe_op op_add (pe_ix (kx_tup (K := K)) (pv 1) (pv 4) (fun _ _ => rfl)) (pe_op op_mul (pv 3) (pe_ix (kx_tup (K := K)) (pv 2) (pv 4) (fun _ _ => rfl)))) pa_nil)) (pv 0)))) pa_nil)))), ?_⟩)
  · obtain ⟨q, n, p, r, xs, ys, m, rfl, _⟩ := h
    rfl
  · obtain ⟨q, n, p, r, xs, ys, m, rfl, hp, hr', few, q0, q1, lx, ly, m0, m1, k⟩ := h
    refine ⟨_, rfl, p, _, rfl, .inr hp.sq, _, rfl, by omega, by unfold iL; rw [List.length_map]; omega, ?_⟩
    unfold iL at hp hr' ⊢
    rw [List.length_map, Int.toNat_natCast]
    refine lcP (walk_range (lo := 0)) (fun _ _ => trivial) (by omega) (fun _ => true) (fun i => V.int ((xs.getD i 0 + m * ys.getD i 0) % (q : Int))) (fun i H1 x H2 hi e y K1 K0 k1 k0 => ?_) (fun d H2 hd e2 h2 => ?_)
    · obtain ⟨rfl, rfl⟩ := y
      have e0 : (0 : Int) + (i : Int) = (i : Int) := by omega
      show gName _ (V.int ((0 : Int) + (i : Int))) _ _ _
      rw [e0]
      exact ⟨rfl, yes_go ⟨_, rfl, _, rfl, p, _, _, _, rfl, rfl, (hp.ex e).sq, atI_int hi, _, rfl, _, rfl, _, rfl, r, _, _, _, rfl, rfl, (hr'.ex e).sq, atI_int (by omega), _, _, rfl, rfl, .inl ⟨by omega, by omega⟩, _, _, rfl, rfl, .inl ⟨_, rfl, _, rfl, _, _, rfl, rfl, by omega, k1 rfl _ (Ex.refl _)⟩⟩⟩
    · rw [given_all] at h2
      have e : (List.range xs.length).map (fun i => V.int ((xs.getD i 0 + m * ys.getD i 0) % (q : Int))) = iL (plusF q xs ys m) := by
        unfold iL plusF
        rw [List.map_map]
        rfl
      rw [e] at h2
      exact ⟨d, _, rfl, .inl ⟨sq_of h2, k.new e2⟩⟩
theorem ok__law_with (F : FnP K "_law_with" s__law_with f fd) (Z : Zs mg) (G__law_first : Fn P w K mg base CX0 1 "_law_first" s__law_first ["row"] (spFirst K)) (G__law_plus : Fn P w K mg base CX0 1 "_law_plus" s__law_plus ["letters", "one", "other", "many"] (spPlus K)) : FnOk P w K mg base CX0 2 f fd ["letters", "rows", "row"] (spWith K) := by
  refine F.ok sc__law_with (fun vs H Q E h => ?_) (fun cdv A outer s H vs Q E hr h => ⟨_, PSs.nox (pss_cons (ps_set (i := 3) sc__law_with.nd rfl (by first | exact Or.inl rfl | exact Or.inr rfl) (pv 2))
  (pss_cons (ps_for PassesOwn.never rfl (pi_seqB (pv 1)) (pg_name (i := 4) sc__law_with.nd rfl (by first | exact Or.inl rfl | exact Or.inr rfl)) (pss_cons (ps_set (i := 5) sc__law_with.nd rfl (by first | exact Or.inl rfl | exact Or.inr rfl) (pe_ix (kx_tup (K := K)) (pv 3) (pe_callF G__law_first (hr.mono (by decide)) rfl pass0 (pa_cons (pv 4) pa_nil)) (fun _ _ => rfl)))
  (pss_one (ps_if (pt_cmpR op_ne (pv 5) pe_int (nomark _)) (pss_one (ps_set (i := 3) sc__law_with.nd rfl (by first | exact Or.inl rfl | exact Or.inr rfl) (pe_callF G__law_plus (hr.mono (by decide)) rfl pass0 (pa_cons (pv 0) (pa_cons (pv 3) (pa_cons (pv 4) (pa_cons (pe_op op_sub (pv 0) (pv 5)) pa_nil))))))) pss_nil))))
  (pss_cons (ps_set (i := 6) sc__law_with.nd rfl (by first | exact Or.inl rfl | exact Or.inr rfl) (pe_callF G__law_first (hr.mono (by decide)) rfl pass0 (pa_cons (pv 3) pa_nil)))
  (pss_cons (ps_if (pt_cmpR op_eq (pv 6) (pe_callB (kc_len (K := K)) (by rfl) Z.len PySem.boot_len (pa_cons (pv 3) pa_nil)) (nomark _)) (pss_one (ps_ret (pe_callTy (kc_tuple (K := K)) (by rfl) Z.tuple (by decide +kernel) (pa_cons (pv 1) pa_nil)))) pss_nil)
  (pss_cons (ps_set (i := 3) sc__law_with.nd rfl (by first | exact Or.inl rfl | exact Or.inr rfl) (pe_callF G__law_plus (hr.mono (by decide)) rfl pass0 (pa_cons (pv 0) (pa_cons (pv 3) (pa_cons (pv 3) (pa_cons (pe_op op_sub (pe_ix (kx_tup (K := K)) (pv 3) (pv 6) (fun _ _ => rfl)) pe_int) pa_nil))))))
  (pss_cons (ps_set (i := 7) sc__law_with.nd rfl (by first | exact Or.inl rfl | exact Or.inr rfl) (pe_lst (pa_cons (pv 3) pa_nil)))
  (pss_cons (ps_for PassesOwn.never rfl (pi_seqB (pv 1)) (pg_name (i := 4) sc__law_with.nd rfl (by first | exact Or.inl rfl | exact Or.inr rfl)) (pss_one (ps_if (pt_cmpR op_eq (pe_ix (kx_tup (K := K)) (pv 4) (pv 6) (fun _ _ => rfl)) pe_int (nomark _)) (pss_one (ps_expr (km_bm (K := K) PySem.F.plainAttrs_list PySem.F.slot_list_append PySem.F.type_list_append mt_append (pv 7) (pa_cons (pv 4) pa_nil)))) (pss_one (ps_expr (km_bm (K := K) PySem.F.plainAttrs_list PySem.F.slot_list_append PySem.F.type_list_append mt_append (pv 7) (pa_cons (pe_callF G__law_plus (hr.mono (by decide)) rfl pass0 (pa_cons (pv 0) (pa_cons (pv 4) (pa_cons (pv 3) (pa_cons (pe_op op_sub (pv 0) (pe_ix (kx_tup (K := K)) (pv 4) (pv 6) (fun _ _ => rfl))) pa_nil))))) pa_nil)))))))
  (pss_one (ps_ret (pe_callTy (kc_tuple (K := K)) (by rfl) Z.tuple (by decide +kernel) (pa_cons (pe_callBK (kc_sortRows (K := K) (b := true)) (by rfl) Z.sorted (by decide +kernel) (pa_cons (pv 7) pa_nil) (pk_cons pe_bl pk_nil)) pa_nil))))))))))), ?_⟩)
  · obtain ⟨q, n, b, p, r, rows, row, rfl, _⟩ := h
    rfl
  · obtain ⟨q, n, b, p, r, rows, row, rfl, hp, hr', hn, few, q23, hR, ho, k⟩ := h
    have q0 : 0 < q := by omega
    obtain ⟨es, hes, lg⟩ := hp.sq
    have el := lg.len
    refine ⟨_, rfl, _, rfl, p, b, _, rfl, hes, for_it walk_seqB (fun i σ H' => Ex H H' ∧ ∃ l v4 v5, Tp K H' l (iL (redF q (rows.take i) row)) ∧ σ = [some (.int (q : Int)), some (.ref p), some (.ref r), some (.ref l), v4, v5, none, none]) ⟨Ex.refl _, r, none, none, hr', rfl⟩ (fun i σ H' _ h => hes.ex h.1) (fun i x σ H' H'' hi h y => ?_) (fun σ H' h => ?_)⟩
    · obtain ⟨ex, l, v4, v5, hl, rfl⟩ := h
      obtain ⟨rfl, g⟩ := y
      obtain ⟨e, one, rfl, ge, gr, te⟩ := (lg.ex ex).get g
      have om := List.mem_of_getElem? gr
      have oo := hR.ok one om
      have fo := hR.fst one om
      have lo := redF_ok (rows := rows.take i) q0 ho
      have tk := redF_take (q := q) (row := row) gr
      rw [tk]
      generalize redF q (rows.take i) row = left at hl lo tk ⊢
      have lb := lo.at (firstF one) q0
      refine ⟨_, rfl, _, rfl, e, one, rfl, te, by rw [oo.1]; omega, l, _, _, .int (left.getD (firstF one) 0), rfl, rfl, hl.sq, atI_int (by rw [lo.1]; exact fo.1), ?_⟩
      refine ⟨_, rfl, rfl, _, rfl, ?_⟩
      rw [dec_int]
      unfold redStep
      by_cases c : left.getD (firstF one) 0 = 0
      · rw [c, if_neg (by simp)]
        exact iteF ⟨ex, l, _, _, hl, rfl⟩
      · rw [beq_eq_false_iff_ne.mpr c, if_pos c]
        refine iteT ⟨_, rfl, _, rfl, _, rfl, _, rfl, _, rfl, _, _, rfl, rfl, q, n, l, e, left, one, _, rfl, hl, te, by omega, by omega, by omega, lo.1, oo.1, by omega, by omega, fun l2 H2 e2 h2 => ⟨ex.trans e2, l2, _, _, h2, rfl⟩⟩
    · obtain ⟨ex, l, v4, v5, hl, rfl⟩ := h
      rw [List.length_map, el, List.take_length] at hl
      have lo := redF_ok (rows := rows) q0 ho
      have wr : ∀ rows', WithR q rows row rows' → WithR q rows row rows' := fun _ h => h
      unfold WithR at k
      generalize redF q rows row = left at hl lo k
      have lb := lo.at (firstF left) q0
      refine ⟨_, rfl, l, left, rfl, hl, by rw [lo.1]; omega, ?_⟩
      refine ⟨_, rfl, _, rfl, l, _, rfl, .inr hl.sq, rfl, _, rfl, ?_⟩
      have ll : ((iL left).length : Int) = (n : Int) := by
        unfold iL
        rw [List.length_map, lo.1]
      rw [ll]
      have fle : firstF left ≤ n := by
        have := first_le (xs := left)
        rw [lo.1] at this
        exact this
      by_cases c : firstF left = n
      · rw [decide_eq_true (show V.int ((firstF left : Nat) : Int) = V.int (n : Int) from by rw [c])]
        refine iteT ?_
        have wr : firstF left = left.length ∧ rows = rows := ⟨by rw [lo.1]; exact c, rfl⟩
        cases b with
        | false =>
          obtain ⟨es2, h1, h2⟩ := hp
          refine ⟨_, rfl, p, _, rfl, .inl ⟨sq_of (ex _ _ h1), fun t o ht ho => ?_⟩⟩
          have et := Ex.new (o := .frz o (.tup (es2.map V.ref))) ht
          exact k t rows _ (ex.trans et) ⟨es2, Tp.of ho upd_same, h2.ex (ex.trans et)⟩ (.inl wr)
        | true =>
          obtain ⟨es2, h1, h2⟩ := hp
          exact ⟨_, rfl, p, _, rfl, .inr ⟨(h1.ex ex).sq, k p rows _ ex ⟨es2, h1.ex ex, h2.ex ex⟩ (.inl wr)⟩⟩
      · rw [decide_eq_false (show ¬ V.int ((firstF left : Nat) : Int) = V.int (n : Int) from fun z => by
          have := V.int.inj z
          omega)]
        have flt : firstF left < n := by omega
        refine iteF ⟨_, rfl, _, rfl, _, rfl, _, rfl, _, rfl, l, _, _, .int (left.getD (firstF left) 0), rfl, rfl, hl.sq, atI_int (by rw [lo.1]; exact flt), _, _, rfl, rfl, q, n, l, l, left, left, _, rfl, hl, hl, by omega, by omega, by omega, lo.1, lo.1, by omega, by omega, fun u H2 e2 h2 => ?_⟩
        have uf := unit_first q23 lo flt
        have uo := unit_ok q0 lo
        have h2' : Tp K H2 u (iL (unitF q left)) := h2
        generalize unitF q left = ul at h2' uf uo k
        clear h2
        refine ⟨_, rfl, by show 1 ≤ sizeLine; decide, fun L hL => ?_⟩
        have eL := Ex.new (o := .lst [V.ref u]) hL
        have ex3 := ex.trans (e2.trans eL)
        have HL : H L = none := fresh_back (ex.trans e2) hL
        have hu3 := h2'.ex eL
        have l3 : LstG iL K (upd H2 L (.lst [V.ref u])) [u] [ul] := LstG.nil.push (f := iL) (x := ul) hu3
        have hes3 := hes.ex ex3
        have lg3 := lg.ex ex3
        have hL3 : upd H2 L (.lst [V.ref u]) L = some (.lst (([u] : List Addr).map V.ref)) := upd_same
        generalize upd H2 L (.lst [V.ref u]) = H3 at ex3 hu3 l3 hes3 lg3 hL3 ⊢
        clear eL
        refine ⟨_, rfl, p, b, _, rfl, hes3, for_it walk_seqB (fun j σ H' => Ex H H' ∧ Tp K H' u (iL ul) ∧ ∃ es' v4 v5, H' L = some (.lst (es'.map V.ref)) ∧ LstG iL K H' es' (ul :: (rows.take j).map (clrF q ul)) ∧ σ = [some (.int (q : Int)), some (.ref p), some (.ref r), some (.ref u), v4, v5, some (.int ((firstF left : Nat) : Int)), some (.ref L)])
          ⟨ex3, hu3, [u], _, _, hL3, l3, rfl⟩ (fun j σ H' _ h => hes.ex h.1) (fun j x σ H4 H5 hj h y => ?_) (fun σ H4 h => ?_)⟩
        · obtain ⟨ex4, hu4, es', v4, v5, hL4, l4, rfl⟩ := h
          obtain ⟨rfl, g⟩ := y
          obtain ⟨e, one, rfl, ge, gr, te⟩ := (lg.ex ex4).get g
          have om := List.mem_of_getElem? gr
          have oo := hR.ok one om
          have ob := oo.at (firstF left) q0
          have jl : j < rows.length := (List.getElem?_eq_some_iff.mp gr).1
          have le4 := l4.len
          rw [List.length_cons, List.length_map, List.length_take] at le4
          have tk : (rows.take (j + 1)).map (clrF q ul) = (rows.take j).map (clrF q ul) ++ [clrF q ul one] := by
            rw [List.take_add_one, gr, List.map_append]
            rfl
          have em : ∀ z : Addr, es'.map V.ref ++ [V.ref z] = (es' ++ [z]).map V.ref := fun z => by rw [List.map_append]; rfl
          refine ⟨_, rfl, _, rfl, e, _, _, .int (one.getD (firstF left) 0), rfl, rfl, te.sq, atI_int (by rw [oo.1]; exact flt), rfl, _, rfl, ?_⟩
          rw [dec_int, tk]
          by_cases c0 : one.getD (firstF left) 0 = 0
          · rw [c0]
            have ce : clrF q ul one = one := by
              unfold clrF
              rw [uf, if_pos c0]
            refine iteT ⟨_, rfl, .inl ⟨rfl, _, sq_of hL4⟩, _, rfl, L, _, _, rfl, rfl, hL4, sz_lt (by rw [List.length_map]; omega), ?_⟩
            rw [em, ce]
            exact ⟨ex_side ex4 HL, hu4.mut hL4, es' ++ [e], _, _, upd_same, (l4.push (f := iL) te).mut hL4, rfl⟩
          · rw [beq_eq_false_iff_ne.mpr c0]
            have ce : clrF q ul one = plusF q one ul ((q : Int) - one.getD (firstF left) 0) := by
              unfold clrF
              rw [uf, if_neg c0]
            refine iteF ⟨_, rfl, .inl ⟨rfl, _, sq_of hL4⟩, _, rfl, _, rfl, _, rfl, _, rfl, _, rfl, _, rfl, e, _, _, .int (one.getD (firstF left) 0), rfl, rfl, te.sq, atI_int (by rw [oo.1]; exact flt), _, _, rfl, rfl, q, n, e, u, one, ul, _, rfl, te, hu4, by omega, by omega, by omega, oo.1, uo.1, by omega, by omega, fun z H6 e6 hz => ?_⟩
            rw [← ce] at hz
            have hL6 := e6 _ _ hL4
            refine ⟨L, _, _, rfl, rfl, hL6, sz_lt (by rw [List.length_map]; omega), ?_⟩
            rw [em]
            exact ⟨ex_side (ex4.trans e6) HL, (hu4.ex e6).mut hL6, es' ++ [z], _, _, upd_same, ((l4.ex e6).push (f := iL) hz).mut hL6, rfl⟩
        · obtain ⟨ex4, hu4, es', v4, v5, hL4, l4, rfl⟩ := h
          rw [List.length_map, el, List.take_length] at l4
          refine ⟨_, rfl, L, es', _, n, rfl, rfl, sq_of hL4, l4, by omega, fun x hx => ?_, fun es2 rows2 M lg2 pm lx hM => ?_⟩
          · have ox : RowOk q n x := by
              rcases List.mem_cons.mp hx with rfl | hx
              · exact uo
              · obtain ⟨y, hy, rfl⟩ := List.mem_map.mp hx
                exact clr_ok q0 (hR.ok y hy)
            exact ⟨ox.1, fun y hy => by have := ox.2 y hy; omega⟩
          · have eM := Ex.new (o := .lst (es2.map V.ref)) hM
            refine ⟨M, _, rfl, .inl ⟨sq_of upd_same, fun t o ht ho => ?_⟩⟩
            have et := Ex.new (o := .frz o (.tup (es2.map V.ref))) ht
            refine k t rows2 _ (ex4.trans (eM.trans et)) ⟨es2, Tp.of ho upd_same, lg2.ex (eM.trans et)⟩ (.inr ⟨by rw [lo.1]; exact flt, pm, lx⟩)
end
end K47

namespace K47
open PySem PySem.Spec PyProof.Rows L2 Evl Own
def spSteps (K : PySem.W.Frag) : Sp := fun vs H Q _ => ∃ (q n : Nat) (b : Bool) (p : Addr) (rows : List (List Int)), vs = [.int (q : Int), .ref p] ∧ RwB K b H p rows ∧ n ≤ 100 ∧ rows.length ≤ 99 ∧ (q = 2 ∨ q = 3) ∧ (∀ r ∈ rows, RowOk q n r) ∧
  ∀ (t : Addr) (rows' : List (List Int)) (H' : Hp), Ex H H' → TpR K H' t rows' → StepsR q rows rows' → Q (.ref t) H'
section
variable {P : Program} {w : World} {K : PySem.W.Frag} {mg : Str → Option Value} {base : Heap} {f : Addr} {fd : FuncData}
theorem ok__law_steps (F : FnP K "_law_steps" s__law_steps f fd) (Z : Zs mg) (G__law_with : Fn P w K mg base CX0 2 "_law_with" s__law_with ["letters", "rows", "row"] (spWith K)) : FnOk P w K mg base CX0 3 f fd ["letters", "rows"] (spSteps K) := by
  refine F.ok sc__law_steps (fun vs H Q E h => ?_) (fun cdv A outer s H vs Q E hr h => ⟨_, PSs.nox (pss_cons (ps_set (i := 2) sc__law_steps.nd rfl (by first | exact Or.inl rfl | exact Or.inr rfl) (pe_tupF pa_nil))
  (pss_cons (ps_for PassesOwn.never rfl (pi_seqB (pv 1)) (pg_name (i := 3) sc__law_steps.nd rfl (by first | exact Or.inl rfl | exact Or.inr rfl)) (pss_one (ps_set (i := 2) sc__law_steps.nd rfl (by first | exact Or.inl rfl | exact Or.inr rfl) (pe_callF G__law_with (hr.mono (by decide)) rfl pass0 (pa_cons (pv 0) (pa_cons (pv 2) (pa_cons (pv 3) pa_nil)))))))
  (pss_one (ps_ret (pv 2))))), ?_⟩)
  · obtain ⟨q, n, b, p, rows, rfl, _⟩ := h
    rfl
  · obtain ⟨q, n, b, p, rows, rfl, hp, hn, few, q23, ok, k⟩ := h
    obtain ⟨es, hes, lg⟩ := hp.sq
    refine ⟨by show 0 ≤ sizeLine; decide, fun T o hT ho => ?_⟩
    have eT := Ex.new (o := .frz o (.tup [])) hT
    have t0 : TpR K (upd H T (.frz o (.tup []))) T [] := ⟨[], Tp.of ho upd_same, LstG.nil⟩
    generalize upd H T (.frz o (.tup [])) = H1 at eT t0 ⊢
    refine ⟨_, rfl, p, b, _, rfl, hes.ex eT, for_it walk_seqB (fun i σ H' => Ex H H' ∧ ∃ t found v3, TpR K H' t found ∧ StepsR q (rows.take i) found ∧ σ = [some (.int (q : Int)), some (.ref p), some (.ref t), v3])
      ⟨eT, T, [], none, t0, .nil, rfl⟩ (fun i σ H' _ h => hes.ex h.1) (fun i x σ H' H'' hi h y => ?_) (fun σ H' h => ?_)⟩
    · obtain ⟨ex, t, found, v3, ht, st, rfl⟩ := h
      obtain ⟨rfl, g⟩ := y
      obtain ⟨e, row, rfl, ge, gr, te⟩ := (lg.ex ex).get g
      have rm := List.mem_of_getElem? gr
      have il : i < rows.length := (List.getElem?_eq_some_iff.mp gr).1
      have tk : rows.take (i + 1) = rows.take i ++ [row] := by
        rw [List.take_add_one, gr]
        rfl
      obtain ⟨hR, hd, _, fl⟩ := st.all q23 fun r hr => ok r (List.mem_of_mem_take hr)
      rw [List.length_take] at fl
      refine ⟨_, rfl, _, rfl, _, rfl, q, n, true, t, e, found, row, rfl, RwB.t ht, te, hn, by omega, q23, hR, ok row rm, fun t2 found2 H2 e2 ht2 wr => ?_⟩
      exact ⟨ex.trans e2, t2, found2, _, ht2, by rw [tk]; exact st.snoc wr, rfl⟩
    · obtain ⟨ex, t, found, v3, ht, st, rfl⟩ := h
      rw [List.length_map, lg.len, List.take_length] at st
      exact ⟨_, rfl, k t found H' ex ht st⟩
end
def spLed (K : PySem.W.Frag) : Sp := fun vs H Q _ => ∃ (q n : Nat) (p r : Addr) (rows : List (List Int)) (row : List Int), vs = [.int (q : Int), .ref p, .ref r] ∧ TpR K H p rows ∧ Tp K H r (iL row) ∧ n ≤ 100 ∧ rows.length ≤ 100 ∧ (q = 2 ∨ q = 3) ∧ Red q n rows ∧ Desc rows ∧ RowOk q n row ∧
  ∀ (t : Addr) (rows' : List (List Int)) (H' : Hp), Ex H H' → TpR K H' t rows' → LedR q rows row rows' → Q (.ref t) H'
section
variable {P : Program} {w : World} {K : PySem.W.Frag} {mg : Str → Option Value} {base : Heap} {f : Addr} {fd : FuncData}
theorem walk_revT {K : PySem.W.Frag} {a : Addr} {xs : List V} : Walk (RT.ItvT K a xs.length) xs.length (fun H => SqT K H a xs) (fun i H x H' => H' = H ∧ xs[xs.length - 1 - i]? = some x) :=
  ⟨fun i _ hi q => ⟨hi, xs, xs[xs.length - 1 - i]'(by omega), q, by simp [show xs.length - 1 - i < xs.length by omega]⟩, fun _ _ => Nat.le_refl _, fun _ _ _ _ _ q y => ⟨y.1, y.2 xs q⟩⟩
theorem led_take {q : Nat} {row one : List Int} {rv : List (List Int)} {i : Nat} (h : rv[i]? = some one) : ledAll q row (rv.take (i + 1)) = ledStep q row (ledAll q row (rv.take i)) one := by
  unfold ledAll
  rw [List.take_add_one, h, List.foldl_append]
  rfl
theorem ok__law_led (F : FnP K "_law_led" s__law_led f fd) (Z : Zs mg) (G__law_worth : Fn P w K mg base CX0 1 "_law_worth" s__law_worth ["letters", "one", "other"] (spWorth K)) (G__law_plus : Fn P w K mg base CX0 1 "_law_plus" s__law_plus ["letters", "one", "other", "many"] (spPlus K)) (G__law_with : Fn P w K mg base CX0 2 "_law_with" s__law_with ["letters", "rows", "row"] (spWith K)) : FnOk P w K mg base CX0 3 f fd ["letters", "rows", "row"] (spLed K) := by
  refine F.ok sc__law_led (fun vs H Q E h => ?_) (fun cdv A outer s H vs Q E hr h => ⟨_, PSs.nox (pss_cons (ps_par3 (i := 3) (j := 4) (l := 5) rfl sc__law_led.nd rfl rfl rfl (by decide) (by decide) (by decide) rfl rfl rfl (pa_cons (pe_lst pa_nil) (pa_cons (pe_tupF pa_nil) (pa_cons pe_int pa_nil))) (by rfl))
  (pss_cons (ps_for PassesOwn.never rfl (RT.pi_revA (by rfl) Z.reversed (pv 1)) (pg_name (i := 6) sc__law_led.nd rfl (by first | exact Or.inl rfl | exact Or.inr rfl)) (pss_cons (ps_set (i := 7) sc__law_led.nd rfl (by first | exact Or.inl rfl | exact Or.inr rfl) (pe_callF G__law_worth (hr.mono (by decide)) rfl pass0 (pa_cons (pv 0) (pa_cons (pv 6) (pa_cons (pv 2) pa_nil)))))
  (pss_one (ps_if (pt_cmpR op_eq (pv 7) pe_int (nomark _)) (pss_one (ps_expr (km_bm (K := K) PySem.F.plainAttrs_list PySem.F.slot_list_append PySem.F.type_list_append mt_append (pv 3) (pa_cons (pv 6) pa_nil)))) (pss_one (ps_if (pt_cmpR op_eq (pv 5) pe_int (nomark _)) (pss_one (ps_par (i := 4) (j := 5) rfl sc__law_led.nd rfl rfl (by decide) rfl rfl (pa_cons (pv 6) (pa_cons (pv 7) pa_nil)) (by rfl))) (pss_one (ps_expr (km_bm (K := K) PySem.F.plainAttrs_list PySem.F.slot_list_append PySem.F.type_list_append mt_append (pv 3) (pa_cons (pe_callF G__law_plus (hr.mono (by decide)) rfl pass0 (pa_cons (pv 0) (pa_cons (pv 6) (pa_cons (pv 4) (pa_cons (pe_op op_mod (pe_callTy call_int1 (by rfl) Z.int (by decide +kernel) (pa_cons (pe_op op_mul (pe_un un_neg (pv 7)) (pv 5)) pa_nil)) (pv 0)) pa_nil))))) pa_nil))))))))))
  (pss_one (ps_ret (pe_callF G__law_with (hr.mono (by decide)) rfl pass0 (pa_cons (pv 0) (pa_cons (pv 3) (pa_cons (pv 2) pa_nil)))))))), ?_⟩)
  · obtain ⟨q, n, p, r, rows, row, rfl, _⟩ := h
    rfl
  · obtain ⟨q, n, p, r, rows, row, rfl, hp, hr', hn, few, q23, hR, hd, ho, k⟩ := h
    have q0 : 0 < q := by omega
    obtain ⟨es, hes, lg⟩ := hp
    have el := lg.len
    refine ⟨by decide, fun L hL => ⟨by show 0 ≤ sizeLine; decide, fun T o hT ho' => ?_⟩⟩
    have e1 := (Ex.new (o := .lst []) hL).trans (Ex.new (o := .frz o (.tup [])) hT)
    have t0 : Tp K (upd (upd H L (.lst [])) T (.frz o (.tup []))) T (iL []) := Tp.of ho' upd_same
    have hL1 : upd (upd H L (.lst [])) T (.frz o (.tup [])) L = some (.lst (([] : List Addr).map V.ref)) := (Ex.new (o := .frz o (.tup [])) hT) _ _ upd_same
    generalize upd (upd H L (.lst [])) T (.frz o (.tup [])) = H1 at e1 t0 hL1 ⊢
    refine ⟨_, _, _, rfl, _, rfl, p, _, rfl, .inr ⟨(hes.ex e1).sq, for_it walk_revT (fun i σ H' => Ex H H' ∧ ∃ es' l v3 v7, H' L = some (.lst (es'.map V.ref)) ∧ LstG iL K H' es' (ledAll q row (rows.reverse.take i)).kept ∧ Tp K H' l (iL (ledAll q row (rows.reverse.take i)).last) ∧ es'.length ≤ i ∧ ((ledAll q row (rows.reverse.take i)).ahead ≠ 0 → (ledAll q row (rows.reverse.take i)).last ∈ rows) ∧ (0 ≤ (ledAll q row (rows.reverse.take i)).ahead ∧ (ledAll q row (rows.reverse.take i)).ahead ≤ 3) ∧
      σ = [some (.int (q : Int)), some (.ref p), some (.ref r), some (.ref L), some (.ref l), some (.int (ledAll q row (rows.reverse.take i)).ahead), v3, v7]) ⟨e1, [], T, none, none, hL1, LstG.nil, t0, Nat.le_refl _, fun h => absurd rfl h, ⟨Int.le_refl 0, by show (0 : Int) ≤ 3; decide⟩, rfl⟩ (fun i σ H' _ h => (hes.ex h.1).sq) (fun i x σ H' H'' hi h y => ?_) (fun σ H' h => ?_)⟩⟩
    · obtain ⟨ex, es', l, v3, v7, hL', lg', hl, fl, lm, ab, rfl⟩ := h
      obtain ⟨rfl, g⟩ := y
      rw [List.length_map] at hi g
      obtain ⟨e, one, rfl, ge, gr, te⟩ := (lg.ex ex).get g
      have rm := List.mem_of_getElem? gr
      have oo := hR.ok one rm
      have gi : rows.reverse[i]? = some one := by
        rw [List.getElem?_reverse (by omega), ← el, gr]
      have tk := led_take (q := q) (row := row) gi
      rw [tk]
      generalize ledAll q row (rows.reverse.take i) = st at lg' hl lm ab ⊢
      have wb : 0 ≤ worthF q one row ∧ worthF q one row < (q : Int) := ⟨Int.emod_nonneg _ (by omega), Int.emod_lt_of_pos _ (by omega)⟩
      refine ⟨_, rfl, _, rfl, _, rfl, q, n, e, r, one, row, rfl, te, hr'.ex ex, by omega, by omega, by omega, oo, ho, fun H2 e2 => ?_⟩
      have em : ∀ z : Addr, es'.map V.ref ++ [V.ref z] = (es' ++ [z]).map V.ref := fun z => by rw [List.map_append]; rfl
      have HL : H L = none := hL
      have hL2 := e2 _ _ hL'
      refine ⟨_, rfl, rfl, _, rfl, ?_⟩
      rw [dec_int]
      unfold ledStep
      by_cases c : worthF q one row = 0
      · rw [c, if_pos rfl]
        refine iteT ⟨_, rfl, .inl ⟨rfl, _, sq_of hL2⟩, _, rfl, L, _, _, rfl, rfl, hL2, sz_lt (by rw [List.length_map]; omega), ?_⟩
        rw [em]
        exact ⟨ex_side (ex.trans e2) HL, es' ++ [e], l, _, _, upd_same, ((lg'.ex e2).push (f := iL) (te.ex e2)).mut hL2, (hl.ex e2).mut hL2, by rw [List.length_append]; simp only [List.length_singleton]; omega, lm, ab, rfl⟩
      · rw [beq_eq_false_iff_ne.mpr c, if_neg c]
        refine iteF ⟨_, rfl, rfl, _, rfl, ?_⟩
        rw [dec_int]
        by_cases c2 : st.ahead = 0
        · rw [c2, if_pos rfl]
          refine iteT ⟨_, rfl, _, rfl, _, _, rfl, ?_⟩
          exact ⟨ex.trans e2, es', e, _, _, hL2, lg'.ex e2, te.ex e2, by omega, fun _ => rm, ⟨wb.1, by show worthF q one row ≤ 3; omega⟩, rfl⟩
        · rw [beq_eq_false_iff_ne.mpr c2, if_neg c2]
          have lo := hR.ok _ (lm c2)
          have mb : 0 ≤ (-(worthF q one row) * st.ahead) % (q : Int) ∧ (-(worthF q one row) * st.ahead) % (q : Int) < (q : Int) := ⟨Int.emod_nonneg _ (by omega), Int.emod_lt_of_pos _ (by omega)⟩
          refine iteF ⟨_, rfl, .inl ⟨rfl, _, sq_of hL2⟩, _, rfl, _, rfl, _, rfl, _, rfl, _, rfl, _, rfl, _, _, rfl, rfl, .inr ⟨by omega, by omega⟩, .inl ⟨_, rfl, _, rfl, _, _, rfl, rfl, by omega, q, n, e, l, one, st.last, _, rfl, te.ex e2, hl.ex e2, by omega, by omega, by omega, oo.1, lo.1, by omega, by omega, fun z H3 e3 hz => ?_⟩⟩
          have hL3 := e3 _ _ hL2
          have e23 := e2.trans e3
          refine ⟨L, _, _, rfl, rfl, hL3, sz_lt (by rw [List.length_map]; omega), ?_⟩
          rw [em]
          exact ⟨ex_side (ex.trans e23) HL, es' ++ [z], l, _, _, upd_same, ((lg'.ex e23).push (f := iL) hz).mut hL3, (hl.ex e23).mut hL3, by rw [List.length_append]; simp only [List.length_singleton]; omega, lm, ab, rfl⟩
    · obtain ⟨ex, es', l, v3, v7, hL', lg', hl, fl, lm, ab, rfl⟩ := h
      have ta : rows.reverse.take (es.map V.ref).length = rows.reverse := List.take_of_length_le (by rw [List.length_reverse, List.length_map]; omega)
      rw [ta] at lg'
      rw [List.length_map] at fl
      have ll := lg'.len
      refine ⟨_, rfl, _, rfl, _, rfl, q, n, false, L, r, ledK q rows row, row, rfl, ⟨es', hL', lg'⟩, hr'.ex ex, hn, ?_, q23, led_red q0 hR hd, ho, fun t rows' H2 e2 ht wr => k t rows' H2 (ex.trans e2) ht wr⟩
      have : (ledK q rows row).length = es'.length := ll.symm
      omega
end
end K47

namespace K47
open PySem PySem.Spec PyProof.Rows L2 Evl Own
def spFit (K : PySem.W.Frag) : Sp := fun vs H Q _ => ∃ (s : Srt) (n : Nat) (r : Addr) (row : List Int), vs = [.str s.s, .ref r] ∧ Tp K H r (iL row) ∧ n ≤ 100 ∧ RowOk s.q n row ∧ ∀ (t : Addr) (row' : List Int) (H' : Hp), Ex H H' → Tp K H' t (iL row') → RowOk s.q n row' → fitW s row' → Q (.ref t) H'
def spRow (K : PySem.W.Frag) : Sp := fun vs H Q _ => ∃ (a : Addr) (R : Hp) (q n : Nat), vs = [.ref a, .int (q : Int), .int (n : Int)] ∧ Bx a R H ∧ 2 ≤ q ∧ q ≤ 3 ∧ n ≤ 100 ∧ ∀ (t : Addr) (row : List Int) (R1 H1 : Hp), Ex R R1 → Bx a R1 H1 → Tp K R1 t (iL row) → RowOk q n row → Q (.ref t) H1
theorem row_set {q n : Nat} {row : List Int} {i : Nat} {v : Int} (h : RowOk q n row) (h0 : 0 ≤ v) (h1 : v < (q : Int)) : RowOk q n (row.set i v) := by
  refine ⟨by rw [List.length_set]; exact h.1, fun x hx => ?_⟩
  rcases List.mem_or_eq_of_mem_set hx with hx | rfl
  · exact h.2 x hx
  · exact ⟨h0, h1⟩
theorem weight_set : ∀ {xs : List Int} {i : Nat}, i < xs.length → xs.getD i 0 ≠ 0 → weightF (xs.set i 0) + 1 = weightF xs
  | [], i, h, _ => by cases h
  | x :: xs, 0, _, nz => by
    have cl := List.count_le_length (a := (0 : Int)) (l := xs)
    have nz' : x ≠ 0 := nz
    unfold weightF
    rw [List.set_cons_zero, List.length_cons, List.length_cons, List.count_cons, List.count_cons]
    simp [nz']
    omega
  | x :: xs, i + 1, h, nz => by
    have ih := weight_set (xs := xs) (i := i) (by simpa using h) (by simpa using nz)
    have cl := List.count_le_length (a := (0 : Int)) (l := xs)
    have cl2 := List.count_le_length (a := (0 : Int)) (l := xs.set i 0)
    unfold weightF at ih ⊢
    rw [List.length_set] at ih cl2
    rw [List.set_cons_succ, List.length_cons, List.length_cons, List.length_set, List.count_cons, List.count_cons]
    split <;> omega
/-- so many letters still to be made 0, so far -/
structure Down (b many i : Nat) (xs : List Int) : Prop where
  mod : (weightF xs - many) % b = 0
  le : many ≤ weightF xs
  far : 0 < many → ∀ j, j < i → xs.getD j 0 = 0
theorem Down.start {b : Nat} {xs : List Int} (h : 0 < b) : Down b (weightF xs % b) 0 xs := by
  refine ⟨?_, Nat.mod_le _ _, fun _ j hj => by omega⟩
  have := Nat.div_add_mod (weightF xs) b
  rw [show weightF xs - weightF xs % b = b * (weightF xs / b) by omega]
  exact Nat.mul_mod_right _ _
theorem Down.zero {b many i : Nat} {xs : List Int} (h : Down b many i xs) (z : xs.getD i 0 = 0) : Down b many (i + 1) xs := ⟨h.mod, h.le, fun m j hj => by
  by_cases e : j = i
  · rw [e]
    exact z
  · exact h.far m j (by omega)⟩
theorem Down.none {b many i : Nat} {xs : List Int} (h : Down b many i xs) (z : many = 0) : Down b many (i + 1) xs := ⟨h.mod, h.le, fun m => by omega⟩
theorem Down.set {b many i : Nat} {xs : List Int} (h : Down b many i xs) (hi : i < xs.length) (m : 0 < many) (nz : xs.getD i 0 ≠ 0) : Down b (many - 1) (i + 1) (xs.set i 0) := by
  have w := weight_set hi nz
  have := h.le
  refine ⟨?_, by omega, fun _ j hj => ?_⟩
  · rw [show weightF (xs.set i 0) - (many - 1) = weightF xs - many by omega]
    exact h.mod
  · rw [List.getD_eq_getElem?_getD, List.getElem?_set]
    by_cases e : i = j
    · rw [if_pos e, if_pos (by omega)]
      rfl
    · rw [if_neg e, ← List.getD_eq_getElem?_getD]
      exact h.far m j (by omega)
theorem Down.done {s : Srt} {many i : Nat} {xs : List Int} (h : Down s.by_ many i xs) (hi : xs.length ≤ i) : fitW s xs := by
  have m0 : many = 0 := by
    refine Nat.eq_zero_of_not_pos fun m => ?_
    have z : weightF xs = 0 := by
      unfold weightF
      have : xs.count 0 = xs.length := List.count_eq_length.mpr fun x hx => by
        obtain ⟨j, hj, rfl⟩ := List.getElem_of_mem hx
        have := h.far m j (by omega)
        rw [List.getD_eq_getElem?_getD, List.getElem?_eq_getElem hj] at this
        exact this.symm
      omega
    have := h.le
    omega
  have := h.mod
  rw [m0, Nat.sub_zero] at this
  exact this
section
variable {P : Program} {w : World} {K : PySem.W.Frag} {mg : Str → Option Value} {base : Heap} {f : Addr} {fd : FuncData}
theorem ok__law_fitting (F : FnP K "_law_fitting" s__law_fitting f fd) (Z : Zs mg) (G__law_weight : Fn P w K mg base CX0 1 "_law_weight" s__law_weight ["row"] (spWeight K)) (G__law_by : Fn P w K mg base CX0 1 "_law_by" s__law_by ["sort"] (spSrt Srt.by_)) : FnOk P w K mg base CX0 2 f fd ["sort", "row"] (spFit K) := by
  refine F.ok sc__law_fitting (fun vs H Q E h => ?_) (fun cdv A outer s H vs Q E hr h => ⟨_, PSs.nox (pss_cons (ps_set (i := 2) sc__law_fitting.nd rfl (by first | exact Or.inl rfl | exact Or.inr rfl) (pe_op op_mod (pe_callTy call_int1 (by rfl) Z.int (by decide +kernel) (pa_cons (pe_callF G__law_weight (hr.mono (by decide)) rfl pass0 (pa_cons (pv 1) pa_nil)) pa_nil)) (pe_callF G__law_by (hr.mono (by decide)) rfl pass0 (pa_cons (pv 0) pa_nil))))
  (pss_cons (ps_set (i := 3) sc__law_fitting.nd rfl (by first | exact Or.inl rfl | exact Or.inr rfl) (pe_callTy (kc_list (K := K)) (by rfl) Z.list (by decide +kernel) (pa_cons (pv 1) pa_nil)))
  (pss_cons (ps_for PassesOwn.never rfl (pi_range1 (by rfl) Z.range (pa_cons (pe_callB (kc_len (K := K)) (by rfl) Z.len PySem.boot_len (pa_cons (pv 1) pa_nil)) pa_nil)) (pg_name (i := 4) sc__law_fitting.nd rfl (by first | exact Or.inl rfl | exact Or.inr rfl)) (pss_one (ps_if (PW.pt (pw_and (pt_cmpR op_gt (pv 2) pe_int (nomark _)) (pw_and1 (pt_cmpR op_ne (pe_ix (kx_list (K := K)) (pv 3) (pv 4) (fun _ _ => rfl)) pe_int (nomark _))))) (pss_cons (ps_asg pe_int (pg_sub (pv 3) (pv 4) set_list))
  (pss_one (ps_set (i := 2) sc__law_fitting.nd rfl (by first | exact Or.inl rfl | exact Or.inr rfl) (pe_op op_sub (pv 2) pe_int)))) pss_nil)))
  (pss_one (ps_ret (pe_callTy (kc_tuple (K := K)) (by rfl) Z.tuple (by decide +kernel) (pa_cons (pv 3) pa_nil))))))), ?_⟩)
  · obtain ⟨s, n, r, row, rfl, _⟩ := h
    rfl
  · obtain ⟨s, n, r, row, rfl, hr', hn, ok, k⟩ := h
    have q23 := s.q_le
    have bp : 0 < s.by_ := by cases s <;> decide
    refine ⟨_, rfl, r, row, rfl, hr', .inl ⟨_, rfl, _, rfl, s, rfl, fun H1 e1 => ⟨_, _, rfl, rfl, by omega, ?_⟩⟩⟩
    have hr1 := hr'.ex e1
    refine ⟨_, rfl, r, _, rfl, .inr hr1.sq, fun L hL => ?_⟩
    have eL := Ex.new (o := .lst (iL row)) hL
    have ex := e1.trans eL
    have HL : H L = none := fresh_back e1 hL
    have hL2 : upd H1 L (.lst (iL row)) L = some (.lst (row.map V.int)) := upd_same
    have hr2 := hr1.ex eL
    generalize upd H1 L (.lst (iL row)) = H2 at ex hL2 hr2 ⊢
    refine ⟨_, rfl, r, _, rfl, .inr hr2.sq, _, rfl, by omega, by unfold iL; rw [List.length_map, ok.1]; omega, ?_⟩
    unfold iL
    rw [List.length_map, ok.1, Int.toNat_natCast]
    refine for_range (lo := 0) (n := n) (fun i σ H' => Ex H H' ∧ ∃ (found : List Int) (many : Nat) (v4 : Option V), RowOk s.q n found ∧ Down s.by_ many i found ∧ H' L = some (.lst (found.map V.int)) ∧ σ = [some (.str s.s), some (.ref r), some (.int (many : Int)), some (.ref L), v4]) ⟨ex, row, weightF row % s.by_, none, ok, Down.start bp, hL2, by rw [Int.natCast_emod]; rfl⟩ (fun i σ H' hi y => ?_) (fun σ H' y => ?_)
    · obtain ⟨ex', found, many, v4, okf, dn, hL', rfl⟩ := y
      have e0 : (0 : Int) + (i : Int) = (i : Int) := by omega
      show gName _ (V.int ((0 : Int) + (i : Int))) _ _ _
      rw [e0]
      have il : i < found.length := by rw [okf.1]; exact hi
      refine ⟨_, rfl, _, _, rfl, rfl, _, rfl, ?_⟩
      by_cases c : 0 < many
      · rw [decide_eq_true (show (0 : Int) < (many : Int) by omega)]
        refine iteT ⟨_, rfl, _, rfl, L, _, _, _, rfl, rfl, sq_of hL', atI_int il, rfl, _, rfl, ?_⟩
        rw [dec_int]
        cases c2 : found.getD i 0 == 0 with
        | true => exact iteF ⟨ex', found, many, _, okf, dn.zero (by simpa using c2), hL', rfl⟩
        | false =>
          refine iteT ⟨_, rfl, _, rfl, L, _, _, i, rfl, rfl, hL', ixN_nat (by rw [List.length_map]; exact il), ?_⟩
          rw [show (found.map V.int).set i (V.int 0) = (found.set i 0).map V.int from int_set found i 0]
          refine ⟨_, rfl, _, _, rfl, rfl, ex_side ex' HL, found.set i 0, many - 1, _, row_set okf (Int.le_refl 0) (by omega), dn.set il c (by simpa using c2), upd_same, by rw [show ((many - 1 : Nat) : Int) = (many : Int) - 1 by omega]; rfl⟩
      · rw [decide_eq_false (show ¬ (0 : Int) < (many : Int) by omega)]
        exact iteF ⟨ex', found, many, _, okf, dn.none (by omega), hL', rfl⟩
    · obtain ⟨ex', found, many, v4, okf, dn, hL', rfl⟩ := y
      exact ⟨_, rfl, L, _, rfl, .inl ⟨sq_of hL', fun t o ht ho => k t found _ (ex'.trans (Ex.new ht)) (Tp.of ho upd_same) okf (dn.done (by rw [okf.1]; exact Nat.le_refl _))⟩⟩
theorem ok__law_row (F : FnP K "_law_row" s__law_row f fd) (Z : Zs mg) (G__law_take : Fn P w K mg base CX0 1 "_law_take" s__law_take ["box", "many"] spTake) : FnOk P w K mg base CX0 2 f fd ["box", "letters", "length"] (spRow K) := by
  refine F.ok sc__law_row (fun vs H Q E h => ?_) (fun cdv A outer s H vs Q E hr h => ⟨_, PSs.nox (pss_one (ps_ret (pe_callTy (kc_tuple (K := K)) (by rfl) Z.tuple (by decide +kernel) (pa_cons (pe_lc (own := [("place", 3)]) (g := (gName 3)) rfl sc__law_row.nd (pi_range1 (by rfl) Z.range (pa_cons (pv 2) pa_nil)) (blkOk_by (own := [("place", 3)]) (N := ["box", "letters", "length", "place"]) (sc := defScope s__law_row) (by decide +kernel)) (fun _ _ _ _ _ => (pg_name (i := 3) sc__law_row.nd rfl (Or.inl rfl))) (fun _ _ _ _ _ => pts_nil) (fun _ _ _ _ _ => (pe_callF G__law_take (hr.mono (by decide)) rfl pass0 (pa_cons (pv 0) (pa_cons (pv 1) pa_nil))))) pa_nil)))), ?_⟩)
  · obtain ⟨a, R, q, n, rfl, _⟩ := h
    rfl
  · obtain ⟨a, R, q, n, rfl, hw, q0, q1, hn, k⟩ := h
    refine ⟨_, rfl, _, rfl, by omega, by omega, ?_⟩
    rw [Int.toNat_natCast]
    refine lcB (fun i acc Rd => ∃ ns : List Int, acc = iL ns ∧ RowOk q i ns ∧ i ≤ n) (walk_range (lo := 0)) hw (fun D hD => ⟨[], rfl, ⟨rfl, by simp⟩, by omega⟩) (fun _ _ _ _ => trivial) (fun i acc Rd st => ?_)
      (fun i D' acc Rd H6 x H7 hi ex' w6 hD hacc st y K1 K0 k1 k0 => ?_) (fun D' acc Rd H6 hD' ex' w6 hacc st => ?_)
    · obtain ⟨ns, rfl, h1, h2⟩ := st
      unfold iL
      rw [List.length_map, h1.1]
      omega
    · obtain ⟨rfl, rfl⟩ := y
      obtain ⟨ns, rfl, h1, h2⟩ := st
      refine ⟨rfl, yes_go ⟨_, rfl, _, rfl, a, Rd, (q : Int), rfl, w6, by omega, ?_, fun r H8 r0 r1 w8 => k1 _ Rd H8 ex' w8 hacc ⟨ns ++ [r], by unfold iL; rw [List.map_append]; rfl, ⟨by rw [List.length_append, h1.1]; rfl, fun x hx => ?_⟩, by omega⟩⟩⟩
      · have := Nat.log2_le_self q
        show q.log2 < 9000
        omega
      · rcases List.mem_append.mp hx with hx | hx
        · exact h1.2 x hx
        · rw [List.mem_singleton.mp hx]
          exact ⟨r0, r1⟩
    · obtain ⟨ns, rfl, h1, _⟩ := st
      refine ⟨D', _, rfl, .inl ⟨sq_of (w6.ex _ _ hacc), fun t o ht ho => ?_⟩⟩
      have w7 := w6.new (o := .frz o (.tup (iL ns))) ht
      have eT := Ex.new (o := .frz o (.tup (iL ns))) (w6.free ht)
      exact k t ns _ _ (ex'.trans eT) w7 (Tp.of ho upd_same) h1
end
end K47

namespace K47
open PySem PySem.Spec PyProof.Rows L2 Evl Own
theorem perm_inv {α β : Type} (f : α → β) {L ys : List β} (h : L.Perm ys) : ∀ xs : List α, L = xs.map f → ∃ zs : List α, ys = zs.map f ∧ zs.Perm xs := by
  induction h with
  | nil =>
    intro xs e
    have : xs = [] := List.map_eq_nil_iff.mp e.symm
    subst this
    exact ⟨[], rfl, .nil⟩
  | cons x _ ih =>
    intro xs e
    cases xs with
    | nil => cases e
    | cons a r =>
      injection e with e1 e2
      obtain ⟨zs, h1, h2⟩ := ih r e2
      exact ⟨a :: zs, by rw [List.map_cons, ← h1, e1], h2.cons a⟩
  | swap x y l =>
    intro xs e
    match xs, e with
    | a :: b :: r, e =>
      injection e with e1 e2
      injection e2 with e2 e3
      exact ⟨b :: a :: r, by rw [List.map_cons, List.map_cons, ← e1, ← e2, ← e3], List.Perm.swap _ _ _⟩
  | trans _ _ ih1 ih2 =>
    intro xs e
    obtain ⟨zs, h1, h2⟩ := ih1 xs e
    obtain ⟨ws, h3, h4⟩ := ih2 zs h1
    exact ⟨ws, h3, h4.trans h2⟩
theorem nI_map (ps : List Nat) : (nI ps).map V.int = ps.map fun i => V.int ((i : Nat) : Int) := by
  unfold nI
  rw [List.map_map]
  rfl
/-- lists of numbers below, rearranged -/
theorem perm_nI {n : Nat} {ys : List V} (h : ys.Perm ((nI (List.range n)).map V.int)) : ∃ ps, ys = (nI ps).map V.int ∧ ps.Perm (List.range n) := by
  rw [nI_map] at h
  obtain ⟨ps, h1, h2⟩ := perm_inv _ h.symm _ rfl
  exact ⟨ps, by rw [nI_map]; exact h1, h2⟩
theorem perm_pop {α : Type} {xs : List α} {i : Nat} (h : i < xs.length) : (xs[i] :: xs.eraseIdx i).Perm xs := by
  induction xs generalizing i with
  | nil => cases h
  | cons x r ih =>
    cases i with
    | zero => exact List.Perm.refl _
    | succ i =>
      have := ih (i := i) (by simpa using h)
      simp only [List.getElem_cons_succ, List.eraseIdx_cons_succ]
      exact (List.Perm.swap _ _ _).trans (this.cons x)
def spExch (K : PySem.W.Frag) : Sp := fun vs H Q _ => ∃ (a : Addr) (R : Hp) (q n : Nat), vs = [.ref a, .int (q : Int), .int (n : Int)] ∧ Bx a R H ∧ 2 ≤ q ∧ q ≤ 3 ∧ n ≤ 100 ∧ ∀ (ps : List Nat) (ss : List Int) (e : Addr) (R1 H1 : Hp), Ex R R1 → Bx a R1 H1 → TpX K R1 e ps ss → IsX q n ps ss → Q (.ref e) H1
section
variable {P : Program} {w : World} {K : PySem.W.Frag} {mg : Str → Option Value} {base : Heap} {f : Addr} {fd : FuncData}
theorem log_s {b : Int} (h0 : 0 < b) (h : b ≤ 1000000) : b.natAbs.log2 < 9000 := by
  have := (Nat.log2_lt (show b.natAbs ≠ 0 by omega)).mpr (show b.natAbs < 2 ^ 20 by omega)
  omega
theorem ok__law_exchange (F : FnP K "_law_exchange" s__law_exchange f fd) (Z : Zs mg) (G__law_take : Fn P w K mg base CX0 1 "_law_take" s__law_take ["box", "many"] spTake) : FnOk P w K mg base CX0 2 f fd ["box", "letters", "length"] (spExch K) := by
  refine F.ok sc__law_exchange (fun vs H Q E h => ?_) (fun cdv A outer s H vs Q E hr h => ⟨_, PSs.nox (pss_cons (ps_par (i := 3) (j := 4) rfl sc__law_exchange.nd rfl rfl (by decide) rfl rfl (pa_cons (pe_list_range Z.list Z.range (pv 2)) (pa_cons (pe_lst pa_nil) pa_nil)) (by rfl))
  (pss_cons (ps_for PassesOwn.never rfl (pi_range1 (by rfl) Z.range (pa_cons (pv 2) pa_nil)) (pg_name (i := 5) sc__law_exchange.nd rfl (by first | exact Or.inl rfl | exact Or.inr rfl)) (pss_one (ps_expr (km_bm (K := K) PySem.F.plainAttrs_list PySem.F.slot_list_append PySem.F.type_list_append mt_append (pv 4) (pa_cons (km_bm (K := K) PySem.F.plainAttrs_list PySem.F.slot_list_pop PySem.F.type_list_pop mt_popAt (pv 3) (pa_cons (pe_callF G__law_take (hr.mono (by decide)) rfl pass0 (pa_cons (pv 0) (pa_cons (pe_callB (kc_len (K := K)) (by rfl) Z.len PySem.boot_len (pa_cons (pv 3) pa_nil)) pa_nil))) pa_nil)) pa_nil)))))
  (pss_one (ps_ret (pe_tupF (pa_cons (pe_callTy (kc_tuple (K := K)) (by rfl) Z.tuple (by decide +kernel) (pa_cons (pv 4) pa_nil)) (pa_cons (pe_callTy (kc_tuple (K := K)) (by rfl) Z.tuple (by decide +kernel) (pa_cons (pe_lc (own := [("place", 6)]) (g := (gName 6)) rfl sc__law_exchange.nd (pi_range1 (by rfl) Z.range (pa_cons (pv 2) pa_nil)) (blkOk_by (own := [("place", 6)]) (N := ["box", "letters", "length", "left", "places", "turn", "place"]) (sc := defScope s__law_exchange) (by decide +kernel)) (fun _ _ _ _ _ => (pg_name (i := 6) sc__law_exchange.nd rfl (Or.inl rfl))) (fun _ _ _ _ _ => pts_nil) (fun _ _ _ _ _ => (pe_op op_add pe_int (pe_callF G__law_take (hr.mono (by decide)) rfl pass0 (pa_cons (pv 0) (pa_cons (pe_op op_sub (pv 1) pe_int) pa_nil)))))) pa_nil)) pa_nil))))))), ?_⟩)
  · obtain ⟨a, R, q, n, rfl, _⟩ := h
    rfl
  · obtain ⟨a, R, q, n, rfl, hw, q0, q1, hn, k⟩ := h
    refine ⟨_, rfl, _, rfl, rg_ok (by omega), fun L hL => ⟨by decide, fun D hD => ⟨_, _, rfl, ?_⟩⟩⟩
    rw [rgV_nI] at hD ⊢
    have RL := hw.free hL
    have w1 := hw.new (o := .lst ((nI (List.range n)).map V.int)) hL
    have RD' := w1.free hD
    have w2 := w1.new (o := .lst []) hD
    have DL : D ≠ L := fun e => by
      rw [e, upd_same] at RD'
      cases RD'
    have RD : R D = none := by
      rw [upd_ne DL] at RD'
      exact RD'
    have ex0 := (Ex.new (o := .lst ((nI (List.range n)).map V.int)) RL).trans (Ex.new (o := .lst []) RD')
    have l0 : upd (upd R L (.lst ((nI (List.range n)).map V.int))) D (.lst []) L = some (.lst ((nI (List.range n)).map V.int)) := by rw [upd_ne DL.symm]; exact upd_same
    have d0 : upd (upd R L (.lst ((nI (List.range n)).map V.int))) D (.lst []) D = some (.lst []) := upd_same
    generalize upd (upd R L (.lst ((nI (List.range n)).map V.int))) D (.lst []) = R0 at w2 ex0 l0 d0
    generalize upd (upd H L (.lst ((nI (List.range n)).map V.int))) D (.lst []) = H0 at w2 ⊢
    refine ⟨_, rfl, _, rfl, by omega, by omega, ?_⟩
    rw [Int.toNat_natCast]
    refine for_range (lo := 0) (n := n) (fun i σ H' => ∃ (v : Option V) (us zs : List V) (R' : Hp), σ = [some (.ref a), some (.int (q : Int)), some (.int (n : Int)), some (.ref L), some (.ref D), v, none] ∧ Ex R R' ∧ Bx a R' H' ∧ R' L = some (.lst us) ∧ R' D = some (.lst zs) ∧ (us ++ zs).Perm ((nI (List.range n)).map V.int) ∧ zs.length = i) ⟨none, _, [], R0, rfl, ex0, w2, l0, d0, by rw [List.append_nil], rfl⟩ (fun i σ H' hi z => ?_) (fun σ H' z => ?_)
    · obtain ⟨v, us, zs, R', rfl, ex, w3, hl, hd, pm, zl⟩ := z
      have pl := pm.length_eq
      rw [List.length_append, List.length_map, nI_len, List.length_range] at pl
      have up : (0 : Int) < us.length := by omega
      refine ⟨_, rfl, .inl ⟨rfl, _, sq_of (w3.ex _ _ hd)⟩, _, rfl, .inl ⟨rfl, _, sq_of (w3.ex _ _ hl)⟩, _, rfl, _, rfl, L, _, rfl, .inl (sq_of (w3.ex _ _ hl)), a, R', (us.length : Int), rfl, w3, up, log_s up (by omega), fun x H2 x0 x1 w4 => ?_⟩
      have hx : x.toNat < us.length := by omega
      have hix := ixN_seq (ixN_nat hx)
      rw [show ((x.toNat : Nat) : Int) = x by omega] at hix
      refine ⟨L, us, x, x.toNat, us[x.toNat], rfl, rfl, w4.ex _ _ hl, by omega, by omega, hix.1, List.getElem?_eq_getElem hx, ?_⟩
      have w5 := w4.mut (o' := .lst (us.eraseIdx x.toNat)) hl
      have hd5 : upd R' L (.lst (us.eraseIdx x.toNat)) D = some (.lst zs) := by rw [upd_ne DL]; exact hd
      refine ⟨D, zs, _, rfl, rfl, w5.ex _ _ hd5, sz_lt (by omega), ?_⟩
      refine ⟨some (.int (0 + (i : Int))), us.eraseIdx x.toNat, zs ++ [us[x.toNat]], _, rfl, ex_side (ex_side ex RL) RD, w5.mut hd5, by rw [upd_ne DL.symm]; exact upd_same, upd_same, ?_, by rw [List.length_append, zl]; rfl⟩
      refine List.Perm.trans ?_ pm
      refine List.Perm.trans ?_ ((perm_pop hx).append_right zs)
      rw [← List.append_assoc]
      exact (List.perm_append_comm (l₁ := us.eraseIdx x.toNat ++ zs) (l₂ := [us[x.toNat]])).trans (by simp)
    · obtain ⟨v, us, zs, R', rfl, ex, w3, hl, hd, pm, zl⟩ := z
      have pl := pm.length_eq
      rw [List.length_append, List.length_map, nI_len, List.length_range] at pl
      have : us = [] := List.eq_nil_of_length_eq_zero (by omega)
      subst this
      obtain ⟨ps, rfl, pp⟩ := perm_nI pm
      refine ⟨_, rfl, D, _, rfl, .inl ⟨sq_of (w3.ex _ _ hd), fun t o ht ho => ?_⟩⟩
      have w4 := w3.new (o := .frz o (.tup ((nI ps).map V.int))) ht
      have eT := Ex.new (o := .frz o (.tup ((nI ps).map V.int))) (w3.free ht)
      have tp : Tp K (upd R' t (.frz o (.tup ((nI ps).map V.int)))) t ((nI ps).map V.int) := Tp.of ho upd_same
      have ex4 := ex.trans eT
      generalize upd R' t (.frz o (.tup ((nI ps).map V.int))) = R4 at w4 tp ex4
      generalize upd H' t (.frz o (.tup ((nI ps).map V.int))) = H4 at w4 ⊢
      refine ⟨_, rfl, _, rfl, by omega, by omega, ?_⟩
      rw [Int.toNat_natCast]
      refine lcB (fun i acc Rd => ∃ ns : List Int, acc = iL ns ∧ ns.length = i ∧ (∀ s ∈ ns, 1 ≤ s ∧ s < (q : Int)) ∧ i ≤ n) (walk_range (lo := 0)) w4 (fun D hD => ⟨[], rfl, rfl, by simp, by omega⟩) (fun _ _ _ _ => trivial) (fun i acc Rd st => ?_)
        (fun i D' acc Rd H6 x H7 hi ex' w6 hD hacc st y K1 K0 k1 k0 => ?_) (fun D' acc Rd H6 hD' ex' w6 hacc st => ?_)
      · obtain ⟨ns, rfl, h1, _, h2⟩ := st
        unfold iL
        rw [List.length_map]
        omega
      · obtain ⟨rfl, rfl⟩ := y
        obtain ⟨ns, rfl, h1, h3, h2⟩ := st
        refine ⟨rfl, yes_go ⟨_, rfl, _, rfl, _, _, rfl, rfl, a, Rd, (q : Int) - 1, rfl, w6, by omega, log_s (by omega) (by omega), fun r H8 r0 r1 w8 => ⟨_, _, rfl, rfl, k1 _ Rd H8 ex' w8 hacc ⟨ns ++ [1 + r], by unfold iL; rw [List.map_append]; rfl, by rw [List.length_append, h1]; rfl, fun x hx => ?_, by omega⟩⟩⟩⟩
        rcases List.mem_append.mp hx with hx | hx
        · exact h3 x hx
        · rw [List.mem_singleton.mp hx]
          omega
      · obtain ⟨ns, rfl, h1, h3, _⟩ := st
        refine ⟨D', _, rfl, .inl ⟨sq_of (w6.ex _ _ hacc), fun t2 o2 ht2 ho2 => ?_⟩⟩
        have w7 := w6.new (o := .frz o2 (.tup (iL ns))) ht2
        have e7 := Ex.new (o := .frz o2 (.tup (iL ns))) (w6.free ht2)
        have tp7 : Tp K (upd Rd t2 (.frz o2 (.tup (iL ns)))) t2 (iL ns) := Tp.of ho2 upd_same
        have ex7 := ex4.trans (ex'.trans e7)
        have tq7 := tp.ex (ex'.trans e7)
        generalize upd Rd t2 (.frz o2 (.tup (iL ns))) = R7 at w7 tp7 ex7 tq7
        generalize upd H6 t2 (.frz o2 (.tup (iL ns))) = H7 at w7 ⊢
        refine ⟨by show 2 ≤ sizeLine; decide, fun t3 o3 ht3 ho3 => ?_⟩
        have w8 := w7.new (o := .frz o3 (.tup [.ref t, .ref t2])) ht3
        have e8 := Ex.new (o := .frz o3 (.tup [.ref t, .ref t2])) (w7.free ht3)
        exact k ps ns t3 _ _ (ex7.trans e8) w8 ⟨t, t2, Tp.of ho3 upd_same, tq7.ex e8, tp7.ex e8⟩ ⟨pp, h1, h3⟩
end
end K47

namespace K47
open PySem PySem.Spec PyProof.Rows L2 Evl Own
def spMoved (K : PySem.W.Frag) : Sp := fun vs H Q _ => ∃ (q n : Nat) (r e : Addr) (ps : List Nat) (ss row : List Int), vs = [.int (q : Int), .ref r, .ref e] ∧ Tp K H r (iL row) ∧ TpX K H e ps ss ∧ IsX q n ps ss ∧ 2 ≤ q ∧ q ≤ 3 ∧ n ≤ 100 ∧ RowOk q n row ∧ RetU K (iL (movedF q ps ss row)) H Q
section
variable {P : Program} {w : World} {K : PySem.W.Frag} {mg : Str → Option Value} {base : Heap} {f : Addr} {fd : FuncData}
theorem ok__law_moved (F : FnP K "_law_moved" s__law_moved f fd) (Z : Zs mg) : FnOk P w K mg base CX0 1 f fd ["letters", "row", "exchange"] (spMoved K) := by
  refine F.ok sc__law_moved (fun vs H Q E h => ?_) (fun cdv A outer s H vs Q E hr h => ⟨_, PSs.nox (pss_one (ps_ret (pe_callTy (kc_tuple (K := K)) (by rfl) Z.tuple (by decide +kernel) (pa_cons (pe_lc (own := [("at", 3)]) (g := (gName 3)) rfl sc__law_moved.nd (pi_range1 (by rfl) Z.range (pa_cons (pe_callB (kc_len (K := K)) (by rfl) Z.len PySem.boot_len (pa_cons (pv 1) pa_nil)) pa_nil)) (blkOk_by (own := [("at", 3)]) (N := ["letters", "row", "exchange", "at"]) (sc := defScope s__law_moved) (by decide +kernel)) (fun _ _ _ _ _ => (pg_name (i := 3) sc__law_moved.nd rfl (Or.inl rfl))) (fun _ _ _ _ _ => pts_nil) (fun _ _ _ _ _ => (pe_op op_mod (pe_callTy call_int1 (by rfl) Z.int (by decide +kernel) (pa_cons (pe_op op_mul (pe_ix (kx_tup (K := K)) (pv 1) (pe_ix (kx_tup (K := K)) (pe_ix (kx_tup (K := K)) (pv 2) pe_int (fun _ _ => rfl)) (pv 3) (fun _ _ => rfl)) (fun _ _ => rfl)) (pe_ix (kx_tup (K := K)) (pe_ix (kx_tup (K := K)) (pv 2) pe_int (fun _ _ => rfl)) (pv 3) (fun _ _ => rfl))) pa_nil)) (pv 0)))) pa_nil)))), ?_⟩)
  · obtain ⟨q, n, r, e, ps, ss, row, rfl, _⟩ := h
    rfl
  · obtain ⟨q, n, r, e, ps, ss, row, rfl, hr', he, hx, q0, q1, hn, ho, k⟩ := h
    obtain ⟨a1, a2, t0, t1, t2⟩ := he
    have pl := hx.1.length_eq
    rw [List.length_range] at pl
    refine ⟨_, rfl, r, _, rfl, .inr hr'.sq, _, rfl, by omega, by unfold iL; rw [List.length_map, ho.1]; omega, ?_⟩
    unfold iL at hr' ⊢
    rw [List.length_map, Int.toNat_natCast]
    refine lcP (walk_range (lo := 0)) (fun _ _ => trivial) (by rw [ho.1]; omega) (fun _ => true) (fun i => V.int ((row.getD (ps.getD i 0) 0 * ss.getD i 0) % (q : Int))) (fun i H1 x H2 hi ex y K1 K0 k1 k0 => ?_) (fun d H2 hd e2 h2 => ?_)
    · obtain ⟨rfl, rfl⟩ := y
      have e0 : (0 : Int) + (i : Int) = (i : Int) := by omega
      show gName _ (V.int ((0 : Int) + (i : Int))) _ _ _
      rw [e0]
      rw [ho.1] at hi
      have pin : ps.getD i 0 < n := by
        have : ps.getD i 0 ∈ ps := by
          rw [List.getD_eq_getElem?_getD, List.getElem?_eq_getElem (by omega)]
          exact List.getElem_mem _
        exact List.mem_range.mp (hx.1.mem_iff.mp this)
      have rb := ho.at (ps.getD i 0) (by omega)
      exact ⟨rfl, yes_go ⟨_, rfl, _, rfl, e, _, 0, _, rfl, rfl, (t0.ex ex).sq, rfl, _, rfl, a1, _, _, _, rfl, rfl, (t1.ex ex).sq, at_nI (by omega), r, _, _, _, rfl, rfl, (hr'.ex ex).sq, atI_int (by rw [ho.1]; exact pin), _, rfl, e, _, 1, _, rfl, rfl, (t0.ex ex).sq, rfl, _, rfl, a2, _, _, _, rfl, rfl, (t2.ex ex).sq, atI_int (by rw [hx.2.1]; exact hi), _, _, rfl, rfl, .inl ⟨by omega, by omega⟩, .inl ⟨_, rfl, _, rfl, _, _, rfl, rfl, by omega, k1 rfl _ (Ex.refl _)⟩⟩⟩
    · rw [given_all] at h2
      have ee : (List.range row.length).map (fun i => V.int ((row.getD (ps.getD i 0) 0 * ss.getD i 0) % (q : Int))) = iL (movedF q ps ss row) := by
        unfold iL movedF
        rw [List.map_map]
        rfl
      rw [ee] at h2
      exact ⟨d, _, rfl, .inl ⟨sq_of h2, k.new e2⟩⟩
end
end K47

namespace K47
open PySem PySem.Spec PyProof.Rows L2 Evl Own
theorem cut_first {xs : List V} {i : Nat} (h : i ≤ xs.length) : cutV xs none (some (i : Int)) = xs.take i := by
  unfold cutV
  have e1 : HT.sIx xs.length xs.length (some (i : Int)) = i := by
    rw [HT.sIx_nat]
    omega
  have e2 : HT.sIx xs.length 0 none = 0 := rfl
  rw [e1, e2]
  rfl
theorem TpR.dmut' {K : PySem.W.Frag} {H : Hp} {d p : Addr} {kvs : List (Key × V)} {rows : List (List Int)} {o' : HO} (t : TpR K H p rows) (hd : H d = some (.dK kvs)) : TpR K (upd H d o') p rows := by
  obtain ⟨es, h1, h2⟩ := t
  exact ⟨es, h1.dmut hd, h2.len, fun i e x g1 g2 => (h2.at_ i e x g1 g2).dmut hd⟩
theorem tc_go {v : V} {σ : L2.St} {H : Hp} {Q : VK} (h : Q v H) : tC v σ H Q := h
/-- pieces that came: each a tuple of rows -/
def LstP (K : PySem.W.Frag) (H : Hp) (es : List Addr) (ps : List (List (List Int))) : Prop := es.length = ps.length ∧ ∀ (i : Nat) e x, es[i]? = some e → ps[i]? = some x → TpR K H e x
theorem LstP.nil {K : PySem.W.Frag} {H : Hp} : LstP K H [] [] := ⟨rfl, fun i e x h => by cases h⟩
theorem LstP.cons {K : PySem.W.Frag} {H : Hp} {e : Addr} {x : List (List Int)} {es : List Addr} {ps : List (List (List Int))} (t : TpR K H e x) (l : LstP K H es ps) : LstP K H (e :: es) (x :: ps) := by
  refine ⟨by rw [List.length_cons, List.length_cons, l.1], fun i a y h1 h2 => ?_⟩
  cases i with
  | zero =>
    cases h1
    cases h2
    exact t
  | succ i => exact l.2 i a y h1 h2
theorem _root_.Own.TpR.in_ {K : PySem.W.Frag} {H : Hp} {e : Addr} {x : List (List Int)} {es : List Addr} {ps : List (List (List Int))} (t : TpR K H e x) (l : LstP K H es ps) : LstP K H (e :: es) (x :: ps) := LstP.cons t l
theorem LstP.ex {K : PySem.W.Frag} {H H1 : Hp} {es : List Addr} {ps : List (List (List Int))} (l : LstP K H es ps) (e : Ex H H1) : LstP K H1 es ps := ⟨l.1, fun i a x h1 h2 => (l.2 i a x h1 h2).ex e⟩
theorem LstP.filt {K : PySem.W.Frag} {H : Hp} (f : List (List Int) → Bool) : ∀ {es : List Addr} {ps : List (List (List Int))}, LstP K H es ps → LstP K H (((es.zip ps).filter fun z => f z.2).map (·.1)) (ps.filter f)
  | [], [], _ => LstP.nil
  | [], _ :: _, l => by cases l.1
  | _ :: _, [], l => by cases l.1
  | e :: es, x :: ps, l => by
    have l' : LstP K H es ps := ⟨by simpa using l.1, fun i a y h1 h2 => l.2 (i + 1) a y h1 h2⟩
    have t := l.2 0 e x rfl rfl
    have ih := LstP.filt f l'
    rw [List.zip_cons_cons, List.filter_cons, List.filter_cons]
    cases c : f x with
    | true =>
      rw [if_pos rfl, if_pos rfl, List.map_cons]
      exact LstP.cons t ih
    | false =>
      rw [if_neg Bool.false_ne_true, if_neg Bool.false_ne_true]
      exact ih
theorem zip_given {es : List Addr} {ps : List (List (List Int))} (h : es.length = ps.length) (g : List (List Int) → Bool) : given es.length (fun i => g (ps.getD i [])) (fun i => V.ref (es.getD i 0)) = (((es.zip ps).filter fun z => g z.2).map (·.1)).map V.ref := by
  have z : es.zip ps = (List.range es.length).map fun i => (es.getD i 0, ps.getD i []) := by
    apply List.ext_getElem
    · rw [List.length_zip, List.length_map, List.length_range]
      omega
    · intro i h1 h2
      rw [List.length_map, List.length_range] at h2
      rw [List.getElem_zip, List.getElem_map, List.getElem_range, List.getD_eq_getElem?_getD, List.getD_eq_getElem?_getD, List.getElem?_eq_getElem h2, List.getElem?_eq_getElem (show i < ps.length by omega)]
      rfl
  rw [z, List.filter_map, List.map_map, List.map_map]
  rfl
theorem pieces_ok (s : Srt) : ∀ x ∈ piecesR s, 0 < x.length ∧ x.length ≤ 12 ∧ ∀ r ∈ x, r.length ≤ 24 := by
  cases s <;> decide +kernel
def spPieces (K : PySem.W.Frag) : Sp := fun vs H Q _ => ∃ (s : Srt) (room : Nat), vs = [.str s.s, .int (room : Int)] ∧ room ≤ 24 ∧ ∀ (p : Addr) (es : List Addr) (H' : Hp), H p = none → Ex H H' → H' p = some (.lst (es.map V.ref)) → LstP K H' es ((piecesR s).filter fun x => decide ((x.getD 0 []).length ≤ room)) → Q (.ref p) H'
section
variable {P : Program} {w : World} {K : PySem.W.Frag} {mg : Str → Option Value} {base : Heap} {f : Addr} {fd : FuncData}
theorem ok__law_pieces (F : FnP K "_law_pieces" s__law_pieces f fd) (Z : Zs mg) : FnOk P w K mg base CX0 1 f fd ["sort", "room"] (spPieces K) := by
  refine F.ok sc__law_pieces (fun vs H0 Q E h => ?_) (fun cdv A outer s H0 vs Q E hr h => ⟨_, PSs.nox (pss_cons (ps_set (i := 2) sc__law_pieces.nd rfl (by first | exact Or.inl rfl | exact Or.inr rfl) (pe_tupF (pa_cons (pe_tupF (pa_cons pe_int (pa_cons pe_int (pa_cons pe_int (pa_cons pe_int (pa_cons pe_int (pa_cons pe_int (pa_cons pe_int (pa_cons pe_int pa_nil))))))))) (pa_cons (pe_tupF (pa_cons pe_int (pa_cons pe_int (pa_cons pe_int (pa_cons pe_int (pa_cons pe_int (pa_cons pe_int (pa_cons pe_int (pa_cons pe_int pa_nil))))))))) (pa_cons (pe_tupF (pa_cons pe_int (pa_cons pe_int (pa_cons pe_int (pa_cons pe_int (pa_cons pe_int (pa_cons pe_int (pa_cons pe_int (pa_cons pe_int pa_nil))))))))) (pa_cons (pe_tupF (pa_cons pe_int (pa_cons pe_int (pa_cons pe_int (pa_cons pe_int (pa_cons pe_int (pa_cons pe_int (pa_cons pe_int (pa_cons pe_int pa_nil))))))))) pa_nil))))))
  (pss_cons (ps_set (i := 3) sc__law_pieces.nd rfl (by first | exact Or.inl rfl | exact Or.inr rfl) (pe_tupF (pa_cons pe_int (pa_cons pe_int (pa_cons pe_int (pa_cons pe_int (pa_cons pe_int (pa_cons pe_int (pa_cons pe_int (pa_cons pe_int (pa_cons pe_int (pa_cons pe_int (pa_cons pe_int pa_nil)))))))))))))
  (pss_cons (ps_set (i := 4) sc__law_pieces.nd rfl (by first | exact Or.inl rfl | exact Or.inr rfl) (pe_callTy (kc_tuple (K := K)) (by rfl) Z.tuple (by decide +kernel) (pa_cons (pe_lc (own := [("at", 5)]) (g := (gName 5)) rfl sc__law_pieces.nd (pi_range1 (by rfl) Z.range (pa_cons pe_int pa_nil)) (blkOk_by (own := [("at", 5)]) (N := ["sort", "room", "eight", "ring", "great", "at", "tails", "twelve", "some", "rows"]) (sc := defScope s__law_pieces) (by decide +kernel)) (fun _ _ _ _ _ => (pg_name (i := 5) sc__law_pieces.nd rfl (Or.inl rfl))) (fun _ _ _ _ _ => pts_nil) (fun _ _ _ _ _ => (pe_op (ko_cat (K := K)) (pe_op (ko_cat (K := K)) (pe_op (ko_cat (K := K)) (pe_op (ko_cat (K := K)) (pe_op (ko_cat (K := K)) (pe_op (ko_rep (K := K)) (pe_tupF (pa_cons pe_int pa_nil)) (pv 5)) (pe_tupF (pa_cons pe_int pa_nil))) (pe_op (ko_rep (K := K)) (pe_tupF (pa_cons pe_int pa_nil)) (pe_op op_sub pe_int (pv 5)))) (pe_slice (ksl_tup (K := K)) (pv 3) (po_some (pv 5)) po_none)) (pe_slice (ksl_tup (K := K)) (pv 3) po_none (po_some (pv 5)))) (pe_tupF (pa_cons pe_int pa_nil))))) pa_nil)))
  (pss_cons (ps_set (i := 4) sc__law_pieces.nd rfl (by first | exact Or.inl rfl | exact Or.inr rfl) (pe_op (ko_cat (K := K)) (pv 4) (pe_tupF (pa_cons (pe_op (ko_cat (K := K)) (pe_op (ko_cat (K := K)) (pe_op (ko_rep (K := K)) (pe_tupF (pa_cons pe_int pa_nil)) pe_int) (pe_op (ko_rep (K := K)) (pe_tupF (pa_cons pe_int pa_nil)) pe_int)) (pe_tupF (pa_cons pe_int pa_nil))) pa_nil))))
  (pss_cons (ps_set (i := 6) sc__law_pieces.nd rfl (by first | exact Or.inl rfl | exact Or.inr rfl) (pe_tupF (pa_cons (pe_tupF (pa_cons pe_int (pa_cons pe_int (pa_cons pe_int (pa_cons pe_int (pa_cons pe_int (pa_cons pe_int pa_nil))))))) (pa_cons (pe_tupF (pa_cons pe_int (pa_cons pe_int (pa_cons pe_int (pa_cons pe_int (pa_cons pe_int (pa_cons pe_int pa_nil))))))) (pa_cons (pe_tupF (pa_cons pe_int (pa_cons pe_int (pa_cons pe_int (pa_cons pe_int (pa_cons pe_int (pa_cons pe_int pa_nil))))))) (pa_cons (pe_tupF (pa_cons pe_int (pa_cons pe_int (pa_cons pe_int (pa_cons pe_int (pa_cons pe_int (pa_cons pe_int pa_nil))))))) (pa_cons (pe_tupF (pa_cons pe_int (pa_cons pe_int (pa_cons pe_int (pa_cons pe_int (pa_cons pe_int (pa_cons pe_int pa_nil))))))) pa_nil)))))))
  (pss_cons (ps_set (i := 6) sc__law_pieces.nd rfl (by first | exact Or.inl rfl | exact Or.inr rfl) (pe_op (ko_cat (K := K)) (pv 6) (pe_tupF (pa_cons (pe_tupF (pa_cons pe_int (pa_cons pe_int (pa_cons pe_int (pa_cons pe_int (pa_cons pe_int (pa_cons pe_int pa_nil))))))) pa_nil))))
  (pss_cons (ps_set (i := 7) sc__law_pieces.nd rfl (by first | exact Or.inl rfl | exact Or.inr rfl) (pe_callTy (kc_tuple (K := K)) (by rfl) Z.tuple (by decide +kernel) (pa_cons (pe_lc (own := [("at", 5)]) (g := (gName 5)) rfl sc__law_pieces.nd (pi_range1 (by rfl) Z.range (pa_cons pe_int pa_nil)) (blkOk_by (own := [("at", 5)]) (N := ["sort", "room", "eight", "ring", "great", "at", "tails", "twelve", "some", "rows"]) (sc := defScope s__law_pieces) (by decide +kernel)) (fun _ _ _ _ _ => (pg_name (i := 5) sc__law_pieces.nd rfl (Or.inl rfl))) (fun _ _ _ _ _ => pts_nil) (fun _ _ _ _ _ => (pe_op (ko_cat (K := K)) (pe_op (ko_cat (K := K)) (pe_op (ko_cat (K := K)) (pe_op (ko_rep (K := K)) (pe_tupF (pa_cons pe_int pa_nil)) (pv 5)) (pe_tupF (pa_cons pe_int pa_nil))) (pe_op (ko_rep (K := K)) (pe_tupF (pa_cons pe_int pa_nil)) (pe_op op_sub pe_int (pv 5)))) (pe_ix (kx_tup (K := K)) (pv 6) (pv 5) (fun _ _ => rfl))))) pa_nil)))
  (pss_cons (ps_set (i := 8) sc__law_pieces.nd rfl (by first | exact Or.inl rfl | exact Or.inr rfl) (pe_disp (pps_cons pe_str (pe_tupF (pa_cons (pe_tupF (pa_cons (pe_tupF (pa_cons pe_int (pa_cons pe_int pa_nil))) pa_nil)) (pa_cons (pe_tupF (pa_cons (pe_tupF (pa_cons pe_int (pa_cons pe_int pa_nil))) pa_nil)) (pa_cons (pv 2) (pa_cons (pv 4) pa_nil))))) (pps_cons pe_str (pe_tupF (pa_cons (pv 2) (pa_cons (pv 4) pa_nil))) pps_nil)) (by rfl) (by rfl) (fun z => by cases z) (by decide)))
  (pss_cons (ps_asg (pe_tupF (pa_cons (pe_tupF (pa_cons (pe_tupF (pa_cons pe_int (pa_cons pe_int (pa_cons pe_int (pa_cons pe_int pa_nil))))) (pa_cons (pe_tupF (pa_cons pe_int (pa_cons pe_int (pa_cons pe_int (pa_cons pe_int pa_nil))))) pa_nil))) (pa_cons (pv 7) pa_nil))) (pg_sub (pv 8) pe_str (set_dict (hu_of hr))))
  (pss_one (ps_ret (pe_lc (own := [("rows", 9)]) (g := (gName 9)) rfl sc__law_pieces.nd (pi_tup (pe_dget (hu_of hr) (pv 8) (pv 0) (fun _ _ => rfl))) (blkOk_by (own := [("rows", 9)]) (N := ["sort", "room", "eight", "ring", "great", "at", "tails", "twelve", "some", "rows"]) (sc := defScope s__law_pieces) (by decide +kernel)) (fun _ _ _ _ _ => (pg_name (i := 9) sc__law_pieces.nd rfl (Or.inl rfl))) (fun _ _ _ _ _ => (pts_one (pt_cmpR op_le (pe_callB (kc_len (K := K)) (by rfl) Z.len PySem.boot_len (pa_cons (pe_ix (kx_tup (K := K)) (pv 9) pe_int (fun _ _ => rfl)) pa_nil)) (pv 1) (nomark _)))) (fun _ _ _ _ _ => (pv 9)))))))))))))), ?_⟩)
  · obtain ⟨s, room, rfl, _⟩ := h
    rfl
  · obtain ⟨s, room, rfl, hn, kk⟩ := h
    have ex : Ex H0 H0 := Ex.refl _
    refine ⟨by show 8 ≤ sizeLine; decide, fun T1 o1 hT1 ho1 => ?_⟩
    have e1 := Ex.new (o := .frz o1 (.tup [V.int 1, .int 0, .int 0, .int 0, .int 0, .int 1, .int 1, .int 1])) hT1
    have t1 : Tp K (upd H0 T1 (.frz o1 (.tup [V.int 1, .int 0, .int 0, .int 0, .int 0, .int 1, .int 1, .int 1]))) T1 (iL [1, 0, 0, 0, 0, 1, 1, 1]) := Tp.of ho1 upd_same
    generalize upd H0 T1 (.frz o1 (.tup [V.int 1, .int 0, .int 0, .int 0, .int 0, .int 1, .int 1, .int 1])) = H1 at e1 t1 ⊢
    replace ex := ex.trans e1
    refine ⟨by show 8 ≤ sizeLine; decide, fun T2 o2 hT2 ho2 => ?_⟩
    have e2 := Ex.new (o := .frz o2 (.tup [V.int 0, .int 1, .int 0, .int 0, .int 1, .int 0, .int 1, .int 1])) hT2
    have t2 : Tp K (upd H1 T2 (.frz o2 (.tup [V.int 0, .int 1, .int 0, .int 0, .int 1, .int 0, .int 1, .int 1]))) T2 (iL [0, 1, 0, 0, 1, 0, 1, 1]) := Tp.of ho2 upd_same
    generalize upd H1 T2 (.frz o2 (.tup [V.int 0, .int 1, .int 0, .int 0, .int 1, .int 0, .int 1, .int 1])) = H2 at e2 t2 ⊢
    replace t1 := t1.ex e2
    replace ex := ex.trans e2
    refine ⟨by show 8 ≤ sizeLine; decide, fun T3 o3 hT3 ho3 => ?_⟩
    have e3 := Ex.new (o := .frz o3 (.tup [V.int 0, .int 0, .int 1, .int 0, .int 1, .int 1, .int 0, .int 1])) hT3
    have t3 : Tp K (upd H2 T3 (.frz o3 (.tup [V.int 0, .int 0, .int 1, .int 0, .int 1, .int 1, .int 0, .int 1]))) T3 (iL [0, 0, 1, 0, 1, 1, 0, 1]) := Tp.of ho3 upd_same
    generalize upd H2 T3 (.frz o3 (.tup [V.int 0, .int 0, .int 1, .int 0, .int 1, .int 1, .int 0, .int 1])) = H3 at e3 t3 ⊢
    replace t1 := t1.ex e3
    replace t2 := t2.ex e3
    replace ex := ex.trans e3
    refine ⟨by show 8 ≤ sizeLine; decide, fun T4 o4 hT4 ho4 => ?_⟩
    have e4 := Ex.new (o := .frz o4 (.tup [V.int 0, .int 0, .int 0, .int 1, .int 1, .int 1, .int 1, .int 0])) hT4
    have t4 : Tp K (upd H3 T4 (.frz o4 (.tup [V.int 0, .int 0, .int 0, .int 1, .int 1, .int 1, .int 1, .int 0]))) T4 (iL [0, 0, 0, 1, 1, 1, 1, 0]) := Tp.of ho4 upd_same
    generalize upd H3 T4 (.frz o4 (.tup [V.int 0, .int 0, .int 0, .int 1, .int 1, .int 1, .int 1, .int 0])) = H4 at e4 t4 ⊢
    replace t1 := t1.ex e4
    replace t2 := t2.ex e4
    replace t3 := t3.ex e4
    replace ex := ex.trans e4
    refine ⟨by show 4 ≤ sizeLine; decide, fun T5 o5 hT5 ho5 => ?_⟩
    have e5 := Ex.new (o := .frz o5 (.tup [V.ref T1, .ref T2, .ref T3, .ref T4])) hT5
    have t5 : Tp K (upd H4 T5 (.frz o5 (.tup [V.ref T1, .ref T2, .ref T3, .ref T4]))) T5 (([T1, T2, T3, T4] : List Addr).map V.ref) := Tp.of ho5 upd_same
    generalize upd H4 T5 (.frz o5 (.tup [V.ref T1, .ref T2, .ref T3, .ref T4])) = H5 at e5 t5 ⊢
    replace t1 := t1.ex e5
    replace t2 := t2.ex e5
    replace t3 := t3.ex e5
    replace t4 := t4.ex e5
    replace ex := ex.trans e5
    have r5 : TpR K H5 T5 [[1, 0, 0, 0, 0, 1, 1, 1], [0, 1, 0, 0, 1, 0, 1, 1], [0, 0, 1, 0, 1, 1, 0, 1], [0, 0, 0, 1, 1, 1, 1, 0]] := ⟨[T1, T2, T3, T4], t5, ((((LstG.nil.push (f := iL) (x := [1, 0, 0, 0, 0, 1, 1, 1]) t1).push (f := iL) (x := [0, 1, 0, 0, 1, 0, 1, 1]) t2).push (f := iL) (x := [0, 0, 1, 0, 1, 1, 0, 1]) t3).push (f := iL) (x := [0, 0, 0, 1, 1, 1, 1, 0]) t4)⟩
    clear t1 t2 t3 t4 t5
    refine ⟨by show 11 ≤ sizeLine; decide, fun T6 o6 hT6 ho6 => ?_⟩
    have e6 := Ex.new (o := .frz o6 (.tup [V.int 1, .int 1, .int 0, .int 1, .int 1, .int 1, .int 0, .int 0, .int 0, .int 1, .int 0])) hT6
    have t6 : Tp K (upd H5 T6 (.frz o6 (.tup [V.int 1, .int 1, .int 0, .int 1, .int 1, .int 1, .int 0, .int 0, .int 0, .int 1, .int 0]))) T6 (iL [1, 1, 0, 1, 1, 1, 0, 0, 0, 1, 0]) := Tp.of ho6 upd_same
    generalize upd H5 T6 (.frz o6 (.tup [V.int 1, .int 1, .int 0, .int 1, .int 1, .int 1, .int 0, .int 0, .int 0, .int 1, .int 0])) = H6 at e6 t6 ⊢
    replace r5 := r5.ex e6
    replace ex := ex.trans e6
    refine ⟨11, rfl, by decide, by decide, ?_⟩
    rw [show ((11 : Int)).toNat = 11 from rfl]
    have hadd : True := trivial
    refine lcX (fun i acc H' => ∃ es, acc = es.map V.ref ∧ LstG iL K H' es ((List.range i).map greatU) ∧ i ≤ 11) (walk_range (lo := 0)) (fun D _ => ⟨[], rfl, LstG.nil, by omega⟩) (fun _ _ => trivial) (fun i acc H' s => ?_) (fun i D acc G0 x G0' hi f0 hD hacc s y K1 K0 k1 k0 => ?_) (fun D acc J0 hD f0 hacc s => ?_)
    · obtain ⟨es, rfl, _, h2⟩ := s
      have l := (show LstG iL K H' es ((List.range i).map greatU) by assumption).len
      rw [List.length_map, List.length_range] at l
      rw [List.length_map]
      omega
    · obtain ⟨rfl, rfl⟩ := y
      obtain ⟨es, rfl, lge, _⟩ := s
      have e0 : (0 : Int) + (i : Int) = (i : Int) := by omega
      show gName _ (V.int ((0 : Int) + (i : Int))) _ _ _
      rw [e0]
      have tr := t6.ex f0
      refine ⟨rfl, yes_go ⟨by show 1 ≤ sizeLine; decide, fun z o hz ho => ⟨_, rfl, rep_one (by omega) (by omega) (fun a1 G1 f1 g1 => ?_) z o hz ho⟩⟩⟩
      rw [Int.toNat_natCast] at g1
      refine ⟨by show 1 ≤ sizeLine; decide, fun z2 o2 hz2 ho2 => cat_ret (g1.ex (Ex.new hz2)) (Tp.of ho2 upd_same) (Nat.le_of_lt (sz_lt (by rw [List.length_replicate]; simp only [List.length_singleton]; omega))) (Ex.refl _) fun a2 G2 f2 g2 => ?_⟩
      have f12 := f1.trans ((Ex.new (o := .frz o2 (.tup [V.int 1])) hz2).trans f2)
      refine ⟨by show 1 ≤ sizeLine; decide, fun z3 o3 hz3 ho3 => ⟨_, rfl, _, _, rfl, rfl, rep_one (by omega) (by omega) (fun a3 G3 f3 g3 => ?_) z3 o3 hz3 ho3⟩⟩
      rw [show ((11 : Int) - (i : Int)).toNat = 11 - i by omega] at g3
      refine cat_ret (g2.ex f3) g3 (Nat.le_of_lt (sz_lt (by rw [List.length_append, List.length_replicate, List.length_replicate]; simp only [List.length_singleton]; omega))) (Ex.refl _) fun a4 G4 f4 g4 => ?_
      have f14 := f12.trans (f3.trans f4)
      have tr4 := tr.ex f14
      refine ⟨_, rfl, _, rfl, _, rfl, no_part (sl_ret tr4 (fun a5 G5 f5 g5 => ?_))⟩
      rw [cut_at (by show i ≤ 11; omega)] at g5
      refine cat_ret (g4.ex f5) g5 (Nat.le_of_lt (sz_lt (by rw [List.length_append, List.length_append, List.length_replicate, List.length_replicate, List.length_drop]; simp only [List.length_singleton]; show _ + (11 - i) < 100000; omega))) (Ex.refl _) fun a6 G6 f6 g6 => ?_
      have f16 := f14.trans (f5.trans f6)
      refine ⟨_, rfl, no_part ⟨_, rfl, _, rfl, sl_ret (tr.ex f16) (fun a7 G7 f7 g7 => ?_)⟩⟩
      rw [cut_first (by show i ≤ 11; omega)] at g7
      refine cat_ret (g6.ex f7) g7 (Nat.le_of_lt (sz_lt (by rw [List.length_append, List.length_append, List.length_append, List.length_replicate, List.length_replicate, List.length_drop, List.length_take]; simp only [List.length_singleton]; show _ + (11 - i) + min i 11 < 100000; omega))) (Ex.refl _) fun a8 G8 f8 g8 => ?_
      have f18 := f16.trans (f7.trans f8)
      refine ⟨by show 1 ≤ sizeLine; decide, fun z9 o9 hz9 ho9 => cat_ret (g8.ex (Ex.new hz9)) (Tp.of ho9 upd_same) (Nat.le_of_lt (sz_lt (by rw [List.length_append, List.length_append, List.length_append, List.length_append, List.length_replicate, List.length_replicate, List.length_drop, List.length_take]; simp only [List.length_singleton]; show _ + (11 - i) + min i 11 + 1 < 100000; omega))) (Ex.refl _) fun a9 G9 f9 g9 => ?_⟩
      have f19 := f18.trans ((Ex.new (o := .frz o9 (.tup [V.int 1])) hz9).trans f9)
      have row : List.replicate i (V.int 0) ++ [V.int 1] ++ List.replicate (11 - i) (V.int 0) ++ List.drop i (iL ringR) ++ List.take i (iL ringR) ++ [V.int 1] = iL (greatU i) := by
        unfold greatU iL
        rw [List.map_append, List.map_append, List.map_append, List.map_append, List.map_append, List.map_replicate, List.map_replicate, List.map_drop, List.map_take]
        rfl
      have g9' : Tp K G9 a9 (iL (greatU i)) := by
        rw [← row]
        exact g9
      refine k1 _ G9 f19 ⟨es ++ [a9], by rw [List.map_append]; rfl, ?_, by omega⟩
      rw [List.range_succ, List.map_append]
      exact ((lge.ex f19).push (f := iL) g9').mut (f19 _ _ hacc)
    · obtain ⟨es7, rfl, lg7, _⟩ := s
      refine ⟨D, _, rfl, .inl ⟨sq_of hacc, fun T7 o7 hT7 ho7 => ?_⟩⟩
      have e7 := Ex.new (o := .frz o7 (.tup (es7.map V.ref))) hT7
      have t7 : TpR K (upd J0 T7 (.frz o7 (.tup (es7.map V.ref)))) T7 ((List.range 11).map greatU) := ⟨es7, Tp.of ho7 upd_same, lg7.ex e7⟩
      replace e7 := f0.trans e7
      generalize upd J0 T7 (.frz o7 (.tup (es7.map V.ref))) = H7 at e7 t7 ⊢
      clear lg7 hacc hD hT7
      replace r5 := r5.ex e7
      replace t6 := t6.ex e7
      replace ex := ex.trans e7
      refine ⟨_, rfl, by show 1 ≤ sizeLine; decide, fun z o hz ho => tc_go (rep_ret (Tp.of ho upd_same) (by decide) (by decide) (by show 1 ≤ 1000; decide) (fun a1 G1 f1 g1 => ?_))⟩
      refine ⟨by show 1 ≤ sizeLine; decide, fun z2 o2 hz2 ho2 => tc_go (rep_ret (Tp.of ho2 upd_same) (by decide) (by decide) (by show 1 ≤ 1000; decide) (fun a2 G2 f2 g2 => ?_))⟩
      replace f1 := (Ex.new (o := .frz o (.tup [V.int 0])) hz).trans f1
      replace f2 := (Ex.new (o := .frz o2 (.tup [V.int 1])) hz2).trans f2
      refine cat_ret (g1.ex f2) g2 (by show 11 + 12 ≤ sizeLine; decide) (Ex.refl _) fun a3 G3 f3 g3 => ?_
      refine ⟨by show 1 ≤ sizeLine; decide, fun z4 o4 hz4 ho4 => cat_ret (g3.ex (Ex.new hz4)) (Tp.of ho4 upd_same) (by show 23 + 1 ≤ sizeLine; decide) (Ex.refl _) fun a5 G5 f5 g5 => ?_⟩
      have f15 := f1.trans (f2.trans (f3.trans ((Ex.new (o := .frz o4 (.tup [V.int 0])) hz4).trans f5)))
      have g5' : Tp K G5 a5 (iL (List.replicate 11 0 ++ List.replicate 12 1 ++ [0])) := g5
      obtain ⟨eg, he, lge⟩ := (t7).ex f15
      refine ⟨by show 1 ≤ sizeLine; decide, fun z6 o6 hz6 ho6 => cat_ret (he.ex (Ex.new hz6)) (Tp.of ho6 upd_same) (Nat.le_of_lt (sz_lt (by rw [List.length_map, lge.len, List.length_map, List.length_range]; simp only [List.length_singleton]; omega))) (Ex.refl _) fun aG G7 f7 g7 => ?_⟩
      have f67 := (Ex.new (o := .frz o6 (.tup [V.ref a5])) hz6).trans f7
      have e17 := f15.trans f67
      have tg : TpR K G7 aG greatR := ⟨eg ++ [a5], by rw [List.map_append]; exact g7, (lge.ex f67).push (f := iL) (g5'.ex f67)⟩
      clear t7
      replace r5 := r5.ex e17
      replace t6 := t6.ex e17
      replace ex := ex.trans e17
      clear he lge g5 g5' g7 g1 g2 g3
      generalize G7 = H8 at *
      refine ⟨by show 6 ≤ sizeLine; decide, fun T9 o9 hT9 ho9 => ?_⟩
      have e9 := Ex.new (o := .frz o9 (.tup [V.int 0, .int 1, .int 1, .int 1, .int 1, .int 1])) hT9
      have t9 : Tp K (upd H8 T9 (.frz o9 (.tup [V.int 0, .int 1, .int 1, .int 1, .int 1, .int 1]))) T9 (iL [0, 1, 1, 1, 1, 1]) := Tp.of ho9 upd_same
      generalize upd H8 T9 (.frz o9 (.tup [V.int 0, .int 1, .int 1, .int 1, .int 1, .int 1])) = H9 at e9 t9 ⊢
      replace r5 := r5.ex e9
      replace tg := tg.ex e9
      replace ex := ex.trans e9
      refine ⟨by show 6 ≤ sizeLine; decide, fun T10 o10 hT10 ho10 => ?_⟩
      have e10 := Ex.new (o := .frz o10 (.tup [V.int 1, .int 0, .int 1, .int 2, .int 2, .int 1])) hT10
      have t10 : Tp K (upd H9 T10 (.frz o10 (.tup [V.int 1, .int 0, .int 1, .int 2, .int 2, .int 1]))) T10 (iL [1, 0, 1, 2, 2, 1]) := Tp.of ho10 upd_same
      generalize upd H9 T10 (.frz o10 (.tup [V.int 1, .int 0, .int 1, .int 2, .int 2, .int 1])) = H10 at e10 t10 ⊢
      replace r5 := r5.ex e10
      replace tg := tg.ex e10
      replace t9 := t9.ex e10
      replace ex := ex.trans e10
      refine ⟨by show 6 ≤ sizeLine; decide, fun T11 o11 hT11 ho11 => ?_⟩
      have e11 := Ex.new (o := .frz o11 (.tup [V.int 1, .int 1, .int 0, .int 1, .int 2, .int 2])) hT11
      have t11 : Tp K (upd H10 T11 (.frz o11 (.tup [V.int 1, .int 1, .int 0, .int 1, .int 2, .int 2]))) T11 (iL [1, 1, 0, 1, 2, 2]) := Tp.of ho11 upd_same
      generalize upd H10 T11 (.frz o11 (.tup [V.int 1, .int 1, .int 0, .int 1, .int 2, .int 2])) = H11 at e11 t11 ⊢
      replace r5 := r5.ex e11
      replace tg := tg.ex e11
      replace t9 := t9.ex e11
      replace t10 := t10.ex e11
      replace ex := ex.trans e11
      refine ⟨by show 6 ≤ sizeLine; decide, fun T12 o12 hT12 ho12 => ?_⟩
      have e12 := Ex.new (o := .frz o12 (.tup [V.int 1, .int 2, .int 1, .int 0, .int 1, .int 2])) hT12
      have t12 : Tp K (upd H11 T12 (.frz o12 (.tup [V.int 1, .int 2, .int 1, .int 0, .int 1, .int 2]))) T12 (iL [1, 2, 1, 0, 1, 2]) := Tp.of ho12 upd_same
      generalize upd H11 T12 (.frz o12 (.tup [V.int 1, .int 2, .int 1, .int 0, .int 1, .int 2])) = H12 at e12 t12 ⊢
      replace r5 := r5.ex e12
      replace tg := tg.ex e12
      replace t9 := t9.ex e12
      replace t10 := t10.ex e12
      replace t11 := t11.ex e12
      replace ex := ex.trans e12
      refine ⟨by show 6 ≤ sizeLine; decide, fun T13 o13 hT13 ho13 => ?_⟩
      have e13 := Ex.new (o := .frz o13 (.tup [V.int 1, .int 2, .int 2, .int 1, .int 0, .int 1])) hT13
      have t13 : Tp K (upd H12 T13 (.frz o13 (.tup [V.int 1, .int 2, .int 2, .int 1, .int 0, .int 1]))) T13 (iL [1, 2, 2, 1, 0, 1]) := Tp.of ho13 upd_same
      generalize upd H12 T13 (.frz o13 (.tup [V.int 1, .int 2, .int 2, .int 1, .int 0, .int 1])) = H13 at e13 t13 ⊢
      replace r5 := r5.ex e13
      replace tg := tg.ex e13
      replace t9 := t9.ex e13
      replace t10 := t10.ex e13
      replace t11 := t11.ex e13
      replace t12 := t12.ex e13
      replace ex := ex.trans e13
      refine ⟨by show 5 ≤ sizeLine; decide, fun T14 o14 hT14 ho14 => ?_⟩
      have e14 := Ex.new (o := .frz o14 (.tup [V.ref T9, .ref T10, .ref T11, .ref T12, .ref T13])) hT14
      have t14 : Tp K (upd H13 T14 (.frz o14 (.tup [V.ref T9, .ref T10, .ref T11, .ref T12, .ref T13]))) T14 (([T9, T10, T11, T12, T13] : List Addr).map V.ref) := Tp.of ho14 upd_same
      generalize upd H13 T14 (.frz o14 (.tup [V.ref T9, .ref T10, .ref T11, .ref T12, .ref T13])) = H14 at e14 t14 ⊢
      replace r5 := r5.ex e14
      replace tg := tg.ex e14
      replace t9 := t9.ex e14
      replace t10 := t10.ex e14
      replace t11 := t11.ex e14
      replace t12 := t12.ex e14
      replace t13 := t13.ex e14
      replace ex := ex.trans e14
      have r14 : TpR K H14 T14 [[0, 1, 1, 1, 1, 1], [1, 0, 1, 2, 2, 1], [1, 1, 0, 1, 2, 2], [1, 2, 1, 0, 1, 2], [1, 2, 2, 1, 0, 1]] := ⟨[T9, T10, T11, T12, T13], t14, (((((LstG.nil.push (f := iL) (x := [0, 1, 1, 1, 1, 1]) t9).push (f := iL) (x := [1, 0, 1, 2, 2, 1]) t10).push (f := iL) (x := [1, 1, 0, 1, 2, 2]) t11).push (f := iL) (x := [1, 2, 1, 0, 1, 2]) t12).push (f := iL) (x := [1, 2, 2, 1, 0, 1]) t13)⟩
      clear t9 t10 t11 t12 t13 t14
      refine ⟨_, rfl, by show 6 ≤ sizeLine; decide, fun z1 o1 hz1 ho1 => ⟨by show 1 ≤ sizeLine; decide, fun z2 o2 hz2 ho2 => ?_⟩⟩
      have f1 := Ex.new (o := .frz o1 (.tup [V.int 1, .int 1, .int 2, .int 2, .int 1, .int 0])) hz1
      have f2 := Ex.new (o := .frz o2 (.tup [V.ref z1])) hz2
      obtain ⟨eg, he, lge⟩ := (r14).ex (f1.trans f2)
      have g1 : Tp K (upd H14 z1 (.frz o1 (.tup [V.int 1, .int 1, .int 2, .int 2, .int 1, .int 0]))) z1 (iL [1, 1, 2, 2, 1, 0]) := Tp.of ho1 upd_same
      refine cat_ret he (Tp.of ho2 upd_same) (Nat.le_of_lt (sz_lt (by rw [List.length_map, lge.len]; simp only [List.length_singleton]; show 5 + 1 < 100000; decide))) (Ex.refl _) fun a7 G7 f7 g7 => ?_
      have e17 := f1.trans (f2.trans f7)
      have tt : TpR K G7 a7 tailsR := ⟨eg ++ [z1], by rw [List.map_append]; exact g7, (lge.ex f7).push (f := iL) (g1.ex (f2.trans f7))⟩
      clear r14
      replace r5 := r5.ex e17
      replace tg := tg.ex e17
      replace ex := ex.trans e17
      clear he lge g7 g1
      generalize G7 = H15 at *
      refine ⟨6, rfl, by decide, by decide, ?_⟩
      rw [show ((6 : Int)).toNat = 6 from rfl]
      refine lcX (fun i acc H' => ∃ es, acc = es.map V.ref ∧ LstG iL K H' es ((List.range i).map twelveU) ∧ i ≤ 6) (walk_range (lo := 0)) (fun D _ => ⟨[], rfl, LstG.nil, by omega⟩) (fun _ _ => trivial) (fun i acc H' s => ?_) (fun i D acc G0 x G0' hi f0 hD hacc s y K1 K0 k1 k0 => ?_) (fun D acc J0 hD f0 hacc s => ?_)
      · obtain ⟨es, rfl, _, h2⟩ := s
        have l := (show LstG iL K H' es ((List.range i).map twelveU) by assumption).len
        rw [List.length_map, List.length_range] at l
        rw [List.length_map]
        omega
      · obtain ⟨rfl, rfl⟩ := y
        obtain ⟨es, rfl, lge, _⟩ := s
        have e0 : (0 : Int) + (i : Int) = (i : Int) := by omega
        show gName _ (V.int ((0 : Int) + (i : Int))) _ _ _
        rw [e0]
        have tr := tt.ex f0
        refine ⟨rfl, yes_go ⟨by show 1 ≤ sizeLine; decide, fun z o hz ho => ⟨_, rfl, rep_one (by omega) (by omega) (fun a1 G1 f1 g1 => ?_) z o hz ho⟩⟩⟩
        rw [Int.toNat_natCast] at g1
        refine ⟨by show 1 ≤ sizeLine; decide, fun z2 o2 hz2 ho2 => cat_ret (g1.ex (Ex.new hz2)) (Tp.of ho2 upd_same) (Nat.le_of_lt (sz_lt (by rw [List.length_replicate]; simp only [List.length_singleton]; omega))) (Ex.refl _) fun a2 G2 f2 g2 => ?_⟩
        have f12 := f1.trans ((Ex.new (o := .frz o2 (.tup [V.int 1])) hz2).trans f2)
        refine ⟨by show 1 ≤ sizeLine; decide, fun z3 o3 hz3 ho3 => ⟨_, rfl, _, _, rfl, rfl, rep_one (by omega) (by omega) (fun a3 G3 f3 g3 => ?_) z3 o3 hz3 ho3⟩⟩
        rw [show ((5 : Int) - (i : Int)).toNat = 5 - i by omega] at g3
        refine cat_ret (g2.ex f3) g3 (Nat.le_of_lt (sz_lt (by rw [List.length_append, List.length_replicate, List.length_replicate]; simp only [List.length_singleton]; omega))) (Ex.refl _) fun a4 G4 f4 g4 => ?_
        have f14 := f12.trans (f3.trans f4)
        obtain ⟨et, hte, lte⟩ := tr.ex f14
        have etl := lte.len
        have etl6 : et.length = 6 := etl
        have eti : et[i]? = some et[i] := List.getElem?_eq_getElem (by omega)
        have tii : tailsR[i]? = some (tailsR.getD i []) := by
          rw [List.getD_eq_getElem?_getD, List.getElem?_eq_getElem (show i < tailsR.length from hi)]
          rfl
        have tl6 : (tailsR.getD i []).length = 6 := by
          have : i = 0 ∨ i = 1 ∨ i = 2 ∨ i = 3 ∨ i = 4 ∨ i = 5 := by omega
          rcases this with rfl | rfl | rfl | rfl | rfl | rfl <;> rfl
        have ti := lte.at_ i _ _ eti tii
        refine ⟨_, rfl, _, rfl, _, _, _, .ref et[i], rfl, rfl, hte.sq, atI_nat (by rw [List.getElem?_map, eti]; rfl), ?_⟩
        refine cat_ret g4 ti (Nat.le_of_lt (sz_lt (by unfold iL; rw [List.length_append, List.length_append, List.length_replicate, List.length_replicate, List.length_map, tl6]; simp only [List.length_singleton]; omega))) (Ex.refl _) fun a5 G5 f5 g5 => ?_
        have f15 := f14.trans f5
        have row : List.replicate i (V.int 0) ++ [V.int 1] ++ List.replicate (5 - i) (V.int 0) ++ iL (tailsR.getD i []) = iL (twelveU i) := by
          unfold twelveU iL
          rw [List.map_append, List.map_append, List.map_append, List.map_replicate, List.map_replicate]
          rfl
        rw [row] at g5
        refine k1 _ G5 f15 ⟨es ++ [a5], by rw [List.map_append]; rfl, ?_, by omega⟩
        rw [List.range_succ, List.map_append]
        exact ((lge.ex f15).push (f := iL) g5).mut (f15 _ _ hacc)
      · obtain ⟨es16, rfl, lg16, _⟩ := s
        refine ⟨D, _, rfl, .inl ⟨sq_of hacc, fun T16 o16 hT16 ho16 => ?_⟩⟩
        have e16 := Ex.new (o := .frz o16 (.tup (es16.map V.ref))) hT16
        have t16 : TpR K (upd J0 T16 (.frz o16 (.tup (es16.map V.ref)))) T16 ((List.range 6).map twelveU) := ⟨es16, Tp.of ho16 upd_same, lg16.ex e16⟩
        replace e16 := f0.trans e16
        generalize upd J0 T16 (.frz o16 (.tup (es16.map V.ref))) = H16 at e16 t16 ⊢
        clear lg16 hacc hD hT16
        replace r5 := r5.ex e16
        replace tg := tg.ex e16
        replace ex := ex.trans e16
        have t7 := tg
        refine fun pd hpd => ?_
        have H0pd : H0 pd = none := fresh_back ex hpd
        have e17 := Ex.new (o := .dK []) hpd
        have dD : upd H16 pd (.dK []) pd = some (.dK []) := upd_same
        generalize upd H16 pd (.dK []) = H17 at e17 dD ⊢
        replace r5 := r5.ex e17
        replace tg := tg.ex e17
        replace t16 := t16.ex e17
        replace ex := ex.trans e17
        refine ⟨by show 2 ≤ sizeLine; decide, fun T18 o18 hT18 ho18 => ?_⟩
        have e18 := Ex.new (o := .frz o18 (.tup [V.int 1, .int 1])) hT18
        have t18 : Tp K (upd H17 T18 (.frz o18 (.tup [V.int 1, .int 1]))) T18 (iL [1, 1]) := Tp.of ho18 upd_same
        generalize upd H17 T18 (.frz o18 (.tup [V.int 1, .int 1])) = H18 at e18 t18 ⊢
        replace r5 := r5.ex e18
        replace tg := tg.ex e18
        replace t16 := t16.ex e18
        replace ex := ex.trans e18
        replace dD := e18 _ _ dD
        refine ⟨by show 1 ≤ sizeLine; decide, fun T19 o19 hT19 ho19 => ?_⟩
        have e19 := Ex.new (o := .frz o19 (.tup [V.ref T18])) hT19
        have t19 : Tp K (upd H18 T19 (.frz o19 (.tup [V.ref T18]))) T19 (([T18] : List Addr).map V.ref) := Tp.of ho19 upd_same
        generalize upd H18 T19 (.frz o19 (.tup [V.ref T18])) = H19 at e19 t19 ⊢
        replace r5 := r5.ex e19
        replace tg := tg.ex e19
        replace t16 := t16.ex e19
        replace t18 := t18.ex e19
        replace ex := ex.trans e19
        replace dD := e19 _ _ dD
        have r19 : TpR K H19 T19 [[1, 1]] := ⟨[T18], t19, LstG.nil.push (f := iL) (x := [1, 1]) t18⟩
        clear t18 t19
        refine ⟨by show 2 ≤ sizeLine; decide, fun T20 o20 hT20 ho20 => ?_⟩
        have e20 := Ex.new (o := .frz o20 (.tup [V.int 1, .int 1])) hT20
        have t20 : Tp K (upd H19 T20 (.frz o20 (.tup [V.int 1, .int 1]))) T20 (iL [1, 1]) := Tp.of ho20 upd_same
        generalize upd H19 T20 (.frz o20 (.tup [V.int 1, .int 1])) = H20 at e20 t20 ⊢
        replace r5 := r5.ex e20
        replace tg := tg.ex e20
        replace t16 := t16.ex e20
        replace r19 := r19.ex e20
        replace ex := ex.trans e20
        replace dD := e20 _ _ dD
        refine ⟨by show 1 ≤ sizeLine; decide, fun T21 o21 hT21 ho21 => ?_⟩
        have e21 := Ex.new (o := .frz o21 (.tup [V.ref T20])) hT21
        have t21 : Tp K (upd H20 T21 (.frz o21 (.tup [V.ref T20]))) T21 (([T20] : List Addr).map V.ref) := Tp.of ho21 upd_same
        generalize upd H20 T21 (.frz o21 (.tup [V.ref T20])) = H21 at e21 t21 ⊢
        replace r5 := r5.ex e21
        replace tg := tg.ex e21
        replace t16 := t16.ex e21
        replace r19 := r19.ex e21
        replace t20 := t20.ex e21
        replace ex := ex.trans e21
        replace dD := e21 _ _ dD
        have r21 : TpR K H21 T21 [[1, 1]] := ⟨[T20], t21, LstG.nil.push (f := iL) (x := [1, 1]) t20⟩
        clear t20 t21
        refine ⟨_, rfl, _, rfl, by show 4 ≤ sizeLine; decide, fun T22 o22 hT22 ho22 => ?_⟩
        have e22 := Ex.new (o := .frz o22 (.tup [V.ref T19, .ref T21, .ref T5, .ref aG])) hT22
        have t22 : Tp K (upd H21 T22 (.frz o22 (.tup [V.ref T19, .ref T21, .ref T5, .ref aG]))) T22 (([T19, T21, T5, aG] : List Addr).map V.ref) := Tp.of ho22 upd_same
        generalize upd H21 T22 (.frz o22 (.tup [V.ref T19, .ref T21, .ref T5, .ref aG])) = H22 at e22 t22 ⊢
        replace r5 := r5.ex e22
        replace tg := tg.ex e22
        replace t16 := t16.ex e22
        replace r19 := r19.ex e22
        replace r21 := r21.ex e22
        replace ex := ex.trans e22
        replace dD := e22 _ _ dD
        refine ⟨_, rfl, _, rfl, by show 2 ≤ sizeLine; decide, fun T23 o23 hT23 ho23 => ?_⟩
        have e23 := Ex.new (o := .frz o23 (.tup [V.ref T5, .ref aG])) hT23
        have t23 : Tp K (upd H22 T23 (.frz o23 (.tup [V.ref T5, .ref aG]))) T23 (([T5, aG] : List Addr).map V.ref) := Tp.of ho23 upd_same
        generalize upd H22 T23 (.frz o23 (.tup [V.ref T5, .ref aG])) = H23 at e23 t23 ⊢
        replace r5 := r5.ex e23
        replace tg := tg.ex e23
        replace t16 := t16.ex e23
        replace r19 := r19.ex e23
        replace r21 := r21.ex e23
        replace t22 := t22.ex e23
        replace ex := ex.trans e23
        replace dD := e23 _ _ dD
        refine ⟨dD, [(Sum.inr "two", .ref T22), (Sum.inr "twice", .ref T23)], rfl, by show 2 ≤ 15; decide, ?_⟩
        have d24 : upd H23 pd (.dK (mergeK [] [(Sum.inr "two", .ref T22), (Sum.inr "twice", .ref T23)])) pd = some (.dK (mergeK [] [(Sum.inr "two", .ref T22), (Sum.inr "twice", .ref T23)])) := upd_same
        replace r5 := TpR.dmut' r5 (o' := .dK (mergeK [] [(Sum.inr "two", .ref T22), (Sum.inr "twice", .ref T23)])) dD
        replace tg := TpR.dmut' tg (o' := .dK (mergeK [] [(Sum.inr "two", .ref T22), (Sum.inr "twice", .ref T23)])) dD
        replace t16 := TpR.dmut' t16 (o' := .dK (mergeK [] [(Sum.inr "two", .ref T22), (Sum.inr "twice", .ref T23)])) dD
        replace r19 := TpR.dmut' r19 (o' := .dK (mergeK [] [(Sum.inr "two", .ref T22), (Sum.inr "twice", .ref T23)])) dD
        replace r21 := TpR.dmut' r21 (o' := .dK (mergeK [] [(Sum.inr "two", .ref T22), (Sum.inr "twice", .ref T23)])) dD
        replace t22 := t22.dmut (o' := .dK (mergeK [] [(Sum.inr "two", .ref T22), (Sum.inr "twice", .ref T23)])) dD
        replace t23 := t23.dmut (o' := .dK (mergeK [] [(Sum.inr "two", .ref T22), (Sum.inr "twice", .ref T23)])) dD
        replace ex : Ex H0 (upd H23 pd (.dK (mergeK [] [(Sum.inr "two", .ref T22), (Sum.inr "twice", .ref T23)]))) := ex_side ex H0pd
        generalize upd H23 pd (.dK (mergeK [] [(Sum.inr "two", .ref T22), (Sum.inr "twice", .ref T23)])) = H24 at d24 ex r5 tg t16 r19 r21 t22 t23 ⊢
        clear dD
        have dD := d24
        refine ⟨by show 4 ≤ sizeLine; decide, fun T25 o25 hT25 ho25 => ?_⟩
        have e25 := Ex.new (o := .frz o25 (.tup [V.int 1, .int 0, .int 1, .int 1])) hT25
        have t25 : Tp K (upd H24 T25 (.frz o25 (.tup [V.int 1, .int 0, .int 1, .int 1]))) T25 (iL [1, 0, 1, 1]) := Tp.of ho25 upd_same
        generalize upd H24 T25 (.frz o25 (.tup [V.int 1, .int 0, .int 1, .int 1])) = H25 at e25 t25 ⊢
        replace r5 := r5.ex e25
        replace tg := tg.ex e25
        replace t16 := t16.ex e25
        replace r19 := r19.ex e25
        replace r21 := r21.ex e25
        replace t22 := t22.ex e25
        replace t23 := t23.ex e25
        replace ex := ex.trans e25
        replace dD := e25 _ _ dD
        refine ⟨by show 4 ≤ sizeLine; decide, fun T26 o26 hT26 ho26 => ?_⟩
        have e26 := Ex.new (o := .frz o26 (.tup [V.int 0, .int 1, .int 1, .int 2])) hT26
        have t26 : Tp K (upd H25 T26 (.frz o26 (.tup [V.int 0, .int 1, .int 1, .int 2]))) T26 (iL [0, 1, 1, 2]) := Tp.of ho26 upd_same
        generalize upd H25 T26 (.frz o26 (.tup [V.int 0, .int 1, .int 1, .int 2])) = H26 at e26 t26 ⊢
        replace r5 := r5.ex e26
        replace tg := tg.ex e26
        replace t16 := t16.ex e26
        replace r19 := r19.ex e26
        replace r21 := r21.ex e26
        replace t22 := t22.ex e26
        replace t23 := t23.ex e26
        replace t25 := t25.ex e26
        replace ex := ex.trans e26
        replace dD := e26 _ _ dD
        refine ⟨by show 2 ≤ sizeLine; decide, fun T27 o27 hT27 ho27 => ?_⟩
        have e27 := Ex.new (o := .frz o27 (.tup [V.ref T25, .ref T26])) hT27
        have t27 : Tp K (upd H26 T27 (.frz o27 (.tup [V.ref T25, .ref T26]))) T27 (([T25, T26] : List Addr).map V.ref) := Tp.of ho27 upd_same
        generalize upd H26 T27 (.frz o27 (.tup [V.ref T25, .ref T26])) = H27 at e27 t27 ⊢
        replace r5 := r5.ex e27
        replace tg := tg.ex e27
        replace t16 := t16.ex e27
        replace r19 := r19.ex e27
        replace r21 := r21.ex e27
        replace t22 := t22.ex e27
        replace t23 := t23.ex e27
        replace t25 := t25.ex e27
        replace t26 := t26.ex e27
        replace ex := ex.trans e27
        replace dD := e27 _ _ dD
        have r27 : TpR K H27 T27 [[1, 0, 1, 1], [0, 1, 1, 2]] := ⟨[T25, T26], t27, ((LstG.nil.push (f := iL) (x := [1, 0, 1, 1]) t25).push (f := iL) (x := [0, 1, 1, 2]) t26)⟩
        clear t25 t26 t27
        refine ⟨_, rfl, by show 2 ≤ sizeLine; decide, fun T28 o28 hT28 ho28 => ?_⟩
        have e28 := Ex.new (o := .frz o28 (.tup [V.ref T27, .ref T16])) hT28
        have t28 : Tp K (upd H27 T28 (.frz o28 (.tup [V.ref T27, .ref T16]))) T28 (([T27, T16] : List Addr).map V.ref) := Tp.of ho28 upd_same
        generalize upd H27 T28 (.frz o28 (.tup [V.ref T27, .ref T16])) = H28 at e28 t28 ⊢
        replace r5 := r5.ex e28
        replace tg := tg.ex e28
        replace t16 := t16.ex e28
        replace r19 := r19.ex e28
        replace r21 := r21.ex e28
        replace t22 := t22.ex e28
        replace t23 := t23.ex e28
        replace r27 := r27.ex e28
        replace ex := ex.trans e28
        replace dD := e28 _ _ dD
        refine ⟨_, rfl, pd, _, rfl, DPut.k (k := Sum.inr "three") dD (by show 2 < sizeLine; decide), ?_⟩
        have d29 : upd H28 pd (.dK (putK (mergeK [] [(Sum.inr "two", .ref T22), (Sum.inr "twice", .ref T23)]) (Sum.inr "three") (.ref T28))) pd = some (.dK (putK (mergeK [] [(Sum.inr "two", .ref T22), (Sum.inr "twice", .ref T23)]) (Sum.inr "three") (.ref T28))) := upd_same
        replace r5 := TpR.dmut' r5 (o' := .dK (putK (mergeK [] [(Sum.inr "two", .ref T22), (Sum.inr "twice", .ref T23)]) (Sum.inr "three") (.ref T28))) dD
        replace tg := TpR.dmut' tg (o' := .dK (putK (mergeK [] [(Sum.inr "two", .ref T22), (Sum.inr "twice", .ref T23)]) (Sum.inr "three") (.ref T28))) dD
        replace t16 := TpR.dmut' t16 (o' := .dK (putK (mergeK [] [(Sum.inr "two", .ref T22), (Sum.inr "twice", .ref T23)]) (Sum.inr "three") (.ref T28))) dD
        replace r19 := TpR.dmut' r19 (o' := .dK (putK (mergeK [] [(Sum.inr "two", .ref T22), (Sum.inr "twice", .ref T23)]) (Sum.inr "three") (.ref T28))) dD
        replace r21 := TpR.dmut' r21 (o' := .dK (putK (mergeK [] [(Sum.inr "two", .ref T22), (Sum.inr "twice", .ref T23)]) (Sum.inr "three") (.ref T28))) dD
        replace t22 := t22.dmut (o' := .dK (putK (mergeK [] [(Sum.inr "two", .ref T22), (Sum.inr "twice", .ref T23)]) (Sum.inr "three") (.ref T28))) dD
        replace t23 := t23.dmut (o' := .dK (putK (mergeK [] [(Sum.inr "two", .ref T22), (Sum.inr "twice", .ref T23)]) (Sum.inr "three") (.ref T28))) dD
        replace r27 := TpR.dmut' r27 (o' := .dK (putK (mergeK [] [(Sum.inr "two", .ref T22), (Sum.inr "twice", .ref T23)]) (Sum.inr "three") (.ref T28))) dD
        replace t28 := t28.dmut (o' := .dK (putK (mergeK [] [(Sum.inr "two", .ref T22), (Sum.inr "twice", .ref T23)]) (Sum.inr "three") (.ref T28))) dD
        replace ex : Ex H0 (upd H28 pd (.dK (putK (mergeK [] [(Sum.inr "two", .ref T22), (Sum.inr "twice", .ref T23)]) (Sum.inr "three") (.ref T28)))) := ex_side ex H0pd
        generalize upd H28 pd (.dK (putK (mergeK [] [(Sum.inr "two", .ref T22), (Sum.inr "twice", .ref T23)]) (Sum.inr "three") (.ref T28))) = H29 at d29 ex r5 tg t16 r19 r21 t22 t23 r27 t28 ⊢
        clear dD
        have dD := d29
        obtain ⟨X, es, hX, hes, lp⟩ : ∃ (X : Addr) (es : List Addr), DGet H29 pd (.str s.s) (some (.ref X)) ∧ Tp K H29 X (es.map V.ref) ∧ LstP K H29 es (piecesR s) := by
          cases s
          · exact ⟨_, _, DGet.k (k := Sum.inr "two") dD, t22, (r19).in_ (r21.in_ (r5.in_ (tg.in_ LstP.nil)))⟩
          · exact ⟨_, _, DGet.k (k := Sum.inr "twice") dD, t23, r5.in_ (tg.in_ LstP.nil)⟩
          · exact ⟨_, _, DGet.k (k := Sum.inr "three") dD, t28, r27.in_ (t16.in_ LstP.nil)⟩
        clear dD
        have pl := lp.1
        refine ⟨_, rfl, _, rfl, pd, _, rfl, hX, X, rfl, ⟨_, hes.sq⟩, lcP (walk_tup (xs := es.map V.ref)) (fun H' q => (hes.ex q).sq) (by rw [List.length_map, pl]; cases s <;> decide) (fun i => decide ((((piecesR s).getD i []).getD 0 []).length ≤ room)) (fun i => V.ref (es.getD i 0)) (fun i Ha x Hb hi e y K1 K0 k1 k0 => ?_) (fun D Hc hD ec hc => ?_)⟩
        · obtain ⟨rfl, g⟩ := y
          obtain ⟨a, rfl, ga⟩ := ref_at g
          have il : i < es.length := (List.getElem?_eq_some_iff.mp ga).1
          have ip : (piecesR s)[i]? = some ((piecesR s).getD i []) := by
            rw [List.getD_eq_getElem?_getD, List.getElem?_eq_getElem (show i < (piecesR s).length by omega)]
            rfl
          have po := pieces_ok s _ (List.mem_of_getElem? ip)
          obtain ⟨ez, hz, lz⟩ := (lp.2 i a _ ga ip).ex e
          have ad : es.getD i 0 = a := by
            rw [List.getD_eq_getElem?_getD, ga]
            rfl
          generalize (piecesR s).getD i [] = pc at po lz k1 k0
          have zl := lz.len
          have z0 : ez[0]? = some ez[0] := List.getElem?_eq_getElem (by omega)
          have p0 : pc[0]? = some (pc.getD 0 []) := by
            rw [List.getD_eq_getElem?_getD, List.getElem?_eq_getElem (show 0 < pc.length by omega)]
            rfl
          have t0 := lz.at_ 0 _ _ z0 p0
          have m0 : (ez.map V.ref)[0]? = some (V.ref ez[0]) := by
            rw [List.getElem?_map, z0]
            rfl
          refine ⟨rfl, _, rfl, a, _, 0, .ref ez[0], rfl, rfl, hz.sq, atI_nat (j := 0) m0, ez[0], _, rfl, .inr t0.sq, _, rfl, _, _, rfl, rfl, _, rfl, ?_⟩
          have ll : ((iL (pc.getD 0 [])).length : Int) = ((pc.getD 0 []).length : Int) := by
            unfold iL
            rw [List.length_map]
          rw [ll]
          by_cases c : (pc.getD 0 []).length ≤ room
          · rw [decide_eq_true (show ((pc.getD 0 []).length : Int) ≤ (room : Int) by omega)]
            refine iteT ⟨_, rfl, ?_⟩
            rw [← ad]
            exact k1 (decide_eq_true c) _ (Ex.refl _)
          · rw [decide_eq_false (show ¬ ((pc.getD 0 []).length : Int) ≤ (room : Int) by omega)]
            exact iteF (k0 (decide_eq_false c) _ (Ex.refl _))
        · rw [List.length_map, zip_given pl (fun x => decide ((x.getD 0 []).length ≤ room))] at hc
          exact kk D _ Hc (fresh_back ex hD) (ex.trans ec) hc ((lp.ex ec).filt fun x => decide ((x.getD 0 []).length ≤ room))
end
end K47

namespace K47
open PySem PySem.Spec PyProof.Rows L2 Evl Own
theorem LstP.know {K : PySem.W.Frag} {a : Addr} {R H : Hp} {es : List Addr} {ps : List (List (List Int))} (l : LstP K H es ps) (w : Bx a R H) (m : ∀ b o, b ≠ a → H b = some o → R b = some o) : LstP K R es ps := by
  refine ⟨l.1, fun i e x h1 h2 => ?_⟩
  obtain ⟨ez, g1, g2⟩ := l.2 i e x h1 h2
  exact ⟨ez, w.know m g1, g2.len, fun j f y k1 k2 => w.know m (g2.at_ j f y k1 k2)⟩
theorem LstG_know {K : PySem.W.Frag} {a : Addr} {R H : Hp} {es : List Addr} {rows : List (List Int)} (l : LstG iL K H es rows) (w : Bx a R H) (m : ∀ b o, b ≠ a → H b = some o → R b = some o) : LstG iL K R es rows :=
  ⟨l.len, fun j f y k1 k2 => w.know m (l.at_ j f y k1 k2)⟩
def spBegin (K : PySem.W.Frag) : Sp := fun vs H Q _ => ∃ (a : Addr) (R : Hp) (s : Srt) (n : Nat), vs = [.ref a, .str s.s, .int (n : Int)] ∧ Bx a R H ∧ n ≤ 24 ∧ n % s.step = 0 ∧ ∀ (L : Addr) (es : List Addr) (rows : List (List Int)) (R1 H1 : Hp), Ex R R1 → Bx a R1 H1 → R1 L = some (.lst (es.map V.ref)) → LstG iL K R1 es rows → Beg s n n rows → Q (.ref L) H1
section
variable {P : Program} {w : World} {K : PySem.W.Frag} {mg : Str → Option Value} {base : Heap} {f : Addr} {fd : FuncData}
theorem ok__law_begin (F : FnP K "_law_begin" s__law_begin f fd) (Z : Zs mg) (G__law_pieces : Fn P w K mg base CX0 1 "_law_pieces" s__law_pieces ["sort", "room"] (spPieces K)) (G__law_pick : Fn P w K mg base CX0 2 "_law_pick" s__law_pick ["box", "some"] (spPick K)) : FnOk P w K mg base CX0 3 f fd ["box", "sort", "length"] (spBegin K) := by
  refine F.ok sc__law_begin (fun vs H Q E h => ?_) (fun cdv A outer s H vs Q E hr h => ⟨_, PSs.nox (pss_cons (ps_asg (pe_tupF (pa_cons (pe_lst pa_nil) (pa_cons pe_int pa_nil))) (pg_tup rfl (pgs_cons (pg_name (i := 3) sc__law_begin.nd rfl (by first | exact Or.inl rfl | exact Or.inr rfl)) (pgs_cons (pg_name (i := 4) sc__law_begin.nd rfl (by first | exact Or.inl rfl | exact Or.inr rfl)) pgs_nil))))
  (pss_cons (ps_for PassesOwn.never rfl (pi_range1 (by rfl) Z.range (pa_cons pe_int pa_nil)) (pg_name (i := 5) sc__law_begin.nd rfl (by first | exact Or.inl rfl | exact Or.inr rfl)) (pss_one (ps_if (pt_cmpR op_lt (pv 4) (pv 2) (nomark _)) (pss_cons (ps_set (i := 6) sc__law_begin.nd rfl (by first | exact Or.inl rfl | exact Or.inr rfl) (pe_callF G__law_pick (hr.mono (by decide)) rfl pass0 (pa_cons (pv 0) (pa_cons (pe_callF G__law_pieces (hr.mono (by decide)) rfl pass0 (pa_cons (pv 1) (pa_cons (pe_op op_sub (pv 2) (pv 4)) pa_nil))) pa_nil))))
  (pss_cons (ps_set (i := 7) sc__law_begin.nd rfl (by first | exact Or.inl rfl | exact Or.inr rfl) (pe_callB (kc_len (K := K)) (by rfl) Z.len PySem.boot_len (pa_cons (pe_ix (kx_tup (K := K)) (pv 6) pe_int (fun _ _ => rfl)) pa_nil)))
  (pss_cons (ps_expr (km_bm (K := K) PySem.F.plainAttrs_list PySem.F.slot_list_extend PySem.F.type_list_extend mt_extend (pv 3) (pa_cons (pe_lc (own := [("row", 8)]) (g := (gName 8)) rfl sc__law_begin.nd (pi_tup (pv 6)) (blkOk_by (own := [("row", 8)]) (N := ["box", "sort", "length", "found", "ahead", "turn", "piece", "size", "row"]) (sc := defScope s__law_begin) (by decide +kernel)) (fun _ _ _ _ _ => (pg_name (i := 8) sc__law_begin.nd rfl (Or.inl rfl))) (fun _ _ _ _ _ => pts_nil) (fun _ _ _ _ _ => (pe_op (ko_cat (K := K)) (pe_op (ko_cat (K := K)) (pe_op (ko_rep (K := K)) (pe_tupF (pa_cons pe_int pa_nil)) (pv 4)) (pv 8)) (pe_op (ko_rep (K := K)) (pe_tupF (pa_cons pe_int pa_nil)) (pe_op op_sub (pe_op op_sub (pv 2) (pv 4)) (pv 7)))))) pa_nil)))
  (pss_one (ps_set (i := 4) sc__law_begin.nd rfl (by first | exact Or.inl rfl | exact Or.inr rfl) (pe_op op_add (pv 4) (pv 7))))))) pss_nil)))
  (pss_one (ps_ret (pv 3))))), ?_⟩)
  · obtain ⟨a, R, s, n, rfl, _⟩ := h
    rfl
  · obtain ⟨a, R, s, n, rfl, hw, hn, hs, k⟩ := h
    have q23 := s.q_le
    have q0 : 0 < s.q := by omega
    refine ⟨by decide, fun L hL => ⟨by show 2 ≤ sizeLine; decide, fun T o hT ho => ⟨T, _, rfl, (Tp.of ho upd_same).sq, rfl, _, _, rfl, _, _, rfl, rfl, ?_⟩⟩⟩
    have RL := hw.free hL
    have w1 := hw.new (o := .lst []) hL
    have eL := Ex.new (o := .lst []) RL
    have L1 : upd R L (.lst []) L = some (.lst (([] : List Addr).map V.ref)) := upd_same
    have w2 := w1.keep (Ex.new (o := .frz o (.tup [V.ref L, .int 0])) hT)
    generalize upd R L (.lst []) = R1 at w1 w2 eL L1
    refine ⟨12, rfl, by decide, by decide, ?_⟩
    refine for_range (lo := 0) (n := 12) (fun i σ H' => ∃ (ah : Nat) (es : List Addr) (rows : List (List Int)) (R' : Hp) (v5 v6 v7 : Option V), Ex R R' ∧ Bx a R' H' ∧ R' L = some (.lst (es.map V.ref)) ∧ LstG iL K R' es rows ∧ ah ≤ n ∧ (n - ah) % s.step = 0 ∧ Beg s n ah rows ∧ (ah = n ∨ 2 * i ≤ ah) ∧ σ = [some (.ref a), some (.str s.s), some (.int (n : Int)), some (.ref L), some (.int (ah : Int)), v5, v6, v7, none])
      ⟨0, [], [], R1, none, none, none, eL, w2, L1, LstG.nil, by omega, hs, Beg.nil, .inr (by omega), rfl⟩ (fun i σ H' hi y => ?_) (fun σ H' y => ?_)
    · obtain ⟨ah, es, rows, R', v5, v6, v7, ex, w3, hL3, lg, an, am, bg, pr, rfl⟩ := y
      have rl := bg.half
      refine ⟨_, rfl, _, rfl, _, _, rfl, rfl, _, rfl, ?_⟩
      by_cases c : ah < n
      · rw [decide_eq_true (show (ah : Int) < (n : Int) by omega)]
        refine iteT ⟨_, rfl, _, rfl, _, rfl, _, rfl, _, _, rfl, rfl, s, n - ah, by rw [show ((n - ah : Nat) : Int) = (n : Int) - (ah : Int) by omega]; rfl, by omega, fun p eps H4 hp e4 h4 lp => ?_⟩
        have pa : p ≠ a := fun z => w3.ne (z ▸ hp)
        obtain ⟨R4, er4, w4, m4⟩ := w3.more e4
        have hp4 := m4 _ _ pa h4
        have lp4 := lp.know w4 m4
        have fne := small_fits s am (by omega)
        have pok : ∀ x ∈ (piecesR s).filter (fun x => decide ((x.getD 0 []).length ≤ n - ah)), PieceOk s x (x.getD 0 []).length ∧ (x.getD 0 []).length ≤ n - ah := fun x hx => ⟨piece_ok (List.mem_filter.mp hx).1, of_decide_eq_true (List.mem_filter.mp hx).2⟩
        have pl4 : ((piecesR s).filter (fun x => decide ((x.getD 0 []).length ≤ n - ah))).length ≤ 4 := Nat.le_trans (List.length_filter_le _ _) (by cases s <;> decide)
        generalize (piecesR s).filter (fun x => decide ((x.getD 0 []).length ≤ n - ah)) = pcs at lp4 fne pok pl4
        clear lp h4 hp e4
        have pn : eps.map V.ref ≠ [] := fun z => by
          have : eps.length = 0 := by rw [List.map_eq_nil_iff.mp z]; rfl
          rw [lp4.1] at this
          exact fne (List.eq_nil_of_length_eq_zero this)
        refine ⟨a, p, false, R4, _, rfl, w4, sqb_l hp4, pn, by rw [List.length_map, lp4.1]; omega, fun j v H5 hv w5 => ?_⟩
        obtain ⟨pe, rfl, gj⟩ := ref_at hv
        have jl : j < pcs.length := by
          rw [← lp4.1]
          exact (List.getElem?_eq_some_iff.mp gj).1
        have pj : pcs[j]? = some pcs[j] := List.getElem?_eq_getElem jl
        have pt := lp4.2 j pe _ gj pj
        obtain ⟨pk, pfit⟩ := pok _ (List.getElem_mem jl)
        generalize pcs[j] = pc at pt pk pfit
        generalize hz : (pc.getD 0 []).length = z at pk pfit
        obtain ⟨ez, hze, lz⟩ := pt.ex w5.ex
        have zl := lz.len
        have ph := pk.half
        have ezp : 0 < ez.length := by have := pk.pos; omega
        have z0 : ez[0]? = some ez[0] := List.getElem?_eq_getElem ezp
        have p0 : pc[0]? = some (pc.getD 0 []) := by
          rw [List.getD_eq_getElem?_getD, List.getElem?_eq_getElem (show 0 < pc.length by have := pk.pos; omega)]
          rfl
        have t0 := lz.at_ 0 _ _ z0 p0
        have m0 : (ez.map V.ref)[0]? = some (V.ref ez[0]) := by
          rw [List.getElem?_map, z0]
          rfl
        refine ⟨_, rfl, pe, _, 0, .ref ez[0], rfl, rfl, hze.sq, atI_nat (j := 0) m0, ez[0], _, rfl, .inr t0.sq, ?_⟩
        rw [show (((iL (pc.getD 0 [])).length : Nat) : Int) = (z : Int) by unfold iL; rw [List.length_map, hz]]
        have ex4 := ex.trans er4
        have hL4 := er4 _ _ hL3
        refine ⟨_, rfl, .inl ⟨rfl, _, sq_of (w5.ex _ _ hL4)⟩, _, rfl, pe, rfl, ⟨_, hze.sq⟩, lcX (fun i acc H' => ∃ es, acc = es.map V.ref ∧ LstG iL K H' es ((pc.take i).map fun r => padF ah r (n - ah - z)) ∧ i ≤ pc.length) (walk_tup (xs := ez.map V.ref)) (fun D _ => ⟨[], rfl, LstG.nil, by omega⟩) (fun H' q => (hze.ex q).sq) (fun i acc H' s => ?_) (fun i D acc G0 x G0' hi f0 hD hacc s y K1 K0 k1 k0 => ?_) (fun D acc J0 hD f0 hacc s => ?_)⟩
        · obtain ⟨es1, rfl, l, h2⟩ := s
          have := l.len
          rw [List.length_map, List.length_take] at this
          rw [List.length_map]
          have := pk.le
          omega
        · obtain ⟨rfl, g⟩ := y
          obtain ⟨es1, rfl, lge, _⟩ := s
          obtain ⟨e, r, rfl, ge, gr, te⟩ := (lz.ex f0).get g
          have rk := (pk.row r (List.mem_of_getElem? gr)).1
          have zle := pk.le
          have il : i < pc.length := (List.getElem?_eq_some_iff.mp gr).1
          refine ⟨rfl, yes_go ⟨by show 1 ≤ sizeLine; decide, fun y1 o1 hy1 hy2 => ⟨_, rfl, rep_one (by omega) (by omega) (fun a1 G1 f1 g1 => ?_) y1 o1 hy1 hy2⟩⟩⟩
          rw [Int.toNat_natCast] at g1
          refine ⟨_, rfl, cat_ret g1 (te.ex f1) (Nat.le_of_lt (sz_lt (by unfold iL; rw [List.length_replicate, List.length_map, rk.1]; omega))) (Ex.refl _) fun a2 G2 f2 g2 => ?_⟩
          refine ⟨by show 1 ≤ sizeLine; decide, fun y3 o3 hy3 ho3 => ⟨_, rfl, _, rfl, _, _, rfl, rfl, _, rfl, _, _, rfl, rfl, rep_one (by omega) (by omega) (fun a3 G3 f3 g3 => ?_) y3 o3 hy3 ho3⟩⟩
          rw [show ((n : Int) - (ah : Int) - (z : Int)).toNat = n - ah - z by omega] at g3
          refine cat_ret (g2.ex f3) g3 (Nat.le_of_lt (sz_lt (by unfold iL; rw [List.length_append, List.length_replicate, List.length_replicate, List.length_map, rk.1]; omega))) (Ex.refl _) fun a4 G4 f4 g4 => ?_
          have f14 := f1.trans (f2.trans (f3.trans f4))
          have row : List.replicate ah (V.int 0) ++ iL r ++ List.replicate (n - ah - z) (V.int 0) = iL (padF ah r (n - ah - z)) := by
            unfold iL padF
            rw [List.map_append, List.map_append, List.map_replicate, List.map_replicate]
          rw [row] at g4
          refine k1 _ G4 f14 ⟨es1 ++ [a4], by rw [List.map_append]; rfl, ?_, by omega⟩
          have tk : (pc.take (i + 1)).map (fun r => padF ah r (n - ah - z)) = (pc.take i).map (fun r => padF ah r (n - ah - z)) ++ [padF ah r (n - ah - z)] := by
            rw [List.take_add_one, gr, List.map_append]
            rfl
          rw [tk]
          exact ((lge.ex f14).push (f := iL) g4).mut (f14 _ _ hacc)
        · obtain ⟨es1, rfl, lge, _⟩ := s
          rw [List.length_map, zl, List.take_length] at lge
          have Da : D ≠ a := fun q => w5.ne (q ▸ hD)
          obtain ⟨R6, er6, w6, m6⟩ := w5.more f0
          have hD6 := m6 _ _ Da hacc
          have lg6 := LstG_know lge w6 m6
          have hL6 := er6 _ _ hL4
          have le1 := lge.len
          rw [List.length_map] at le1
          have le2 := lg.len
          have zle := pk.le
          have ex6 := ex4.trans er6
          have HL6 := w6.ex _ _ hL6
          refine ⟨L, D, _, _, rfl, rfl, HL6, w6.ex _ _ hD6, Nat.le_of_lt (sz_lt (by rw [List.length_map, List.length_map]; omega)), ?_⟩
          have em : es.map V.ref ++ es1.map V.ref = (es ++ es1).map V.ref := by rw [List.map_append]
          rw [em]
          refine ⟨_, rfl, _, rfl, _, _, rfl, rfl, ah + z, es ++ es1, rows ++ pc.map (fun r => padF ah r (n - ah - z)), _, _, _, _, ex_side ex6 RL, w6.mut hL6, upd_same, ((lg.ex (er4.trans er6)).app lg6).mut hL6, by omega, ?_, bg.step pk (by omega), ?_, rfl⟩
          · have h1 := pk.mod
            have : n - (ah + z) = (n - ah) - z := by omega
            rw [this]
            exact Nat.mod_eq_zero_of_dvd (Nat.dvd_sub (Nat.dvd_of_mod_eq_zero am) (Nat.dvd_of_mod_eq_zero h1))
          · have := pk.pos
            have := pk.half
            omega
      · rw [decide_eq_false (show ¬ (ah : Int) < (n : Int) by omega)]
        exact iteF ⟨ah, es, rows, R', _, v6, v7, ex, w3, hL3, lg, an, am, bg, .inl (by omega), rfl⟩
    · obtain ⟨ah, es, rows, R', v5, v6, v7, ex, w3, hL3, lg, an, am, bg, pr, rfl⟩ := y
      exact ⟨_, rfl, k L es rows R' H' ex w3 hL3 lg (by rw [show n = ah by omega] at bg ⊢; exact bg)⟩
end
end K47

namespace K47
open PySem PySem.Spec PyProof.Rows L2 Evl Own
theorem ledAll_len (q : Nat) (row : List Int) : ∀ (rv : List (List Int)) (st : LedS), (rv.foldl (ledStep q row) st).kept.length ≤ st.kept.length + rv.length
  | [], st => Nat.le_refl _
  | one :: rv, st => by
    have i := ledAll_len q row rv (ledStep q row st one)
    have h : (ledStep q row st one).kept.length ≤ st.kept.length + 1 := by
      unfold ledStep
      split
      · simp
      · split
        · simp
        · simp
    show (rv.foldl (ledStep q row) (ledStep q row st one)).kept.length ≤ _
    rw [List.length_cons]
    omega
theorem ledK_len (q : Nat) (rows : List (List Int)) (row : List Int) : (ledK q rows row).length ≤ rows.length := by
  have := ledAll_len q row rows.reverse ⟨[], [], 0⟩
  rw [List.length_reverse] at this
  unfold ledK ledAll
  simpa using this
theorem tpr_know {K : PySem.W.Frag} {a : Addr} {R H : Hp} {p : Addr} {rows : List (List Int)} (l : TpR K H p rows) (w : Bx a R H) (m : ∀ b o, b ≠ a → H b = some o → R b = some o) : TpR K R p rows := by
  obtain ⟨es, h1, h2⟩ := l
  exact ⟨es, w.know m h1, LstG_know h2 w m⟩
def RwP (q n : Nat) (rows : List (List Int)) : Prop := Red q n rows ∧ Desc rows
def spWalk (K : PySem.W.Frag) : Sp := fun vs H Q _ => ∃ (a p : Addr) (R : Hp) (s : Srt) (n t : Nat) (rows : List (List Int)), vs = [.ref a, .str s.s, .int (n : Int), .ref p, .int (t : Int)] ∧ Bx a R H ∧ TpR K R p rows ∧ IsOwn s n rows ∧ n ≤ 24 ∧ t ≤ 4 ∧
  ∀ (p' : Addr) (rows' : List (List Int)) (R1 H1 : Hp), Ex R R1 → Bx a R1 H1 → TpR K R1 p' rows' → IsOwn s n rows' → Q (.ref p') H1
section
variable {P : Program} {w : World} {K : PySem.W.Frag} {mg : Str → Option Value} {base : Heap} {f : Addr} {fd : FuncData}
theorem ok__law_walk (F : FnP K "_law_walk" s__law_walk f fd) (Z : Zs mg) (G__law_letters : Fn P w K mg base CX0 1 "_law_letters" s__law_letters ["sort"] (spSrt Srt.q)) (G__law_row : Fn P w K mg base CX0 2 "_law_row" s__law_row ["box", "letters", "length"] (spRow K)) (G__law_fitting : Fn P w K mg base CX0 2 "_law_fitting" s__law_fitting ["sort", "row"] (spFit K))
    (G__law_with : Fn P w K mg base CX0 2 "_law_with" s__law_with ["letters", "rows", "row"] (spWith K)) (G__law_led : Fn P w K mg base CX0 3 "_law_led" s__law_led ["letters", "rows", "row"] (spLed K)) : FnOk P w K mg base CX0 4 f fd ["box", "sort", "length", "rows", "turns"] (spWalk K) := by
  refine F.ok sc__law_walk (fun vs H Q E h => ?_) (fun cdv A outer s H vs Q E hr h => ⟨_, PSs.nox (pss_cons (ps_par (i := 5) (j := 6) rfl sc__law_walk.nd rfl rfl (by decide) rfl rfl (pa_cons (pe_callF G__law_letters (hr.mono (by decide)) rfl pass0 (pa_cons (pv 1) pa_nil)) (pa_cons (pv 3) pa_nil)) (by rfl))
  (pss_cons (ps_for PassesOwn.never rfl (pi_range1 (by rfl) Z.range (pa_cons (pv 4) pa_nil)) (pg_name (i := 7) sc__law_walk.nd rfl (by first | exact Or.inl rfl | exact Or.inr rfl)) (pss_cons (ps_set (i := 8) sc__law_walk.nd rfl (by first | exact Or.inl rfl | exact Or.inr rfl) (pe_callF G__law_fitting (hr.mono (by decide)) rfl pass0 (pa_cons (pv 1) (pa_cons (pe_callF G__law_row (hr.mono (by decide)) rfl pass0 (pa_cons (pv 0) (pa_cons (pv 5) (pa_cons (pv 2) pa_nil)))) pa_nil))))
  (pss_one (ps_if (pt_cmpR op_gt (pe_callB (kc_len (K := K)) (by rfl) Z.len PySem.boot_len (pa_cons (pe_callF G__law_with (hr.mono (by decide)) rfl pass0 (pa_cons (pv 5) (pa_cons (pv 6) (pa_cons (pv 8) pa_nil)))) pa_nil)) (pe_callB (kc_len (K := K)) (by rfl) Z.len PySem.boot_len (pa_cons (pv 6) pa_nil)) (nomark _)) (pss_one (ps_set (i := 6) sc__law_walk.nd rfl (by first | exact Or.inl rfl | exact Or.inr rfl) (pe_callF G__law_led (hr.mono (by decide)) rfl pass0 (pa_cons (pv 5) (pa_cons (pv 6) (pa_cons (pv 8) pa_nil)))))) pss_nil))))
  (pss_one (ps_ret (pv 6))))), ?_⟩)
  · obtain ⟨a, p, R, s, n, t, rows, rfl, _⟩ := h
    rfl
  · obtain ⟨a, p, R, s, n, t, rows, rfl, hw, hp, io, hn, ht, k⟩ := h
    have q23 := s.q_le
    have qq : s.q = 2 ∨ s.q = 3 := by omega
    refine ⟨_, rfl, s, rfl, fun H1 e1 => ⟨_, rfl, _, _, rfl, ?_⟩⟩
    have w1 := hw.keep e1
    refine ⟨_, rfl, _, rfl, by omega, by omega, ?_⟩
    rw [Int.toNat_natCast]
    refine for_range (lo := 0) (n := t) (fun i σ H' => ∃ (p' : Addr) (found : List (List Int)) (R' : Hp) (v7 v8 : Option V), Ex R R' ∧ Bx a R' H' ∧ TpR K R' p' found ∧ IsOwn s n found ∧ σ = [some (.ref a), some (.str s.s), some (.int (n : Int)), some (.ref p), some (.int (t : Int)), some (.int (s.q : Nat)), some (.ref p'), v7, v8])
      ⟨p, rows, R, none, none, Ex.refl _, w1, hp, io, rfl⟩ (fun i σ H' hi y => ?_) (fun σ H' y => ?_)
    · obtain ⟨p', found, R', v7, v8, ex, w2, tp, io2, rfl⟩ := y
      have hR2 := io2.red
      have hd2 := io2.desc
      have len := io2.half
      refine ⟨_, rfl, _, rfl, _, rfl, _, rfl, a, R', s.q, n, rfl, w2, q23.1, q23.2, by omega, fun r0 row0 R3 H3 e3 w3 t3 o3 => ?_⟩
      refine ⟨s, n, r0, row0, rfl, t3.ex w3.ex, by omega, o3, fun r1 row1 H4 e4 t4 o4 ft4 => ?_⟩
      obtain ⟨R4, e34, w4, t4'⟩ := w3.tp e4 t4
      have tp4 := tp.ex (e3.trans e34)
      refine ⟨_, rfl, _, rfl, _, rfl, s.q, n, true, p', r1, found, row1, rfl, RwB.t (tp4.ex w4.ex), t4'.ex w4.ex, by omega, by omega, qq, hR2, o4, fun t5 rows5 H5 e5 ht5 wr => ?_⟩
      have w5 := w4.keep e5
      obtain ⟨es5, h5, l5⟩ := ht5
      obtain ⟨esf, hf, lf⟩ := tp4.ex w5.ex
      refine ⟨t5, _, rfl, .inr h5.sq, _, rfl, p', _, rfl, .inr hf.sq, _, _, rfl, rfl, _, rfl, ?_⟩
      rw [List.length_map, List.length_map, l5.len, lf.len]
      by_cases c : found.length < rows5.length
      · rw [decide_eq_true (show (found.length : Int) < (rows5.length : Int) by omega)]
        have mo := wr.more c
        refine iteT ⟨_, rfl, _, rfl, _, rfl, s.q, n, p', r1, found, row1, rfl, tp4.ex w5.ex, t4'.ex w5.ex, by omega, by omega, qq, hR2, hd2, o4, fun t6 rows6 H6 e6 ht6 lr => ?_⟩
        have io6 := io2.led o4 ft4 ((left_of (by omega) hR2 o4).mpr mo) lr
        obtain ⟨R6, e56, w6, m6⟩ := w5.more e6
        exact ⟨t6, rows6, R6, _, _, ex.trans (e3.trans (e34.trans e56)), w6, tpr_know ht6 w6 m6, io6, rfl⟩
      · rw [decide_eq_false (show ¬ (found.length : Int) < (rows5.length : Int) by omega)]
        exact iteF ⟨p', found, R4, _, _, ex.trans (e3.trans e34), w5, tp4, io2, rfl⟩
    · obtain ⟨p', found, R', v7, v8, ex, w2, tp, io2, rfl⟩ := y
      exact ⟨_, rfl, k p' found R' H' ex w2 tp io2⟩
end
end K47

namespace K47
open PySem PySem.Spec PyProof.Rows L2 Evl Own
def spOwn (K : PySem.W.Frag) : Sp := fun vs H Q _ => ∃ (a : Addr) (R : Hp) (s : Srt) (n t : Nat), vs = [.ref a, .str s.s, .int (n : Int), .int (t : Int)] ∧ Bx a R H ∧ n ≤ 24 ∧ n % s.step = 0 ∧ t ≤ 4 ∧
  ∀ (p' : Addr) (rows' : List (List Int)) (R1 H1 : Hp), Ex R R1 → Bx a R1 H1 → TpR K R1 p' rows' → IsOwn s n rows' → Q (.ref p') H1
section
variable {P : Program} {w : World} {K : PySem.W.Frag} {mg : Str → Option Value} {base : Heap} {f : Addr} {fd : FuncData}
theorem ok__law_own (F : FnP K "_law_own" s__law_own f fd) (Z : Zs mg) (G__law_letters : Fn P w K mg base CX0 1 "_law_letters" s__law_letters ["sort"] (spSrt Srt.q)) (G__law_exchange : Fn P w K mg base CX0 2 "_law_exchange" s__law_exchange ["box", "letters", "length"] (spExch K)) (G__law_moved : Fn P w K mg base CX0 1 "_law_moved" s__law_moved ["letters", "row", "exchange"] (spMoved K))
    (G__law_begin : Fn P w K mg base CX0 3 "_law_begin" s__law_begin ["box", "sort", "length"] (spBegin K)) (G__law_steps : Fn P w K mg base CX0 3 "_law_steps" s__law_steps ["letters", "rows"] (spSteps K)) (G__law_take : Fn P w K mg base CX0 1 "_law_take" s__law_take ["box", "many"] spTake)
    (G__law_walk : Fn P w K mg base CX0 4 "_law_walk" s__law_walk ["box", "sort", "length", "rows", "turns"] (spWalk K)) : FnOk P w K mg base CX0 5 f fd ["box", "sort", "length", "turns"] (spOwn K) := by
  refine F.ok sc__law_own (fun vs H Q E h => ?_) (fun cdv A outer s H vs Q E hr h => ⟨_, PSs.nox (pss_cons (ps_set (i := 4) sc__law_own.nd rfl (by first | exact Or.inl rfl | exact Or.inr rfl) (pe_callF G__law_letters (hr.mono (by decide)) rfl pass0 (pa_cons (pv 1) pa_nil)))
  (pss_cons (ps_set (i := 5) sc__law_own.nd rfl (by first | exact Or.inl rfl | exact Or.inr rfl) (pe_callF G__law_exchange (hr.mono (by decide)) rfl pass0 (pa_cons (pv 0) (pa_cons (pv 4) (pa_cons (pv 2) pa_nil)))))
  (pss_cons (ps_set (i := 6) sc__law_own.nd rfl (by first | exact Or.inl rfl | exact Or.inr rfl) (pe_callF G__law_steps (hr.mono (by decide)) rfl pass0 (pa_cons (pv 4) (pa_cons (pe_lc (own := [("row", 7)]) (g := (gName 7)) rfl sc__law_own.nd (pi_list (pe_callF G__law_begin (hr.mono (by decide)) rfl pass0 (pa_cons (pv 0) (pa_cons (pv 1) (pa_cons (pv 2) pa_nil))))) (blkOk_by (own := [("row", 7)]) (N := ["box", "sort", "length", "turns", "letters", "exchange", "rows", "row"]) (sc := defScope s__law_own) (by decide +kernel)) (fun _ _ _ _ _ => (pg_name (i := 7) sc__law_own.nd rfl (Or.inl rfl))) (fun _ _ _ _ _ => pts_nil) (fun _ _ _ _ _ => (pe_callF G__law_moved (hr.mono (by decide)) rfl pass0 (pa_cons (pv 4) (pa_cons (pv 7) (pa_cons (pv 5) pa_nil)))))) pa_nil))))
  (pss_one (ps_ret (pe_callF G__law_walk (hr.mono (by decide)) rfl pass0 (pa_cons (pv 0) (pa_cons (pv 1) (pa_cons (pv 2) (pa_cons (pv 6) (pa_cons (pe_callF G__law_take (hr.mono (by decide)) rfl pass0 (pa_cons (pv 0) (pa_cons (pe_op op_add (pv 3) pe_int) pa_nil))) pa_nil))))))))))), ?_⟩)
  · obtain ⟨a, R, s, n, t, rfl, _⟩ := h
    rfl
  · obtain ⟨a, R, s, n, t, rfl, hw, hn, hs, ht, k⟩ := h
    have q23 := s.q_le
    have qq : s.q = 2 ∨ s.q = 3 := by omega
    refine ⟨_, rfl, s, rfl, fun H1 e1 => ?_⟩
    have w1 := hw.keep e1
    refine ⟨_, rfl, _, rfl, _, rfl, a, R, s.q, n, rfl, w1, q23.1, q23.2, by omega, fun ps ss e R2 H2 er2 w2 tx ix => ?_⟩
    refine ⟨_, rfl, _, rfl, _, rfl, _, rfl, a, R2, s, n, rfl, w2, hn, hs, fun L es rws R3 H3 er3 w3 hL lg bg => ?_⟩
    have ok := bg.red.ok
    have few := bg.half
    have tx3 := (tx.ex er3).ex w3.ex
    have lg3 := lg.ex w3.ex
    have hL3 := w3.ex _ _ hL
    have el := lg.len
    refine ⟨L, rfl, ⟨_, sq_of hL3⟩, lcX (fun i acc H' => ∃ es, acc = es.map V.ref ∧ LstG iL K H' es ((rws.take i).map (movedF s.q ps ss)) ∧ i ≤ rws.length) (walk_list (xs := es.map V.ref)) (fun D _ => ⟨[], rfl, LstG.nil, by omega⟩) (fun H' q => sq_of (q _ _ hL3)) (fun i acc H' s => ?_) (fun i D acc G0 x G0' hi f0 hD hacc s y K1 K0 k1 k0 => ?_) (fun D acc J0 hD f0 hacc s => ?_)⟩
    · obtain ⟨es1, rfl, l, h2⟩ := s
      have := l.len
      rw [List.length_map, List.length_take] at this
      rw [List.length_map]
      omega
    · obtain ⟨rfl, g⟩ := y
      obtain ⟨es1, rfl, lge, _⟩ := s
      obtain ⟨z, r, rfl, ge, gr, te⟩ := (lg3.ex f0).get g
      have il : i < rws.length := (List.getElem?_eq_some_iff.mp gr).1
      refine ⟨rfl, yes_go ⟨_, rfl, _, rfl, _, rfl, _, n, z, e, ps, ss, r, rfl, te, tx3.ex f0, ix, q23.1, q23.2, by omega, ok r (List.mem_of_getElem? gr), fun a4 G4 f4 g4 => ?_⟩⟩
      refine k1 _ G4 f4 ⟨es1 ++ [a4], by rw [List.map_append]; rfl, ?_, by omega⟩
      rw [List.take_add_one, gr, List.map_append]
      exact ((lge.ex f4).push (f := iL) g4).mut (f4 _ _ hacc)
    · obtain ⟨es1, rfl, lge, _⟩ := s
      rw [List.length_map, el, List.take_length] at lge
      have w4 := w3.keep f0
      refine ⟨s.q, n, false, D, rws.map (movedF s.q ps ss), rfl, ⟨es1, hacc, lge⟩, by omega, by rw [List.length_map]; omega, qq, fun r hr => ?_, fun t5 rows5 H5 e5 ht5 st5 => ?_⟩
      · obtain ⟨y, hy, rfl⟩ := List.mem_map.mp hr
        exact moved_ok (by omega) (ok y hy).1
      · obtain ⟨R5, er5, w5, m5⟩ := w4.more e5
        have tr5 := tpr_know ht5 w5 m5
        have io5 := bg.own ix st5
        refine ⟨_, rfl, _, rfl, _, rfl, _, rfl, _, rfl, _, rfl, _, _, rfl, rfl, a, R5, _, rfl, w5, by omega, log_s (by omega) (by omega), fun r6 H6 r60 r61 w6 => ?_⟩
        obtain ⟨m6, rfl⟩ : ∃ m : Nat, r6 = (m : Int) := ⟨r6.toNat, by omega⟩
        exact ⟨a, t5, R5, s, n, m6, rows5, rfl, w6, tr5, io5, hn, by omega, fun p' rows' R7 H7 er7 w7 tp7 io7 => k p' rows' R7 H7 (er2.trans (er3.trans (er5.trans er7))) w7 tp7 io7⟩
end
end K47

namespace K47
open PySem PySem.Spec PyProof.Rows L2 Evl Own
structure CodeOk (q n : Nat) (rows : List (List Int)) : Prop where
  q0 : 2 ≤ q
  q1 : q ≤ 3
  n1 : n ≤ 100
  few : rows.length ≤ 100
  ok : ∀ r ∈ rows, RowOk q n r
def spCode (K : PySem.W.Frag) (g : Nat → Nat → List (List Int) → V) : Sp := fun vs H Q _ => ∃ (p : Addr) (q n : Nat) (rows : List (List Int)), vs = [.ref p] ∧ TpC K H p q n rows ∧ CodeOk q n rows ∧ ∀ H', Ex H H' → Q (g q n rows) H'
section
variable {P : Program} {w : World} {K : PySem.W.Frag} {mg : Str → Option Value} {base : Heap} {f : Addr} {fd : FuncData}
theorem ok_worth (F : FnP K "worth" s_worth f fd) (Z : Zs mg) : FnOk P w K mg base CX0 1 f fd ["letters", "one", "other"] (spWorth K) := by
  refine F.ok sc_worth (fun vs H Q E h => ?_) (fun cdv A outer s H vs Q E hr h => ⟨_, PSs.nox (pss_one (ps_ret (pe_op op_mod (pe_callB (kc_sum (K := K) rfl) (by rfl) Z.sum (by decide +kernel) (pa_cons (pe_lc (own := [("left", 3), ("right", 4)]) (g := (gTup K 2 (gCons (gName 3) (gCons (gName 4) gNil)))) rfl sc_worth.nd (pi_zipB (by rfl) Z.zip (pa_cons (pv 1) (pa_cons (pv 2) pa_nil))) (blkOk_by (own := [("left", 3), ("right", 4)]) (N := ["letters", "one", "other", "left", "right"]) (sc := defScope s_worth) (by decide +kernel)) (fun _ _ _ _ _ => (pg_tup rfl (pgs_cons (pg_name (i := 3) sc_worth.nd rfl (Or.inl rfl)) (pgs_cons (pg_name (i := 4) sc_worth.nd rfl (Or.inl rfl)) pgs_nil)))) (fun _ _ _ _ _ => pts_nil) (fun _ _ _ _ _ => (pe_op op_mul (pv 3) (pv 4)))) pa_nil)) (pv 0)))), ?_⟩)
  · obtain ⟨q, n, p, r, xs, ys, rfl, _⟩ := h
    rfl
  · obtain ⟨q, n, p, r, xs, ys, rfl, hp, hr', few, q0, q1, ox, oy, k⟩ := h
    have lx := ox.1
    have ly := oy.1
    unfold iL at hp hr'
    refine ⟨_, rfl, _, rfl, p, r, true, true, _, _, rfl, sqb_t hp, sqb_t hr', lcP (walk_zipB (n := xs.length) (by rw [List.length_map, List.length_map]; omega)) (fun H' e => ⟨sqb_t (hp.ex e), sqb_t (hr'.ex e)⟩) (by omega) (fun _ => true) (fun i => V.int (xs.getD i 0 * ys.getD i 0)) (fun i H1 x H2 hi e y K1 K0 k1 k0 => ?_) (fun d H2 hd e2 h2 => ?_)⟩
    · obtain ⟨T, x1, y1, rfl, nT, rfl, g1, g2⟩ := y
      obtain ⟨rfl, _⟩ := int_at g1
      obtain ⟨rfl, _⟩ := int_at g2
      have bx := ox.at i (by omega)
      exact ⟨T, _, rfl, .inl (.inl upd_same), rfl, _, _, rfl, _, _, rfl, rfl, rfl, yes_go ⟨_, rfl, _, rfl, _, _, rfl, rfl, .inl ⟨by omega, by omega⟩, k1 rfl _ (Ex.new nT)⟩⟩
    · rw [given_all] at h2
      have e : (List.range xs.length).map (fun i => V.int (xs.getD i 0 * ys.getD i 0)) = ((List.range xs.length).map fun i => xs.getD i 0 * ys.getD i 0).map V.int := by
        rw [List.map_map]
        rfl
      rw [e] at h2
      exact ⟨d, _, rfl, sq_of h2, _, rfl, _, _, rfl, rfl, by omega, k _ e2⟩
theorem ok_weight (F : FnP K "weight" s_weight f fd) (Z : Zs mg) : FnOk P w K mg base CX0 1 f fd ["row"] (spWeight K) := by
  refine F.ok sc_weight (fun vs H Q E h => ?_) (fun cdv A outer s H vs Q E hr h => ⟨_, PSs.nox (pss_one (ps_ret (pe_op op_sub (pe_callB (kc_len (K := K)) (by rfl) Z.len PySem.boot_len (pa_cons (pv 0) pa_nil)) (km_count (K := K) (pv 0) (pa_cons pe_int pa_nil))))), ?_⟩)
  · obtain ⟨p, xs, rfl, _⟩ := h
    rfl
  · obtain ⟨p, xs, rfl, hp, k⟩ := h
    refine ⟨_, rfl, p, _, rfl, .inr hp.sq, _, rfl, ⟨p, _, rfl, hp⟩, p, xs, 0, rfl, rfl, hp, _, _, rfl, rfl, ?_⟩
    have e : ((iL xs).length : Int) - ((xs.count 0 : Nat) : Int) = ((weightF xs : Nat) : Int) := by
      unfold weightF iL
      rw [List.length_map]
      have := List.count_le_length (a := (0 : Int)) (l := xs)
      omega
    show Q (V.int (((iL xs).length : Int) - ((xs.count 0 : Nat) : Int))) H
    rw [e]
    exact k
theorem ok_dimension (F : FnP K "dimension" s_dimension f fd) (Z : Zs mg) : FnOk P w K mg base CX0 1 f fd ["code"] (spCode K fun _ _ rows => .int (rows.length : Nat)) := by
  refine F.ok sc_dimension (fun vs H Q E h => ?_) (fun cdv A outer s H vs Q E hr h => ⟨_, PSs.nox (pss_one (ps_ret (pe_callB (kc_len (K := K)) (by rfl) Z.len PySem.boot_len (pa_cons (pe_ix (kx_tup (K := K)) (pv 0) pe_int (fun _ _ => rfl)) pa_nil)))), ?_⟩)
  · obtain ⟨p, q, n, rows, rfl, _⟩ := h
    rfl
  · obtain ⟨p, q, n, rows, rfl, ⟨r, hp, es, hes, lg⟩, co, k⟩ := h
    refine ⟨_, rfl, p, _, 2, .ref r, rfl, rfl, hp.sq, rfl, r, _, rfl, .inr hes.sq, ?_⟩
    rw [List.length_map, lg.len]
    exact k _ (Ex.refl _)
theorem ok_is_inside (F : FnP K "is_inside" s_is_inside f fd) (Z : Zs mg) (G_worth : Fn P w K mg base CX0 1 "worth" s_worth ["letters", "one", "other"] (spWorth K)) : FnOk P w K mg base CX0 2 f fd ["code"] (spCode K fun q _ rows => .bl (insideB q rows)) := by
  refine F.ok sc_is_inside (fun vs H Q E h => ?_) (fun cdv A outer s H vs Q E hr h => ⟨_, PSs.nox (pss_cons (ps_asg (pv 0) (pg_tup rfl (pgs_cons (pg_name (i := 1) sc_is_inside.nd rfl (by first | exact Or.inl rfl | exact Or.inr rfl)) (pgs_cons (pg_name (i := 2) sc_is_inside.nd rfl (by first | exact Or.inl rfl | exact Or.inr rfl)) (pgs_cons (pg_name (i := 3) sc_is_inside.nd rfl (by first | exact Or.inl rfl | exact Or.inr rfl)) pgs_nil)))))
  (pss_cons (ps_for PassesOwn.never rfl (pi_enumB (by rfl) Z.enumerate (pa_cons (pv 3) pa_nil)) (pg_tup rfl (pgs_cons (pg_name (i := 4) sc_is_inside.nd rfl (by first | exact Or.inl rfl | exact Or.inr rfl)) (pgs_cons (pg_name (i := 5) sc_is_inside.nd rfl (by first | exact Or.inl rfl | exact Or.inr rfl)) pgs_nil))) (pss_one (ps_for PassesOwn.never rfl (pi_tup (pe_slice (ksl_tup (K := K)) (pv 3) (po_some (pv 4)) po_none)) (pg_name (i := 6) sc_is_inside.nd rfl (by first | exact Or.inl rfl | exact Or.inr rfl)) (pss_one (ps_if (pt_cmpR op_ne (pe_callF G_worth (hr.mono (by decide)) rfl pass0 (pa_cons (pv 1) (pa_cons (pv 5) (pa_cons (pv 6) pa_nil)))) pe_int (nomark _)) (pss_one (ps_ret pe_bl)) pss_nil)))))
  (pss_one (ps_ret pe_bl)))), ?_⟩)
  · obtain ⟨p, q, n, rows, rfl, _⟩ := h
    rfl
  · obtain ⟨p, q, n, rows, rfl, ⟨r, hp, es, hes, lg⟩, co, k⟩ := h
    have k : ∀ H', Ex H H' → Q (.bl (insideB q rows)) H' := k
    have el := lg.len
    have few := co.few
    have n1 := co.n1
    refine ⟨_, rfl, p, _, rfl, hp.sq, rfl, _, _, rfl, _, _, rfl, _, _, rfl, rfl, ?_⟩
    refine ⟨_, rfl, r, true, _, rfl, sqb_t hes, for_it walk_enumB (fun i σ H' => Ex H H' ∧ ((List.range i).all fun i => (rows.drop i).all fun o => worthF q (rows.getD i []) o == 0) = true ∧ ∃ v4 v5 v6, σ = [some (.ref p), some (.int (q : Int)), some (.int (n : Int)), some (.ref r), v4, v5, v6]) ⟨Ex.refl _, rfl, none, none, none, rfl⟩ (fun i σ H' _ h => sqb_t (hes.ex h.1)) (fun i x σ H' H'' hi h y => ?_) (fun σ H' h => ?_)⟩
    · obtain ⟨ex, done, v4, v5, v6, rfl⟩ := h
      obtain ⟨T, x1, rfl, nT, rfl, g⟩ := y
      obtain ⟨e1, rfl, g1⟩ := ref_at g
      have hei : i < es.length := (List.getElem?_eq_some_iff.mp g1).1
      have eT := Ex.new (o := .tup [.int (i : Nat), .ref e1]) nT
      refine ⟨T, _, rfl, .inl (.inl upd_same), rfl, _, _, rfl, _, _, rfl, rfl, ?_⟩
      have ex1 := ex.trans eT
      generalize upd H' T (.tup [.int (i : Nat), .ref e1]) = H1 at ex1 ⊢
      refine ⟨_, rfl, _, rfl, _, rfl, no_part (sl_ret (hes.ex ex1) (fun c H2 e2 hc => ?_))⟩
      rw [cut_at (by rw [List.length_map]; omega), ← List.map_drop] at hc
      refine ⟨c, rfl, ⟨_, hc.sq⟩, for_it walk_tup (fun j σ H3 => Ex H2 H3 ∧ ((rows.drop i).take j).all (fun o => worthF q (rows.getD i []) o == 0) = true ∧ ∃ v6, σ = [some (.ref p), some (.int (q : Int)), some (.int (n : Int)), some (.ref r), some (.int (i : Int)), some (.ref e1), v6]) ⟨Ex.refl _, rfl, v6, rfl⟩ (fun j σ H' _ h => (hc.ex h.1).sq) (fun j x σ H3 H4 hj h y => ?_) (fun σ H3 h => ?_)⟩
      · obtain ⟨ex3, dn, v6, rfl⟩ := h
        obtain ⟨rfl, g⟩ := y
        obtain ⟨e, rfl, ge⟩ := ref_at g
        have hj' : j < (es.drop i).length := (List.getElem?_eq_some_iff.mp ge).1
        rw [List.length_drop] at hj'
        have ge2 : es[i + j]? = some e := by rw [← ge, List.getElem?_drop]
        have ri : rows[i]? = some rows[i] := List.getElem?_eq_getElem (by omega)
        have rj : rows[i + j]? = some rows[i + j] := List.getElem?_eq_getElem (by omega)
        have x2 := ex1.trans (e2.trans ex3)
        have t1 := (lg.at_ i _ _ g1 ri).ex x2
        have t2 := (lg.at_ (i + j) _ _ ge2 rj).ex x2
        have rD : rows.getD i [] = rows[i] := by rw [List.getD_eq_getElem?_getD, ri]; rfl
        have rdj : (rows.drop i)[j]? = some rows[i + j] := by rw [List.getElem?_drop, rj]
        have tk : (rows.drop i).take (j + 1) = (rows.drop i).take j ++ [rows[i + j]] := by
          rw [List.take_add_one, rdj]
          rfl
        refine ⟨_, rfl, _, rfl, _, rfl, q, n, e1, e, rows[i], rows[i + j], rfl, t1, t2, by omega, co.q0, co.q1, co.ok _ (List.getElem_mem _), co.ok _ (List.getElem_mem _), fun H5 e5 => ⟨rfl, _, rfl, ?_⟩⟩
        rw [dec_int]
        rw [rD] at dn ⊢
        cases c : worthF q rows[i] rows[i + j] == 0 with
        | true => exact iteF ⟨ex3.trans e5, by rw [tk, List.all_append, dn]; simp [c], _, rfl⟩
        | false =>
          refine iteT ?_
          have : insideB q rows = false := by
            unfold insideB
            rw [List.all_eq_false]
            refine ⟨i, List.mem_range.mpr (by omega), ?_⟩
            rw [Bool.not_eq_true, List.all_eq_false]
            refine ⟨rows[i + j], List.mem_of_getElem? rdj, ?_⟩
            rw [rD, c]
            exact Bool.false_ne_true
          rw [this] at k
          exact k _ (x2.trans e5)
      · obtain ⟨ex3, dn, v6, rfl⟩ := h
        refine ⟨ex1.trans (e2.trans ex3), ?_, _, _, _, rfl⟩
        rw [List.length_map, List.length_drop] at dn
        rw [List.take_of_length_le (by rw [List.length_drop]; omega)] at dn
        rw [List.range_succ, List.all_append, done, List.all_cons, dn]
        rfl
    · obtain ⟨ex, done, v4, v5, v6, rfl⟩ := h
      rw [List.length_map, el] at done
      have : insideB q rows = true := done
      rw [this] at k
      exact k _ ex
end
end K47

namespace K47
open PySem PySem.Spec PyProof.Rows L2 Evl Own
def ownB (q n : Nat) (rows : List (List Int)) : Bool := decide (2 * rows.length = n) && insideB q rows
def fourB (rows : List (List Int)) : Bool := rows.all fun r => decide (weightF r % 4 = 0)
def twiceB (q : Nat) (rows : List (List Int)) : Bool := decide (q = 2) && (insideB q rows && fourB rows)
section
variable {P : Program} {w : World} {K : PySem.W.Frag} {mg : Str → Option Value} {base : Heap} {f : Addr} {fd : FuncData}
theorem ok_is_own (F : FnP K "is_own" s_is_own f fd) (Z : Zs mg) (G_dimension : Fn P w K mg base CX0 1 "dimension" s_dimension ["code"] (spCode K fun _ _ rows => .int (rows.length : Nat))) (G_is_inside : Fn P w K mg base CX0 2 "is_inside" s_is_inside ["code"] (spCode K fun q _ rows => .bl (insideB q rows))) : FnOk P w K mg base CX0 3 f fd ["code"] (spCode K fun q n rows => .bl (ownB q n rows)) := by
  refine F.ok sc_is_own (fun vs H Q E h => ?_) (fun cdv A outer s H vs Q E hr h => ⟨_, PSs.nox (pss_one (ps_ret (pe_and (pe_cmpR op_eq (pe_op op_mul pe_int (pe_callF G_dimension (hr.mono (by decide)) rfl pass0 (pa_cons (pv 0) pa_nil))) (pe_ix (kx_tup (K := K)) (pv 0) pe_int (fun _ _ => rfl)) (nomark _)) (pe_one (pe_callF G_is_inside (hr.mono (by decide)) rfl pass0 (pa_cons (pv 0) pa_nil)))))), ?_⟩)
  · obtain ⟨p, q, n, rows, rfl, _⟩ := h
    rfl
  · obtain ⟨p, q, n, rows, rfl, tc, co, k⟩ := h
    have k : ∀ H', Ex H H' → Q (.bl (ownB q n rows)) H' := k
    unfold ownB at k
    refine ⟨_, rfl, p, q, n, rows, rfl, tc, co, fun H1 e1 => ⟨_, _, rfl, rfl, .inl ⟨by decide, by decide⟩, ?_⟩⟩
    obtain ⟨r, hp, tr⟩ := tc.ex e1
    refine ⟨_, rfl, p, _, 1, _, rfl, rfl, hp.sq, rfl, rfl, _, rfl, ?_⟩
    by_cases c : 2 * rows.length = n
    · rw [decide_eq_true (show V.int (2 * ((rows.length : Nat) : Int)) = V.int (n : Int) from by congr 1; omega)]
      rw [decide_eq_true c, Bool.true_and] at k
      exact iteT ⟨_, rfl, p, q, n, rows, rfl, tc.ex e1, co, fun H2 e2 => k H2 (e1.trans e2)⟩
    · rw [decide_eq_false (show ¬ V.int (2 * ((rows.length : Nat) : Int)) = V.int (n : Int) from fun z => by
        have := V.int.inj z
        omega)]
      rw [decide_eq_false c, Bool.false_and] at k
      exact iteF (k H1 e1)
theorem ok_is_twice (F : FnP K "is_twice" s_is_twice f fd) (Z : Zs mg) (G_weight : Fn P w K mg base CX0 1 "weight" s_weight ["row"] (spWeight K)) (G_is_inside : Fn P w K mg base CX0 2 "is_inside" s_is_inside ["code"] (spCode K fun q _ rows => .bl (insideB q rows))) : FnOk P w K mg base CX0 3 f fd ["code"] (spCode K fun q _ rows => .bl (twiceB q rows)) := by
  refine F.ok sc_is_twice (fun vs H Q E h => ?_) (fun cdv A outer s H vs Q E hr h => ⟨_, PSs.nox (pss_one (ps_ret (pe_and (pe_cmpR op_eq (pe_ix (kx_tup (K := K)) (pv 0) pe_int (fun _ _ => rfl)) pe_int (nomark _)) (pe_and (pe_callF G_is_inside (hr.mono (by decide)) rfl pass0 (pa_cons (pv 0) pa_nil)) (pe_one (pe_callB (cr_all rfl) (by rfl) Z.all (by decide +kernel) (pa_cons (pe_lc (own := [("row", 1)]) (g := (gName 1)) rfl sc_is_twice.nd (pi_tup (pe_ix (kx_tup (K := K)) (pv 0) pe_int (fun _ _ => rfl))) (blkOk_by (own := [("row", 1)]) (N := ["code", "row"]) (sc := defScope s_is_twice) (by decide +kernel)) (fun _ _ _ _ _ => (pg_name (i := 1) sc_is_twice.nd rfl (Or.inl rfl))) (fun _ _ _ _ _ => pts_nil) (fun _ _ _ _ _ => (pe_cmpR op_eq (pe_op op_mod (pe_callF G_weight (hr.mono (by decide)) rfl pass0 (pa_cons (pv 1) pa_nil)) pe_int) pe_int (nomark _)))) pa_nil))))))), ?_⟩)
  · obtain ⟨p, q, n, rows, rfl, _⟩ := h
    rfl
  · obtain ⟨p, q, n, rows, rfl, tc, co, k⟩ := h
    have k : ∀ H', Ex H H' → Q (.bl (twiceB q rows)) H' := k
    unfold twiceB at k
    have few := co.few
    obtain ⟨r, hp, tr⟩ := id tc
    refine ⟨_, rfl, p, _, 0, _, rfl, rfl, hp.sq, rfl, rfl, _, rfl, ?_⟩
    by_cases c : q = 2
    · rw [decide_eq_true (show V.int (q : Int) = V.int 2 from by rw [c]; rfl)]
      rw [decide_eq_true c, Bool.true_and] at k
      refine iteT ⟨_, rfl, p, q, n, rows, rfl, tc, co, fun H1 e1 => ⟨_, rfl, ?_⟩⟩
      cases ci : insideB q rows with
      | false =>
        rw [ci, Bool.false_and] at k
        exact iteF (k H1 e1)
      | true =>
        rw [ci, Bool.true_and] at k
        obtain ⟨es, hes, lg⟩ := tr.ex e1
        have el := lg.len
        refine iteT ⟨_, rfl, p, _, 2, .ref r, rfl, rfl, (hp.ex e1).sq, rfl, r, rfl, ⟨_, hes.sq⟩, lcP (walk_tup (xs := es.map V.ref)) (fun H'' z => (hes.ex z).sq) (by rw [List.length_map]; omega) (fun _ => true) (fun i => V.bl (decide (weightF (rows.getD i []) % 4 = 0))) (fun j H8 x H9 hj eq y K1 K0 k1 k0 => ?_) (fun D1 H8 hD1 e8 h8 => ?_)⟩
        · obtain ⟨rfl, ge⟩ := y
          obtain ⟨e, row, rfl, ge, gr, te⟩ := (lg.ex eq).get ge
          have rD : rows.getD j [] = row := by rw [List.getD_eq_getElem?_getD, gr]; rfl
          refine ⟨rfl, yes_go ⟨_, rfl, e, row, rfl, te, _, _, rfl, rfl, (show (0 : Int) < 4 by decide), rfl, ?_⟩⟩
          have kk := k1 rfl _ (Ex.refl _)
          rw [rD] at kk
          by_cases c4 : weightF row % 4 = 0
          · rw [decide_eq_true (show V.int (((weightF row : Nat) : Int) % 4) = V.int 0 from by congr 1; omega)]
            rw [decide_eq_true c4] at kk
            exact kk
          · rw [decide_eq_false (show ¬ V.int (((weightF row : Nat) : Int) % 4) = V.int 0 from fun z => by
              have := V.int.inj z
              omega)]
            rw [decide_eq_false c4] at kk
            exact kk
        · rw [given_all, List.length_map, el] at h8
          have e3 : (List.range rows.length).map (fun i => V.bl (decide (weightF (rows.getD i []) % 4 = 0))) = (rows.map fun r => decide (weightF r % 4 = 0)).map V.bl := by
            rw [List.map_map]
            exact range_map ([] : List Int) (fun r : List Int => V.bl (decide (weightF r % 4 = 0))) rows
          rw [e3] at h8
          refine ⟨D1, _, rfl, sq_of h8, ?_⟩
          have e4 : (rows.map fun r => decide (weightF r % 4 = 0)).all id = fourB rows := by
            unfold fourB
            rw [List.all_map]
            rfl
          rw [e4]
          exact k _ (e1.trans e8)
    · rw [decide_eq_false (show ¬ V.int (q : Int) = V.int 2 from fun z => by
        have := V.int.inj z
        omega)]
      rw [decide_eq_false c, Bool.false_and] at k
      exact iteF (k H (Ex.refl _))
end
end K47

namespace K47
open PySem PySem.Spec PyProof.Rows L2 Evl Own
/-- a row and another one so many times, the number known ahead -/
def spComb (K : PySem.W.Frag) (m : Int) : Sp := fun vs H Q _ => ∃ (q n : Nat) (p r : Addr) (xs ys : List Int), vs = [.int (q : Int), .ref p, .ref r] ∧ Tp K H p (iL xs) ∧ Tp K H r (iL ys) ∧ n ≤ 1000 ∧ 2 ≤ q ∧ q ≤ 3 ∧ xs.length = n ∧ ys.length = n ∧ RetU K (iL (plusF q xs ys m)) H Q
def timesF (q : Nat) (xs : List Int) (m : Int) : List Int := (List.range xs.length).map fun i => (xs.getD i 0 * (m % (q : Int))) % (q : Int)
def spTimes (K : PySem.W.Frag) : Sp := fun vs H Q _ => ∃ (q n : Nat) (p : Addr) (xs : List Int) (m : Int), vs = [.int (q : Int), .ref p, .int m] ∧ Tp K H p (iL xs) ∧ n ≤ 1000 ∧ 2 ≤ q ∧ q ≤ 3 ∧ RowOk q n xs ∧ RetU K (iL (timesF q xs m)) H Q
def spNought (K : PySem.W.Frag) : Sp := fun vs H Q _ => ∃ n : Nat, vs = [.int (n : Int)] ∧ n ≤ 1000 ∧ RetU K (iL (List.replicate n 0)) H Q
section
variable {q n : Nat} {xs ys : List Int} {m : Int}
theorem times_len : (timesF q xs m).length = xs.length := by
  unfold timesF
  rw [List.length_map, List.length_range]
theorem times_at (i : Nat) : (timesF q xs m).getD i 0 = (xs.getD i 0 * m) % (q : Int) := by
  by_cases c : i < xs.length
  · unfold timesF
    rw [getD_rg _ c, Int.mul_emod, Int.emod_emod, ← Int.mul_emod]
  · rw [getD_over (by rw [times_len]; omega), getD_over (by omega), Int.zero_mul]
    rfl
theorem times_ok (hq : 0 < q) (h : xs.length = n) : RowOk q n (timesF q xs m) := by
  refine ⟨by rw [times_len, h], fun x hx => ?_⟩
  obtain ⟨i, _, rfl⟩ := List.mem_map.mp hx
  exact ⟨Int.emod_nonneg _ (by omega), Int.emod_lt_of_pos _ (by omega)⟩
/-- less so many times -/
theorem less_times (hx : xs.length = n) (hy : ys.length = n) : plusF q xs (timesF q ys m) (-1) = plusF q xs ys ((q : Int) - m) := by
  refine row_ext (n := n) (by rw [plusF_len, hx]) (by rw [plusF_len, hx]) fun i => ?_
  rw [plusF_at (by rw [times_len, hx, hy]), plusF_at (by rw [hx, hy]), times_at]
  generalize xs.getD i 0 = x
  generalize ys.getD i 0 = y
  have h1 : (x + -1 * (y * m % (q : Int))) % (q : Int) = (x + -1 * (y * m)) % (q : Int) := by
    rw [Int.add_emod, Int.mul_emod, Int.emod_emod, ← Int.mul_emod, ← Int.add_emod]
  rw [h1]
  have h2 : x + ((q : Int) - m) * y = x + -1 * (y * m) + (q : Int) * y := by grind
  rw [h2, Int.add_mul_emod_self_left]
theorem add_times (hx : xs.length = n) (hy : ys.length = n) : plusF q xs (timesF q ys m) 1 = plusF q xs ys m := by
  refine row_ext (n := n) (by rw [plusF_len, hx]) (by rw [plusF_len, hx]) fun i => ?_
  rw [plusF_at (by rw [times_len, hx, hy]), plusF_at (by rw [hx, hy]), times_at]
  generalize xs.getD i 0 = x
  generalize ys.getD i 0 = y
  rw [Int.one_mul, Int.add_emod_emod, Int.mul_comm]
end
section
variable {P : Program} {w : World} {K : PySem.W.Frag} {mg : Str → Option Value} {base : Heap} {f : Addr} {fd : FuncData}
theorem ok_added (F : FnP K "added" s_added f fd) (Z : Zs mg) : FnOk P w K mg base CX0 1 f fd ["letters", "one", "other"] (spComb K 1) := by
  refine F.ok sc_added (fun vs H Q E h => ?_) (fun cdv A outer s H vs Q E hr h => ⟨_, PSs.nox (pss_one (ps_ret (pe_callTy (kc_tuple (K := K)) (by rfl) Z.tuple (by decide +kernel) (pa_cons (pe_lc (own := [("left", 3), ("right", 4)]) (g := (gTup K 2 (gCons (gName 3) (gCons (gName 4) gNil)))) rfl sc_added.nd (pi_zipB (by rfl) Z.zip (pa_cons (pv 1) (pa_cons (pv 2) pa_nil))) (blkOk_by (own := [("left", 3), ("right", 4)]) (N := ["letters", "one", "other", "left", "right"]) (sc := defScope s_added) (by decide +kernel)) (fun _ _ _ _ _ => (pg_tup rfl (pgs_cons (pg_name (i := 3) sc_added.nd rfl (Or.inl rfl)) (pgs_cons (pg_name (i := 4) sc_added.nd rfl (Or.inl rfl)) pgs_nil)))) (fun _ _ _ _ _ => pts_nil) (fun _ _ _ _ _ => (pe_op op_mod (pe_op op_add (pv 3) (pv 4)) (pv 0)))) pa_nil)))), ?_⟩)
  · obtain ⟨q, n, p, r, xs, ys, rfl, _⟩ := h
    rfl
  · obtain ⟨q, n, p, r, xs, ys, rfl, hp, hr', few, q0, q1, lx, ly, k⟩ := h
    unfold iL at hp hr'
    refine ⟨_, rfl, _, rfl, p, r, true, true, _, _, rfl, sqb_t hp, sqb_t hr', lcP (walk_zipB (n := xs.length) (by rw [List.length_map, List.length_map]; omega)) (fun H' e => ⟨sqb_t (hp.ex e), sqb_t (hr'.ex e)⟩) (by omega) (fun _ => true) (fun i => V.int ((xs.getD i 0 + ys.getD i 0) % (q : Int))) (fun i H1 x H2 hi e y K1 K0 k1 k0 => ?_) (fun d H2 hd e2 h2 => ?_)⟩
    · obtain ⟨T, x1, y1, rfl, nT, rfl, g1, g2⟩ := y
      obtain ⟨rfl, _⟩ := int_at g1
      obtain ⟨rfl, _⟩ := int_at g2
      exact ⟨T, _, rfl, .inl (.inl upd_same), rfl, _, _, rfl, _, _, rfl, rfl, rfl, yes_go ⟨_, rfl, _, rfl, _, _, rfl, rfl, _, rfl, _, _, rfl, rfl, by omega, k1 rfl _ (Ex.new nT)⟩⟩
    · rw [given_all] at h2
      have e : (List.range xs.length).map (fun i => V.int ((xs.getD i 0 + ys.getD i 0) % (q : Int))) = iL (plusF q xs ys 1) := by
        unfold iL plusF
        rw [List.map_map]
        refine List.map_congr_left fun i _ => ?_
        show V.int _ = V.int ((xs.getD i 0 + 1 * ys.getD i 0) % (q : Int))
        rw [Int.one_mul]
      rw [e] at h2
      exact ⟨d, _, rfl, .inl ⟨sq_of h2, k.new e2⟩⟩
theorem ok_less (F : FnP K "less" s_less f fd) (Z : Zs mg) : FnOk P w K mg base CX0 1 f fd ["letters", "one", "other"] (spComb K (-1)) := by
  refine F.ok sc_less (fun vs H Q E h => ?_) (fun cdv A outer s H vs Q E hr h => ⟨_, PSs.nox (pss_one (ps_ret (pe_callTy (kc_tuple (K := K)) (by rfl) Z.tuple (by decide +kernel) (pa_cons (pe_lc (own := [("left", 3), ("right", 4)]) (g := (gTup K 2 (gCons (gName 3) (gCons (gName 4) gNil)))) rfl sc_less.nd (pi_zipB (by rfl) Z.zip (pa_cons (pv 1) (pa_cons (pv 2) pa_nil))) (blkOk_by (own := [("left", 3), ("right", 4)]) (N := ["letters", "one", "other", "left", "right"]) (sc := defScope s_less) (by decide +kernel)) (fun _ _ _ _ _ => (pg_tup rfl (pgs_cons (pg_name (i := 3) sc_less.nd rfl (Or.inl rfl)) (pgs_cons (pg_name (i := 4) sc_less.nd rfl (Or.inl rfl)) pgs_nil)))) (fun _ _ _ _ _ => pts_nil) (fun _ _ _ _ _ => (pe_op op_mod (pe_op op_sub (pv 3) (pv 4)) (pv 0)))) pa_nil)))), ?_⟩)
  · obtain ⟨q, n, p, r, xs, ys, rfl, _⟩ := h
    rfl
  · obtain ⟨q, n, p, r, xs, ys, rfl, hp, hr', few, q0, q1, lx, ly, k⟩ := h
    unfold iL at hp hr'
    refine ⟨_, rfl, _, rfl, p, r, true, true, _, _, rfl, sqb_t hp, sqb_t hr', lcP (walk_zipB (n := xs.length) (by rw [List.length_map, List.length_map]; omega)) (fun H' e => ⟨sqb_t (hp.ex e), sqb_t (hr'.ex e)⟩) (by omega) (fun _ => true) (fun i => V.int ((xs.getD i 0 - ys.getD i 0) % (q : Int))) (fun i H1 x H2 hi e y K1 K0 k1 k0 => ?_) (fun d H2 hd e2 h2 => ?_)⟩
    · obtain ⟨T, x1, y1, rfl, nT, rfl, g1, g2⟩ := y
      obtain ⟨rfl, _⟩ := int_at g1
      obtain ⟨rfl, _⟩ := int_at g2
      exact ⟨T, _, rfl, .inl (.inl upd_same), rfl, _, _, rfl, _, _, rfl, rfl, rfl, yes_go ⟨_, rfl, _, rfl, _, _, rfl, rfl, _, rfl, _, _, rfl, rfl, by omega, k1 rfl _ (Ex.new nT)⟩⟩
    · rw [given_all] at h2
      have e : (List.range xs.length).map (fun i => V.int ((xs.getD i 0 - ys.getD i 0) % (q : Int))) = iL (plusF q xs ys (-1)) := by
        unfold iL plusF
        rw [List.map_map]
        refine List.map_congr_left fun i _ => ?_
        show V.int _ = V.int _
        congr 2
        omega
      rw [e] at h2
      exact ⟨d, _, rfl, .inl ⟨sq_of h2, k.new e2⟩⟩
theorem ok_plus_times (F : FnP K "plus_times" s_plus_times f fd) (Z : Zs mg) : FnOk P w K mg base CX0 1 f fd ["letters", "one", "other", "many"] (spPlus K) := by
  refine F.ok sc_plus_times (fun vs H Q E h => ?_) (fun cdv A outer s H vs Q E hr h => ⟨_, PSs.nox (pss_one (ps_ret (pe_callTy (kc_tuple (K := K)) (by rfl) Z.tuple (by decide +kernel) (pa_cons (pe_lc (own := [("a", 4), ("b", 5)]) (g := (gTup K 2 (gCons (gName 4) (gCons (gName 5) gNil)))) rfl sc_plus_times.nd (pi_zipB (by rfl) Z.zip (pa_cons (pv 1) (pa_cons (pv 2) pa_nil))) (blkOk_by (own := [("a", 4), ("b", 5)]) (N := ["letters", "one", "other", "many", "a", "b"]) (sc := defScope s_plus_times) (by decide +kernel)) (fun _ _ _ _ _ => (pg_tup rfl (pgs_cons (pg_name (i := 4) sc_plus_times.nd rfl (Or.inl rfl)) (pgs_cons (pg_name (i := 5) sc_plus_times.nd rfl (Or.inl rfl)) pgs_nil)))) (fun _ _ _ _ _ => pts_nil) (fun _ _ _ _ _ => (pe_op op_mod (pe_op op_add (pv 4) (pe_op op_mul (pv 3) (pv 5))) (pv 0)))) pa_nil)))), ?_⟩)
  · obtain ⟨q, n, p, r, xs, ys, m, rfl, _⟩ := h
    rfl
  · obtain ⟨q, n, p, r, xs, ys, m, rfl, hp, hr', few, q0, q1, lx, ly, m0, m1, k⟩ := h
    unfold iL at hp hr'
    refine ⟨_, rfl, _, rfl, p, r, true, true, _, _, rfl, sqb_t hp, sqb_t hr', lcP (walk_zipB (n := xs.length) (by rw [List.length_map, List.length_map]; omega)) (fun H' e => ⟨sqb_t (hp.ex e), sqb_t (hr'.ex e)⟩) (by omega) (fun _ => true) (fun i => V.int ((xs.getD i 0 + m * ys.getD i 0) % (q : Int))) (fun i H1 x H2 hi e y K1 K0 k1 k0 => ?_) (fun d H2 hd e2 h2 => ?_)⟩
    · obtain ⟨T, x1, y1, rfl, nT, rfl, g1, g2⟩ := y
      obtain ⟨rfl, _⟩ := int_at g1
      obtain ⟨rfl, _⟩ := int_at g2
      exact ⟨T, _, rfl, .inl (.inl upd_same), rfl, _, _, rfl, _, _, rfl, rfl, rfl, yes_go ⟨_, rfl, _, rfl, _, rfl, _, _, rfl, rfl, .inl ⟨by omega, by omega⟩, _, _, rfl, rfl, _, rfl, _, _, rfl, rfl, by omega, k1 rfl _ (Ex.new nT)⟩⟩
    · rw [given_all] at h2
      have e : (List.range xs.length).map (fun i => V.int ((xs.getD i 0 + m * ys.getD i 0) % (q : Int))) = iL (plusF q xs ys m) := by
        unfold iL plusF
        rw [List.map_map]
        rfl
      rw [e] at h2
      exact ⟨d, _, rfl, .inl ⟨sq_of h2, k.new e2⟩⟩
theorem ok_times (F : FnP K "times" s_times f fd) (Z : Zs mg) : FnOk P w K mg base CX0 1 f fd ["letters", "row", "number"] (spTimes K) := by
  refine F.ok sc_times (fun vs H Q E h => ?_) (fun cdv A outer s H vs Q E hr h => ⟨_, PSs.nox (pss_cons (ps_set (i := 3) sc_times.nd rfl (by first | exact Or.inl rfl | exact Or.inr rfl) (pe_op op_mod (pv 2) (pv 0)))
  (pss_one (ps_ret (pe_callTy (kc_tuple (K := K)) (by rfl) Z.tuple (by decide +kernel) (pa_cons (pe_lc (own := [("letter", 4)]) (g := (gName 4)) rfl sc_times.nd (pi_tup (pv 1)) (blkOk_by (own := [("letter", 4)]) (N := ["letters", "row", "number", "rest", "letter"]) (sc := defScope s_times) (by decide +kernel)) (fun _ _ _ _ _ => (pg_name (i := 4) sc_times.nd rfl (Or.inl rfl))) (fun _ _ _ _ _ => pts_nil) (fun _ _ _ _ _ => (pe_op op_mod (pe_op op_mul (pv 4) (pv 3)) (pv 0)))) pa_nil))))), ?_⟩)
  · obtain ⟨q, n, p, xs, m, rfl, _⟩ := h
    rfl
  · obtain ⟨q, n, p, xs, m, rfl, hp, few, q0, q1, ox, k⟩ := h
    have lx := ox.1
    unfold iL at hp
    have mb : 0 ≤ m % (q : Int) ∧ m % (q : Int) < (q : Int) := ⟨Int.emod_nonneg _ (by omega), Int.emod_lt_of_pos _ (by omega)⟩
    refine ⟨_, rfl, _, rfl, _, _, rfl, rfl, by omega, _, rfl, p, rfl, ⟨_, hp.sq⟩, lcP (walk_tup (xs := xs.map V.int)) (fun H' e => (hp.ex e).sq) (by rw [List.length_map]; omega) (fun _ => true) (fun i => V.int ((xs.getD i 0 * (m % (q : Int))) % (q : Int))) (fun i H1 x H2 hi e y K1 K0 k1 k0 => ?_) (fun d H2 hd e2 h2 => ?_)⟩
    · obtain ⟨rfl, g⟩ := y
      obtain ⟨rfl, _⟩ := int_at g
      exact ⟨rfl, yes_go ⟨_, rfl, _, rfl, _, _, rfl, rfl, .inr ⟨by omega, by omega⟩, _, rfl, _, _, rfl, rfl, by omega, k1 rfl _ (Ex.refl _)⟩⟩
    · rw [given_all, List.length_map] at h2
      have e : (List.range xs.length).map (fun i => V.int ((xs.getD i 0 * (m % (q : Int))) % (q : Int))) = iL (timesF q xs m) := by
        unfold iL timesF
        rw [List.map_map]
        rfl
      rw [e] at h2
      exact ⟨d, _, rfl, .inl ⟨sq_of h2, k.new e2⟩⟩
theorem ok_nought_row (F : FnP K "nought_row" s_nought_row f fd) (Z : Zs mg) : FnOk P w K mg base CX0 1 f fd ["length"] (spNought K) := by
  refine F.ok sc_nought_row (fun vs H Q E h => ?_) (fun cdv A outer s H vs Q E hr h => ⟨_, PSs.nox (pss_one (ps_ret (pe_op (ko_rep (K := K)) (pe_tupF (pa_cons pe_int pa_nil)) (pv 0)))), ?_⟩)
  · obtain ⟨n, rfl, _⟩ := h
    rfl
  · obtain ⟨n, rfl, hn, k⟩ := h
    refine ⟨by show 1 ≤ sizeLine; decide, fun z o hz ho => ⟨_, rfl, rep_one (by omega) (by omega) (fun a1 G1 f1 g1 => ?_) z o hz ho⟩⟩
    rw [Int.toNat_natCast] at g1
    have e : List.replicate n (V.int 0) = iL (List.replicate n 0) := by
      unfold iL
      rw [List.map_replicate]
    rw [e] at g1
    exact k _ _ f1 g1
theorem ok_first_place (F : FnP K "first_place" s_first_place f fd) (Z : Zs mg) : FnOk P w K mg base CX0 1 f fd ["row"] (spFirst K) := by
  refine F.ok sc_first_place (fun vs H Q E h => ?_) (fun cdv A outer s H vs Q E hr h => ⟨_, PSs.nox (pss_cons (ps_for PassesOwn.never rfl (pi_range1 (by rfl) Z.range (pa_cons (pe_callB (kc_len (K := K)) (by rfl) Z.len PySem.boot_len (pa_cons (pv 0) pa_nil)) pa_nil)) (pg_name (i := 1) sc_first_place.nd rfl (by first | exact Or.inl rfl | exact Or.inr rfl)) (pss_one (ps_if (pt_cmpR op_ne (pe_ix (kx_tup (K := K)) (pv 0) (pv 1) (fun _ _ => rfl)) pe_int (nomark _)) (pss_one (ps_ret (pv 1))) pss_nil)))
  (pss_one (ps_ret (pe_callB (kc_len (K := K)) (by rfl) Z.len PySem.boot_len (pa_cons (pv 0) pa_nil))))), ?_⟩)
  · obtain ⟨p, xs, rfl, _⟩ := h
    rfl
  · obtain ⟨p, xs, rfl, hp, few, k⟩ := h
    refine ⟨_, rfl, p, _, rfl, .inr hp.sq, _, rfl, by omega, by unfold iL; rw [List.length_map]; omega, ?_⟩
    unfold iL
    rw [List.length_map, Int.toNat_natCast]
    refine for_range (lo := 0) (n := xs.length) (fun i σ H' => H' = H ∧ (∀ j, j < i → xs.getD j 0 = 0) ∧ ∃ v, σ = [some (.ref p), v]) ⟨rfl, fun j hj => by omega, none, rfl⟩ (fun i σ H' hi y => ?_) (fun σ H' y => ?_)
    · obtain ⟨rfl, h0, v, rfl⟩ := y
      have e0 : (0 : Int) + (i : Int) = (i : Int) := by omega
      show gName _ (V.int ((0 : Int) + (i : Int))) _ _ _
      rw [e0]
      refine ⟨_, rfl, _, rfl, p, _, _, _, rfl, rfl, hp.sq, atI_int hi, rfl, _, rfl, ?_⟩
      rw [dec_int]
      by_cases c : xs.getD i 0 = 0
      · rw [c]
        refine iteF ⟨rfl, fun j hj => ?_, _, rfl⟩
        by_cases e : j = i
        · rw [e]
          exact c
        · exact h0 j (by omega)
      · rw [beq_eq_false_iff_ne.mpr c]
        refine iteT ⟨_, rfl, ?_⟩
        rw [first_of hi h0 c] at k
        exact k
    · obtain ⟨rfl, h0, v, rfl⟩ := y
      rw [first_none h0] at k
      refine ⟨_, rfl, p, _, rfl, .inr hp.sq, ?_⟩
      unfold iL
      rw [List.length_map]
      exact k
end
end K47

namespace K47
open PySem PySem.Spec PyProof.Rows L2 Evl Own
def spLowered (K : PySem.W.Frag) : Sp := fun vs H Q _ => ∃ (q n : Nat) (b : Bool) (p r : Addr) (rows : List (List Int)) (row : List Int), vs = [.int (q : Int), .ref p, .ref r] ∧ RwB K b H p rows ∧ Tp K H r (iL row) ∧ n ≤ 100 ∧ rows.length ≤ 100 ∧ (q = 2 ∨ q = 3) ∧ Red q n rows ∧ RowOk q n row ∧ RetU K (iL (redF q rows row)) H Q
section
variable {P : Program} {w : World} {K : PySem.W.Frag} {mg : Str → Option Value} {base : Heap} {f : Addr} {fd : FuncData}
theorem ok_lowered (F : FnP K "lowered" s_lowered f fd) (Z : Zs mg) (G_first_place : Fn P w K mg base CX0 1 "first_place" s_first_place ["row"] (spFirst K)) (G_less : Fn P w K mg base CX0 1 "less" s_less ["letters", "one", "other"] (spComb K (-1))) (G_times : Fn P w K mg base CX0 1 "times" s_times ["letters", "row", "number"] (spTimes K)) :
    FnOk P w K mg base CX0 2 f fd ["letters", "steps", "row"] (spLowered K) := by
  refine F.ok sc_lowered (fun vs H Q E h => ?_) (fun cdv A outer s H vs Q E hr h => ⟨_, PSs.nox (pss_cons (ps_set (i := 3) sc_lowered.nd rfl (by first | exact Or.inl rfl | exact Or.inr rfl) (pv 2))
  (pss_cons (ps_for PassesOwn.never rfl (pi_seqB (pv 1)) (pg_name (i := 4) sc_lowered.nd rfl (by first | exact Or.inl rfl | exact Or.inr rfl)) (pss_cons (ps_set (i := 5) sc_lowered.nd rfl (by first | exact Or.inl rfl | exact Or.inr rfl) (pe_ix (kx_tup (K := K)) (pv 3) (pe_callF G_first_place (hr.mono (by decide)) rfl pass0 (pa_cons (pv 4) pa_nil)) (fun _ _ => rfl)))
  (pss_one (ps_if (pt_cmpR op_ne (pv 5) pe_int (nomark _)) (pss_one (ps_set (i := 3) sc_lowered.nd rfl (by first | exact Or.inl rfl | exact Or.inr rfl) (pe_callF G_less (hr.mono (by decide)) rfl pass0 (pa_cons (pv 0) (pa_cons (pv 3) (pa_cons (pe_callF G_times (hr.mono (by decide)) rfl pass0 (pa_cons (pv 0) (pa_cons (pv 4) (pa_cons (pv 5) pa_nil)))) pa_nil)))))) pss_nil))))
  (pss_one (ps_ret (pv 3))))), ?_⟩)
  · obtain ⟨q, n, b, p, r, rows, row, rfl, _⟩ := h
    rfl
  · obtain ⟨q, n, b, p, r, rows, row, rfl, hp, hr', hn, few, q23, hR, ho, k⟩ := h
    have q0 : 0 < q := by omega
    obtain ⟨es, hes, lg⟩ := hp.sq
    have el := lg.len
    refine ⟨_, rfl, _, rfl, p, b, _, rfl, hes, for_it walk_seqB (fun i σ H' => Ex H H' ∧ ∃ l v4 v5, Tp K H' l (iL (redF q (rows.take i) row)) ∧ σ = [some (.int (q : Int)), some (.ref p), some (.ref r), some (.ref l), v4, v5]) ⟨Ex.refl _, r, none, none, hr', rfl⟩ (fun i σ H' _ h => hes.ex h.1) (fun i x σ H' H'' hi h y => ?_) (fun σ H' h => ?_)⟩
    · obtain ⟨ex, l, v4, v5, hl, rfl⟩ := h
      obtain ⟨rfl, g⟩ := y
      obtain ⟨e, one, rfl, ge, gr, te⟩ := (lg.ex ex).get g
      have om := List.mem_of_getElem? gr
      have oo := hR.ok one om
      have fo := hR.fst one om
      have lo := redF_ok (rows := rows.take i) q0 ho
      have tk := redF_take (q := q) (row := row) gr
      rw [tk]
      generalize redF q (rows.take i) row = left at hl lo tk ⊢
      refine ⟨_, rfl, _, rfl, e, one, rfl, te, by rw [oo.1]; omega, l, _, _, .int (left.getD (firstF one) 0), rfl, rfl, hl.sq, atI_int (by rw [lo.1]; exact fo.1), ?_⟩
      refine ⟨_, rfl, rfl, _, rfl, ?_⟩
      rw [dec_int]
      unfold redStep
      by_cases c : left.getD (firstF one) 0 = 0
      · rw [c, if_neg (by simp)]
        exact iteF ⟨ex, l, _, _, hl, rfl⟩
      · rw [beq_eq_false_iff_ne.mpr c, if_pos c]
        refine iteT ⟨_, rfl, _, rfl, _, rfl, _, rfl, _, rfl, q, n, e, one, _, rfl, te, by omega, by omega, by omega, oo, fun t1 H1 e1 h1 => ?_⟩
        refine ⟨q, n, l, t1, left, _, rfl, hl.ex e1, h1, by omega, by omega, by omega, lo.1, by rw [times_len, oo.1], fun l2 H2 e2 h2 => ?_⟩
        rw [less_times lo.1 oo.1] at h2
        exact ⟨ex.trans (e1.trans e2), l2, _, _, h2, rfl⟩
    · obtain ⟨ex, l, v4, v5, hl, rfl⟩ := h
      rw [List.length_map, el, List.take_length] at hl
      exact ⟨_, rfl, k l H' ex hl⟩
end
end K47

namespace K47
open PySem PySem.Spec PyProof.Rows L2 Evl Own
def spIsSort : Sp := fun vs H Q _ => ∃ z : Str, vs = [.str z] ∧ Q (.bl (decide (z ∈ dSTEPS.map (·.1)))) H
/-- an error whose own dict holds a word -/
def RaisesW (C : Addr) (z : Str) (H : Hp) (E : XK) : Prop := ∀ d, H d = none → E (.ref C) (some d) (upd H d (.xd [(("word" : Str), .str z)]))
def twB (s : Srt) (q : Nat) (rows : List (List Int)) : Bool := match s with | .twice => twiceB q rows | _ => true
def ofSortB (s : Srt) (q n : Nat) (rows : List (List Int)) : Bool := decide (q = s.q) && (ownB q n rows && twB s q rows)
def spOfSort (K : PySem.W.Frag) : Sp := fun vs H Q _ => ∃ (s : Srt) (p : Addr) (q n : Nat) (rows : List (List Int)), vs = [.str s.s, .ref p] ∧ TpC K H p q n rows ∧ CodeOk q n rows ∧ ∀ H', Ex H H' → Q (.bl (ofSortB s q n rows)) H'
def spNeed (K : PySem.W.Frag) (C : Addr) : Sp := fun vs H Q E => ∃ (z : Str) (L p : Addr) (q n : Nat) (rows : List (List Int)), vs = [.str z, .ref L] ∧ H L = some (.lst [.ref p]) ∧ TpC K H p q n rows ∧ CodeOk q n rows ∧
  ((z ∉ dSTEPS.map (·.1) ∧ RaisesW C "sort" H E) ∨ ∃ s : Srt, z = s.s ∧ ∀ H', Ex H H' → if ofSortB s q n rows = true then Q .non H' else RaisesW C "sort" H' E)
def fitB (s : Srt) (row : List Int) : Bool := decide (weightF row % s.by_ = 0)
def spIsFit (K : PySem.W.Frag) : Sp := fun vs H Q _ => ∃ (s : Srt) (r : Addr) (row : List Int), vs = [.str s.s, .ref r] ∧ Tp K H r (iL row) ∧ Q (.bl (fitB s row)) H
theorem dec_nat (i j : Nat) : decide (V.int (i : Int) = V.int (j : Int)) = (i == j) := by
  by_cases c : i = j
  · rw [c]
    simp
  · rw [decide_eq_false (fun z => c (by have := V.int.inj z; omega))]
    simp [c]
theorem _root_.Own.IsOwn.of_sort {s : Srt} {n : Nat} {rows : List (List Int)} (h : IsOwn s n rows) : ofSortB s s.q n rows = true := by
  have ins := inside_of h.ins
  unfold ofSortB ownB
  rw [decide_eq_true rfl, decide_eq_true h.half, ins]
  cases s with
  | twice =>
    have f := h.four rfl
    show twiceB 2 rows = true
    unfold twiceB fourB
    have ins2 : insideB 2 rows = true := ins
    rw [decide_eq_true rfl, ins2, List.all_eq_true.mpr fun r hr => decide_eq_true (f r hr)]
    rfl
  | _ => rfl
section
variable {P : Program} {w : World} {K : PySem.W.Frag} {mg : Str → Option Value} {base : Heap} {f : Addr} {fd : FuncData}
theorem ok_is_sort (F : FnP K "is_sort" s_is_sort f fd) (Z : Zs mg) (C : Cs K w mg) : FnOk P w K mg base CX0 1 f fd ["value"] spIsSort := by
  refine F.ok sc_is_sort (fun vs H Q E h => ?_) (fun cdv A outer s H vs Q E hr h => ⟨_, PSs.nox (pss_one (ps_ret (pe_and (pe_callB (kc_isi (K := K)) (by rfl) Z.isinstance (by decide +kernel) (pa_cons (pv 0) (pa_cons (pe_bltn (v := .ty "str") (u := .type "str") (by rfl) Z.str (by decide +kernel) rfl) pa_nil))) (pe_one (pe_inKD C.STEPSn rfl (pv 0)))))), ?_⟩)
  · obtain ⟨z, rfl, _⟩ := h
    rfl
  · obtain ⟨z, rfl, k⟩ := h
    exact ⟨_, rfl, _, .ty "str", _, .type "str", _, rfl, .ty _, ((Vk.str z : Vk K H _ _)).ty, kit_vk ((Vk.str z : Vk K H _ _)) "str", _, rfl, iteT ⟨_, rfl, z, rfl, k⟩⟩
theorem ok_is_of_sort (F : FnP K "is_of_sort" s_is_of_sort f fd) (Z : Zs mg) (C : Cs K w mg) (G_is_own : Fn P w K mg base CX0 3 "is_own" s_is_own ["code"] (spCode K fun q n rows => .bl (ownB q n rows))) (G_is_twice : Fn P w K mg base CX0 3 "is_twice" s_is_twice ["code"] (spCode K fun q _ rows => .bl (twiceB q rows))) : FnOk P w K mg base CX0 4 f fd ["sort", "code"] (spOfSort K) := by
  refine F.ok sc_is_of_sort (fun vs H Q E h => ?_) (fun cdv A outer s H vs Q E hr h => ⟨_, PSs.nox (pss_cons (ps_if (PW.pt (pw_or (pt_cmpR op_ne (pe_ix (kx_tup (K := K)) (pv 1) pe_int (fun _ _ => rfl)) (pe_kd C.LETTERS rfl (pv 0) (fun _ _ => rfl)) (nomark _)) (pw_or1 (pt_not (pt_val (pe_callF G_is_own (hr.mono (by decide)) rfl pass0 (pa_cons (pv 1) pa_nil))))))) (pss_one (ps_ret pe_bl)) pss_nil)
  (pss_one (ps_ret (pe_or (pe_cmpR op_ne (pv 0) pe_str (nomark _)) (pe_one (pe_callF G_is_twice (hr.mono (by decide)) rfl pass0 (pa_cons (pv 1) pa_nil))))))), ?_⟩)
  · obtain ⟨s, p, q, n, rows, rfl, _⟩ := h
    rfl
  · obtain ⟨s, p, q, n, rows, rfl, tc, co, k⟩ := h
    obtain ⟨r, hp, tr⟩ := id tc
    refine ⟨_, rfl, p, _, 0, _, rfl, rfl, hp.sq, rfl, _, rfl, s.s, _, rfl, s.inLETTERS, fun v iv => ?_⟩
    have iv' : v = .int (s.q : Nat) := iv
    subst iv'
    unfold ofSortB at k
    refine ⟨rfl, _, rfl, ?_⟩
    rw [dec_nat]
    cases cq : q == s.q with
    | false =>
      have : decide (q = s.q) = false := decide_eq_false (by simpa using cq)
      rw [this] at k
      exact iteT (iteT (k _ (Ex.refl _)))
    | true =>
      have : decide (q = s.q) = true := decide_eq_true (by simpa using cq)
      rw [this, Bool.true_and] at k
      refine iteF ⟨_, rfl, p, q, n, rows, rfl, tc, co, fun H1 e1 => ⟨_, rfl, ?_⟩⟩
      cases co' : ownB q n rows with
      | false =>
        rw [co', Bool.false_and] at k
        exact iteT (k _ e1)
      | true =>
        rw [co', Bool.true_and] at k
        refine iteF ⟨_, rfl, rfl, _, rfl, ?_⟩
        cases s with
        | two => exact iteT (k _ e1)
        | three => exact iteT (k _ e1)
        | twice => exact iteF ⟨_, rfl, p, q, n, rows, rfl, tc.ex e1, co, fun H2 e2 => k _ (e1.trans e2)⟩
theorem ok_need_sort (F : FnP K "need_sort" s_need_sort f fd) (Z : Zs mg) {CRef M fI : Addr} (X_Refused : PySem.OwXword.OexT P K CRef M fI) (g_Refused : mg "Refused" = some (.ref CRef)) (G_is_sort : Fn P w K mg base CX0 1 "is_sort" s_is_sort ["value"] spIsSort) (G_is_of_sort : Fn P w K mg base CX0 4 "is_of_sort" s_is_of_sort ["sort", "code"] (spOfSort K)) : FnOk P w K mg base (L2.CX P w) 5 f fd ["sort", "codes"] (spNeed K CRef) := by
  refine FunD.ok (CX := L2.CX P w) (k := 4) F sc_need_sort (fun vs H Q E h => ?_) (fun cdv A outer s H vs Q E hr h => ⟨_, by exact (pss_cons (ps_if (pt_not (pt_val (pe_callF G_is_sort (hr.mono (by decide)) rfl pass0 (pa_cons (pv 0) pa_nil)))) (pss_one (ps_raise rfl (takes_of rfl rfl rfl rfl) (pmk_word X_Refused g_Refused hr (pa_cons pe_str pa_nil) (by rfl)))) pss_nil)
  (pss_one (ps_for (passes_of rfl) rfl (pi_list (pv 1)) (pg_name (i := 2) sc_need_sort.nd rfl (by first | exact Or.inl rfl | exact Or.inr rfl)) (pss_one (ps_if (pt_not (pt_val (pe_callF G_is_of_sort (hr.mono (by decide)) rfl pass0 (pa_cons (pv 0) (pa_cons (pv 2) pa_nil))))) (pss_one (ps_raise rfl (takes_of rfl rfl rfl rfl) (pmk_word X_Refused g_Refused hr (pa_cons pe_str pa_nil) (by rfl)))) pss_nil))))), ?_⟩)
  · obtain ⟨z, L, p, q, n, rows, rfl, _⟩ := h
    rfl
  · obtain ⟨z, L, p, q, n, rows, rfl, hL, tc, co, h⟩ := h
    refine ⟨_, rfl, z, rfl, _, rfl, ?_⟩
    rcases h with ⟨hz, r⟩ | ⟨s, rfl, h⟩
    · rw [decide_eq_false hz]
      exact iteT ⟨_, rfl, r⟩
    · rw [decide_eq_true s.inKeys]
      refine iteF ⟨_, rfl, L, rfl, ⟨_, sq_of hL⟩, for_it walk_list (fun i σ H' => Ex H H' ∧ (0 < i → ofSortB s q n rows = true) ∧ ∃ v2, σ = [some (.str s.s), some (.ref L), v2]) ⟨Ex.refl _, fun h => by omega, none, rfl⟩ (fun i σ H' _ h => sq_of (h.1 _ _ hL)) (fun i x σ H' H'' hi h y => ?_) (fun σ H' h => ?_)⟩
      · obtain ⟨ex, _, v2, rfl⟩ := h
        obtain ⟨rfl, g⟩ := y
        have i0 : i = 0 := by
          have : i < 1 := hi
          omega
        subst i0
        cases g
        refine ⟨_, rfl, _, rfl, s, p, q, n, rows, rfl, tc.ex ex, co, fun H2 e2 => ⟨_, rfl, ?_⟩⟩
        have h2 := h H2 (ex.trans e2)
        cases c : ofSortB s q n rows with
        | true => exact iteF ⟨ex.trans e2, fun _ => rfl, _, rfl⟩
        | false =>
          rw [c] at h2
          exact iteT ⟨_, rfl, h2⟩
      · obtain ⟨ex, c, v2, rfl⟩ := h
        have h2 := h H' ex
        rw [if_pos (c (by show 0 < 1; decide))] at h2
        exact h2
theorem ok_is_fitting (F : FnP K "is_fitting" s_is_fitting f fd) (Z : Zs mg) (G_weight : Fn P w K mg base CX0 1 "weight" s_weight ["row"] (spWeight K)) : FnOk P w K mg base CX0 2 f fd ["sort", "row"] (spIsFit K) := by
  refine F.ok sc_is_fitting (fun vs H Q E h => ?_) (fun cdv A outer s H vs Q E hr h => ⟨_, PSs.nox (pss_cons (ps_if (pt_cmpR op_eq (pv 0) pe_str (nomark _)) (pss_one (ps_ret (pe_cmpR op_eq (pe_op op_mod (pe_callF G_weight (hr.mono (by decide)) rfl pass0 (pa_cons (pv 1) pa_nil)) pe_int) pe_int (nomark _)))) pss_nil)
  (pss_cons (ps_if (pt_cmpR op_eq (pv 0) pe_str (nomark _)) (pss_one (ps_ret (pe_cmpR op_eq (pe_op op_mod (pe_callF G_weight (hr.mono (by decide)) rfl pass0 (pa_cons (pv 1) pa_nil)) pe_int) pe_int (nomark _)))) pss_nil)
  (pss_one (ps_ret (pe_cmpR op_eq (pe_op op_mod (pe_callF G_weight (hr.mono (by decide)) rfl pass0 (pa_cons (pv 1) pa_nil)) pe_int) pe_int (nomark _)))))), ?_⟩)
  · obtain ⟨s, r, row, rfl, _⟩ := h
    rfl
  · obtain ⟨s, r, row, rfl, hr', k⟩ := h
    have fb : ∀ m : Nat, 0 < m → (((weightF row : Nat) : Int) % (m : Int) == 0) = decide (weightF row % m = 0) := fun m hm => by
      by_cases c : weightF row % m = 0
      · rw [decide_eq_true c, beq_iff_eq]
        omega
      · rw [decide_eq_false c, beq_eq_false_iff_ne]
        omega
    unfold fitB at k
    cases s with
    | twice =>
      refine ⟨_, rfl, rfl, _, rfl, iteT ⟨_, rfl, r, row, rfl, hr', _, _, rfl, rfl, (show (0 : Int) < 4 by decide), rfl, ?_⟩⟩
      have fbm : (((weightF row : Nat) : Int) % 4 == 0) = decide (weightF row % 4 = 0) := fb 4 (by decide)
      rw [dec_int, fbm]
      exact k
    | two =>
      refine ⟨_, rfl, rfl, _, rfl, iteF ⟨_, rfl, rfl, _, rfl, iteT ⟨_, rfl, r, row, rfl, hr', _, _, rfl, rfl, (show (0 : Int) < 2 by decide), rfl, ?_⟩⟩⟩
      have fbm : (((weightF row : Nat) : Int) % 2 == 0) = decide (weightF row % 2 = 0) := fb 2 (by decide)
      rw [dec_int, fbm]
      exact k
    | three =>
      refine ⟨_, rfl, rfl, _, rfl, iteF ⟨_, rfl, rfl, _, rfl, iteF ⟨_, rfl, r, row, rfl, hr', _, _, rfl, rfl, (show (0 : Int) < 3 by decide), rfl, ?_⟩⟩⟩
      have fbm : (((weightF row : Nat) : Int) % 3 == 0) = decide (weightF row % 3 = 0) := fb 3 (by decide)
      rw [dec_int, fbm]
      exact k
end
end K47

namespace K47
open PySem PySem.Spec PyProof.Rows L2 Evl Own
def spWithRow (K : PySem.W.Frag) : Sp := fun vs H Q _ => ∃ (q n : Nat) (b : Bool) (p r : Addr) (rows : List (List Int)) (row : List Int), vs = [.int (q : Int), .int (n : Int), .ref p, .ref r] ∧ RwB K b H p rows ∧ Tp K H r (iL row) ∧ n ≤ 100 ∧ rows.length ≤ 100 ∧ (q = 2 ∨ q = 3) ∧ Red q n rows ∧ RowOk q n row ∧ ¬ Sp q n rows row ∧
  ∀ (t : Addr) (rows' : List (List Int)) (H' : Hp), Ex H H' → TpC K H' t q n rows' → WithR q rows row rows' → Q (.ref t) H'
def worthsL (q : Nat) (row : List Int) (rows : List (List Int)) : List Int := rows.map fun r => worthF q row r
def spCommon (K : PySem.W.Frag) : Sp := fun vs H Q _ => ∃ (q n : Nat) (p L : Addr) (rows : List (List Int)) (row : List Int), vs = [.int (q : Int), .ref p, .ref L] ∧ TpR K H p rows ∧ Tp K H L (iL (worthsL q row rows)) ∧ n ≤ 100 ∧ rows.length ≤ 100 ∧ (q = 2 ∨ q = 3) ∧ (∀ r ∈ rows, RowOk q n r) ∧ row.length = n ∧ (∃ r ∈ rows, worthF q r row ≠ 0) ∧
  ∀ (D : Addr) (H' : Hp), Ex H H' → H D = none → RwB K false H' D (ledK q rows row).reverse → Q (.ref D) H'
theorem times_unit {q n : Nat} {left : List Int} (h : RowOk q n left) : timesF q left (left.getD (firstF left) 0) = unitF q left := by
  refine row_ext (n := n) (by rw [times_len, h.1]) (by unfold unitF; rw [plusF_len, h.1]) fun i => ?_
  rw [times_at, unit_at h, Int.mul_comm]
section
variable {P : Program} {w : World} {K : PySem.W.Frag} {mg : Str → Option Value} {base : Heap} {f : Addr} {fd : FuncData}
theorem ok_with_row (F : FnP K "with_row" s_with_row f fd) (Z : Zs mg) (G_lowered : Fn P w K mg base CX0 2 "lowered" s_lowered ["letters", "steps", "row"] (spLowered K)) (G_first_place : Fn P w K mg base CX0 1 "first_place" s_first_place ["row"] (spFirst K)) (G_times : Fn P w K mg base CX0 1 "times" s_times ["letters", "row", "number"] (spTimes K)) (G_plus_times : Fn P w K mg base CX0 1 "plus_times" s_plus_times ["letters", "one", "other", "many"] (spPlus K)) :
    FnOk P w K mg base CX0 3 f fd ["letters", "length", "rows", "row"] (spWithRow K) := by
  refine F.ok sc_with_row (fun vs H Q E h => ?_) (fun cdv A outer s H vs Q E hr h => ⟨_, PSs.nox (pss_cons (ps_set (i := 4) sc_with_row.nd rfl (by first | exact Or.inl rfl | exact Or.inr rfl) (pe_callF G_lowered (hr.mono (by decide)) rfl pass0 (pa_cons (pv 0) (pa_cons (pv 2) (pa_cons (pv 3) pa_nil)))))
  (pss_cons (ps_set (i := 5) sc_with_row.nd rfl (by first | exact Or.inl rfl | exact Or.inr rfl) (pe_callF G_first_place (hr.mono (by decide)) rfl pass0 (pa_cons (pv 4) pa_nil)))
  (pss_cons (ps_set (i := 4) sc_with_row.nd rfl (by first | exact Or.inl rfl | exact Or.inr rfl) (pe_callF G_times (hr.mono (by decide)) rfl pass0 (pa_cons (pv 0) (pa_cons (pv 4) (pa_cons (pe_ix (kx_tup (K := K)) (pv 4) (pv 5) (fun _ _ => rfl)) pa_nil)))))
  (pss_cons (ps_set (i := 6) sc_with_row.nd rfl (by first | exact Or.inl rfl | exact Or.inr rfl) (pe_lst (pa_cons (pv 4) pa_nil)))
  (pss_cons (ps_for PassesOwn.never rfl (pi_seqB (pv 2)) (pg_name (i := 7) sc_with_row.nd rfl (by first | exact Or.inl rfl | exact Or.inr rfl)) (pss_one (ps_if (pt_cmpR op_eq (pe_ix (kx_tup (K := K)) (pv 7) (pv 5) (fun _ _ => rfl)) pe_int (nomark _)) (pss_one (ps_expr (km_bm (K := K) PySem.F.plainAttrs_list PySem.F.slot_list_append PySem.F.type_list_append mt_append (pv 6) (pa_cons (pv 7) pa_nil)))) (pss_one (ps_expr (km_bm (K := K) PySem.F.plainAttrs_list PySem.F.slot_list_append PySem.F.type_list_append mt_append (pv 6) (pa_cons (pe_callF G_plus_times (hr.mono (by decide)) rfl pass0 (pa_cons (pv 0) (pa_cons (pv 7) (pa_cons (pv 4) (pa_cons (pe_un un_neg (pe_ix (kx_tup (K := K)) (pv 7) (pv 5) (fun _ _ => rfl))) pa_nil))))) pa_nil)))))))
  (pss_one (ps_ret (pe_tupF (pa_cons (pv 0) (pa_cons (pv 1) (pa_cons (pe_callTy (kc_tuple (K := K)) (by rfl) Z.tuple (by decide +kernel) (pa_cons (pe_callBK (kc_sortRows (K := K) (b := true)) (by rfl) Z.sorted (by decide +kernel) (pa_cons (pv 6) pa_nil) (pk_cons pe_bl pk_nil)) pa_nil)) pa_nil))))))))))), ?_⟩)
  · obtain ⟨q, n, b, p, r, rows, row, rfl, _⟩ := h
    rfl
  · obtain ⟨q, n, b, p, r, rows, row, rfl, hp, hr', hn, few, q23, hR, ho, no, k⟩ := h
    have q0 : 0 < q := by omega
    have lt := (left_of q0 hR ho).mp no
    obtain ⟨es, hes, lg⟩ := hp.sq
    have el := lg.len
    refine ⟨_, rfl, _, rfl, _, rfl, q, n, b, p, r, rows, row, rfl, hp, hr', hn, few, q23, hR, ho, fun l H1 ex hl => ?_⟩
    have lo := redF_ok (rows := rows) q0 ho
    unfold WithR at k
    generalize redF q rows row = left at hl lo k lt
    have lb := lo.at (firstF left) q0
    rw [lo.1] at lt
    refine ⟨_, rfl, l, left, rfl, hl, by rw [lo.1]; omega, ?_⟩
    refine ⟨_, rfl, _, rfl, _, rfl, _, rfl, l, _, _, .int (left.getD (firstF left) 0), rfl, rfl, hl.sq, atI_int (by rw [lo.1]; exact lt), q, n, l, left, _, rfl, hl, by omega, by omega, by omega, lo, fun u H2 e2 h2 => ?_⟩
    rw [times_unit lo] at h2
    have uf := unit_first q23 lo lt
    have uo := unit_ok q0 lo
    generalize unitF q left = ul at h2 uf uo k
    refine ⟨_, rfl, by show 1 ≤ sizeLine; decide, fun L hL => ?_⟩
    have eL := Ex.new (o := .lst [V.ref u]) hL
    have ex3 := ex.trans (e2.trans eL)
    have HL : H L = none := fresh_back (ex.trans e2) hL
    have hu3 := h2.ex eL
    have l3 : LstG iL K (upd H2 L (.lst [V.ref u])) [u] [ul] := LstG.nil.push (f := iL) (x := ul) hu3
    have hes3 := hes.ex ex3
    have lg3 := lg.ex ex3
    have hL3 : upd H2 L (.lst [V.ref u]) L = some (.lst (([u] : List Addr).map V.ref)) := upd_same
    generalize upd H2 L (.lst [V.ref u]) = H3 at ex3 hu3 l3 hes3 lg3 hL3 ⊢
    clear eL
    refine ⟨_, rfl, p, b, _, rfl, hes3, for_it walk_seqB (fun j σ H' => Ex H H' ∧ Tp K H' u (iL ul) ∧ ∃ es' v7, H' L = some (.lst (es'.map V.ref)) ∧ LstG iL K H' es' (ul :: (rows.take j).map (clrF q ul)) ∧ σ = [some (.int (q : Int)), some (.int (n : Int)), some (.ref p), some (.ref r), some (.ref u), some (.int ((firstF left : Nat) : Int)), some (.ref L), v7])
      ⟨ex3, hu3, [u], _, hL3, l3, rfl⟩ (fun j σ H' _ h => hes.ex h.1) (fun j x σ H4 H5 hj h y => ?_) (fun σ H4 h => ?_)⟩
    · obtain ⟨ex4, hu4, es', v7, hL4, l4, rfl⟩ := h
      obtain ⟨rfl, g⟩ := y
      obtain ⟨e, one, rfl, ge, gr, te⟩ := (lg.ex ex4).get g
      have om := List.mem_of_getElem? gr
      have oo := hR.ok one om
      have ob := oo.at (firstF left) q0
      have jl : j < rows.length := (List.getElem?_eq_some_iff.mp gr).1
      have le4 := l4.len
      rw [List.length_cons, List.length_map, List.length_take] at le4
      have tk : (rows.take (j + 1)).map (clrF q ul) = (rows.take j).map (clrF q ul) ++ [clrF q ul one] := by
        rw [List.take_add_one, gr, List.map_append]
        rfl
      have em : ∀ z : Addr, es'.map V.ref ++ [V.ref z] = (es' ++ [z]).map V.ref := fun z => by rw [List.map_append]; rfl
      refine ⟨_, rfl, _, rfl, e, _, _, .int (one.getD (firstF left) 0), rfl, rfl, te.sq, atI_int (by rw [oo.1]; exact lt), rfl, _, rfl, ?_⟩
      rw [dec_int, tk]
      by_cases c0 : one.getD (firstF left) 0 = 0
      · rw [c0]
        have ce : clrF q ul one = one := by
          unfold clrF
          rw [uf, if_pos c0]
        refine iteT ⟨_, rfl, .inl ⟨rfl, _, sq_of hL4⟩, _, rfl, L, _, _, rfl, rfl, hL4, sz_lt (by rw [List.length_map]; omega), ?_⟩
        rw [em, ce]
        exact ⟨ex_side ex4 HL, hu4.mut hL4, es' ++ [e], _, upd_same, (l4.push (f := iL) te).mut hL4, rfl⟩
      · rw [beq_eq_false_iff_ne.mpr c0]
        have ce : clrF q ul one = plusF q one ul (-(one.getD (firstF left) 0)) := by
          unfold clrF
          rw [uf, if_neg c0, plus_neg (by rw [oo.1, uo.1])]
        refine iteF ⟨_, rfl, .inl ⟨rfl, _, sq_of hL4⟩, _, rfl, _, rfl, _, rfl, _, rfl, _, rfl, e, _, _, .int (one.getD (firstF left) 0), rfl, rfl, te.sq, atI_int (by rw [oo.1]; exact lt), _, rfl, q, n, e, u, one, ul, _, rfl, te, hu4, by omega, by omega, by omega, oo.1, uo.1, by omega, by omega, fun z H6 e6 hz => ?_⟩
        rw [← ce] at hz
        have hL6 := e6 _ _ hL4
        refine ⟨L, _, _, rfl, rfl, hL6, sz_lt (by rw [List.length_map]; omega), ?_⟩
        rw [em]
        exact ⟨ex_side (ex4.trans e6) HL, (hu4.ex e6).mut hL6, es' ++ [z], _, upd_same, ((l4.ex e6).push (f := iL) hz).mut hL6, rfl⟩
    · obtain ⟨ex4, hu4, es', v7, hL4, l4, rfl⟩ := h
      rw [List.length_map, el, List.take_length] at l4
      refine ⟨_, rfl, _, rfl, _, rfl, L, es', _, n, rfl, rfl, sq_of hL4, l4, by omega, fun x hx => ?_, fun es2 rows2 M lg2 pm lx hM => ?_⟩
      · have ox : RowOk q n x := by
          rcases List.mem_cons.mp hx with rfl | hx
          · exact uo
          · obtain ⟨y, hy, rfl⟩ := List.mem_map.mp hx
            exact clr_ok q0 (hR.ok y hy)
        exact ⟨ox.1, fun y hy => by have := ox.2 y hy; omega⟩
      · have eM := Ex.new (o := .lst (es2.map V.ref)) hM
        refine ⟨M, _, rfl, .inl ⟨sq_of upd_same, fun t o ht ho => ⟨by show 3 ≤ sizeLine; decide, fun t3 o3 ht3 ho3 => ?_⟩⟩⟩
        have et := Ex.new (o := .frz o (.tup (es2.map V.ref))) ht
        have et3 := Ex.new (o := .frz o3 (.tup [V.int (q : Int), V.int (n : Int), V.ref t])) ht3
        refine k t3 rows2 _ (ex4.trans (eM.trans (et.trans et3))) ⟨t, Tp.of ho3 upd_same, es2, (Tp.of ho upd_same).ex et3, lg2.ex (eM.trans (et.trans et3))⟩ (.inr ⟨by rw [lo.1]; exact lt, pm, lx⟩)
theorem ok_common_rows (F : FnP K "common_rows" s_common_rows f fd) (Z : Zs mg) (G_plus_times : Fn P w K mg base CX0 1 "plus_times" s_plus_times ["letters", "one", "other", "many"] (spPlus K)) : FnOk P w K mg base CX0 2 f fd ["letters", "rows", "worths"] (spCommon K) := by
  refine F.ok sc_common_rows (fun vs H Q E h => ?_) (fun cdv A outer s H vs Q E hr h => ⟨_, PSs.nox (pss_cons (ps_set (i := 3) sc_common_rows.nd rfl (by first | exact Or.inl rfl | exact Or.inr rfl) (pe_callB (kc_max (K := K) rfl) (by rfl) Z.max (by decide +kernel) (pa_cons (pe_lc (own := [("at", 4), ("told", 5)]) (g := (gTup K 2 (gCons (gName 4) (gCons (gName 5) gNil)))) rfl sc_common_rows.nd (pi_enumB (by rfl) Z.enumerate (pa_cons (pv 2) pa_nil)) (blkOk_by (own := [("at", 4), ("told", 5)]) (N := ["letters", "rows", "worths", "last", "at", "told", "kept", "one"]) (sc := defScope s_common_rows) (by decide +kernel)) (fun _ _ _ _ _ => (pg_tup rfl (pgs_cons (pg_name (i := 4) sc_common_rows.nd rfl (Or.inl rfl)) (pgs_cons (pg_name (i := 5) sc_common_rows.nd rfl (Or.inl rfl)) pgs_nil)))) (fun _ _ _ _ _ => (pts_one (pt_cmpR op_ne (pv 5) pe_int (nomark _)))) (fun _ _ _ _ _ => (pv 4))) pa_nil)))
  (pss_cons (ps_set (i := 6) sc_common_rows.nd rfl (by first | exact Or.inl rfl | exact Or.inr rfl) (pe_lst pa_nil))
  (pss_cons (ps_for PassesOwn.never rfl (pi_enumB (by rfl) Z.enumerate (pa_cons (pv 1) pa_nil)) (pg_tup rfl (pgs_cons (pg_name (i := 4) sc_common_rows.nd rfl (by first | exact Or.inl rfl | exact Or.inr rfl)) (pgs_cons (pg_name (i := 7) sc_common_rows.nd rfl (by first | exact Or.inl rfl | exact Or.inr rfl)) pgs_nil))) (pss_one (ps_if (PW.pt (pw_and (pt_cmpR op_ne (pv 4) (pv 3) (nomark _)) (pw_and1 (pt_cmpR op_eq (pe_ix (kx_tup (K := K)) (pv 2) (pv 4) (fun _ _ => rfl)) pe_int (nomark _))))) (pss_one (ps_expr (km_bm (K := K) PySem.F.plainAttrs_list PySem.F.slot_list_append PySem.F.type_list_append mt_append (pv 6) (pa_cons (pv 7) pa_nil)))) (pss_one (ps_if (pt_cmpR op_ne (pv 4) (pv 3) (nomark _)) (pss_one (ps_expr (km_bm (K := K) PySem.F.plainAttrs_list PySem.F.slot_list_append PySem.F.type_list_append mt_append (pv 6) (pa_cons (pe_callF G_plus_times (hr.mono (by decide)) rfl pass0 (pa_cons (pv 0) (pa_cons (pv 7) (pa_cons (pe_ix (kx_tup (K := K)) (pv 1) (pv 3) (fun _ _ => rfl)) (pa_cons (pe_op op_mul (pe_un un_neg (pe_ix (kx_tup (K := K)) (pv 2) (pv 4) (fun _ _ => rfl))) (pe_ix (kx_tup (K := K)) (pv 2) (pv 3) (fun _ _ => rfl))) pa_nil))))) pa_nil)))) pss_nil)))))
  (pss_one (ps_ret (pv 6)))))), ?_⟩)
  · obtain ⟨q, n, p, L, rows, row, rfl, _⟩ := h
    rfl
  · obtain ⟨q, n, p, L, rows, row, rfl, ⟨es, hes, lg⟩, hL, hn, few, q23, ok, lr, nz, k⟩ := h
    have q0 : 0 < q := by omega
    have el := lg.len
    have wl : (worthsL q row rows).length = rows.length := List.length_map ..
    have gd : ∀ i (h : i < rows.length), rows.getD i [] = rows[i] := fun i h => by rw [List.getD_eq_getElem?_getD, List.getElem?_eq_getElem h]; rfl
    have wi : ∀ i, i < rows.length → (worthsL q row rows).getD i 0 = worthF q row (rows.getD i []) := fun i hi => by
      unfold worthsL
      rw [getD_map' (d := []) _ hi]
    unfold iL at hL
    refine ⟨_, rfl, L, true, _, rfl, sqb_t hL, lcP (walk_enumB (xs := (worthsL q row rows).map V.int)) (fun H' e => sqb_t (hL.ex e)) (by rw [List.length_map, wl]; omega) (fun i => !((worthsL q row rows).getD i 0 == 0)) (fun i => V.int ((i : Nat) : Int)) (fun i H1 x H2 hi e y K1 K0 k1 k0 => ?_) (fun d H2 hd e2 h2 => ?_)⟩
    · obtain ⟨T, x1, rfl, nT, rfl, g⟩ := y
      obtain ⟨rfl, _⟩ := int_at g
      refine ⟨T, _, rfl, .inl (.inl upd_same), rfl, _, _, rfl, _, _, rfl, rfl, rfl, _, rfl, rfl, _, rfl, ?_⟩
      rw [dec_int]
      cases c : (worthsL q row rows).getD i 0 == 0 with
      | true => exact k0 (by rw [c]; rfl) _ (Ex.new nT)
      | false => exact ⟨_, rfl, k1 (by rw [c]; rfl) _ (Ex.new nT)⟩
    · rw [given_ints, List.length_map, wl] at h2
      have memL : ∀ m : Int, m ∈ ((List.range rows.length).filter fun i => !((worthsL q row rows).getD i 0 == 0)).map (fun i => ((i : Nat) : Int)) ↔ ∃ i : Nat, m = (i : Int) ∧ i < rows.length ∧ worthF q row (rows.getD i []) ≠ 0 := fun m => by
        constructor
        · intro hm
          obtain ⟨i, hi, rfl⟩ := List.mem_map.mp hm
          obtain ⟨h1, h2⟩ := List.mem_filter.mp hi
          have il := List.mem_range.mp h1
          rw [wi i il] at h2
          exact ⟨i, rfl, il, by simpa using h2⟩
        · rintro ⟨i, rfl, il, h⟩
          exact List.mem_map.mpr ⟨i, List.mem_filter.mpr ⟨List.mem_range.mpr il, by rw [wi i il]; simpa using h⟩, rfl⟩
      refine ⟨d, _, rfl, sq_of h2, ?_, fun m hm mx => ?_⟩
      · obtain ⟨r, hr', hne⟩ := nz
        obtain ⟨i, il, rfl⟩ := List.getElem_of_mem hr'
        refine List.length_pos_of_mem ((memL (i : Int)).mpr ⟨i, rfl, il, ?_⟩)
        rw [gd i il, worth_comm lr (ok _ (List.getElem_mem il)).1]
        exact hne
      · obtain ⟨last, rfl, ll, lnz⟩ := (memL m).mp hm
        have lz : ∀ i, last < i → i < rows.length → worthF q row (rows.getD i []) = 0 := fun i h1 h2 => Classical.byContradiction fun c => by
          have := mx _ ((memL (i : Int)).mpr ⟨i, rfl, h2, c⟩)
          omega
        clear mx hm
        have le : es[last]? = some es[last] := List.getElem?_eq_getElem (by omega)
        have lre : rows[last]? = some rows[last] := List.getElem?_eq_getElem ll
        refine ⟨by decide, fun D hD => ?_⟩
        have eD := e2.trans (Ex.new (o := .lst []) hD)
        have HD : H D = none := fresh_back e2 hD
        have hD3 : upd H2 D (.lst []) D = some (.lst (([] : List Addr).map V.ref)) := upd_same
        generalize upd H2 D (.lst []) = H3 at eD hD3 ⊢
        refine ⟨_, rfl, p, true, _, rfl, sqb_t (hes.ex eD), for_it walk_enumB (fun i σ H' => Ex H H' ∧ ∃ es' v4 v7, H' D = some (.lst (es'.map V.ref)) ∧ LstG iL K H' es' (kF q rows row last i) ∧ es'.length ≤ i ∧ i ≤ rows.length ∧ σ = [some (.int (q : Int)), some (.ref p), some (.ref L), some (.int (last : Int)), v4, none, some (.ref D), v7])
          ⟨eD, [], none, none, hD3, by rw [kF_zero]; exact LstG.nil, by simp, by omega, rfl⟩ (fun i σ H' _ h => sqb_t (hes.ex h.1)) (fun i x σ H' H'' hi h y => ?_) (fun σ H' h => ?_)⟩
        · obtain ⟨ex, es', v4, v7, hD', lg', fl, _, rfl⟩ := h
          obtain ⟨T, x1, rfl, nT, rfl, g⟩ := y
          obtain ⟨e, one, rfl, ge, gr, te⟩ := (lg.ex ex).get g
          have eT := Ex.new (o := .tup [.int (i : Nat), .ref e]) nT
          have il : i < rows.length := (List.getElem?_eq_some_iff.mp gr).1
          have om := List.mem_of_getElem? gr
          have oo := ok one om
          have rD : rows.getD i [] = one := by rw [List.getD_eq_getElem?_getD, gr]; rfl
          refine ⟨T, _, rfl, .inl (.inl upd_same), rfl, _, _, rfl, _, _, rfl, rfl, ?_⟩
          replace ex := ex.trans eT
          replace te := te.ex eT
          replace hD' := eT _ _ hD'
          replace lg' := lg'.ex eT
          generalize upd H' T (.tup [.int (i : Nat), .ref e]) = H4 at ex te hD' lg' ⊢
          have hL4 := hL.ex ex
          have em : ∀ z : Addr, es'.map V.ref ++ [V.ref z] = (es' ++ [z]).map V.ref := fun z => by rw [List.map_append]; rfl
          have w4 := wi i il
          rw [rD] at w4
          have wlast := wi last ll
          have wr := worth_rng (q := q) (a := row) (b := one) q0
          have wr2 := worth_rng (q := q) (a := row) (b := rows.getD last []) q0
          refine ⟨_, rfl, _, rfl, rfl, _, rfl, ?_⟩
          rw [dec_nat]
          by_cases cl : i = last
          · subst cl
            rw [beq_self_eq_true]
            refine iteF (iteF ⟨_, rfl, _, rfl, rfl, _, rfl, ?_⟩)
            rw [dec_nat, beq_self_eq_true]
            exact iteF ⟨ex, es', _, _, hD', by rw [kF_at ll]; exact lg', by omega, by omega, rfl⟩
          · rw [beq_eq_false_iff_ne.mpr cl]
            refine iteT ⟨_, rfl, _, rfl, L, _, _, .int (worthF q row one), rfl, rfl, hL4.sq, by rw [← w4]; exact atI_int (by rw [wl]; exact il), rfl, _, rfl, ?_⟩
            rw [dec_int]
            by_cases c0 : worthF q row one = 0
            · rw [c0]
              have kk : kF q rows row last (i + 1) = kF q rows row last i ++ [one] := by
                by_cases lo : i < last
                · rw [kF_low lo gr]
                  unfold keepF
                  rw [if_pos c0]
                · exact kF_high (by omega) gr
              refine iteT ⟨_, rfl, .inl ⟨rfl, _, sq_of hD'⟩, _, rfl, D, _, _, rfl, rfl, hD', sz_lt (by rw [List.length_map]; omega), ?_⟩
              rw [em]
              exact ⟨ex_side ex HD, es' ++ [e], _, _, upd_same, by rw [kk]; exact (lg'.push (f := iL) te).mut hD', by rw [List.length_append]; simp only [List.length_singleton]; omega, by omega, rfl⟩
            · rw [beq_eq_false_iff_ne.mpr c0]
              have lo : i < last := Nat.lt_of_not_le fun h => c0 (by
                have := lz i (by omega) il
                rwa [rD] at this)
              have kk : kF q rows row last (i + 1) = kF q rows row last i ++ [plusF q one (rows.getD last []) (-(worthF q row one) * worthF q row (rows.getD last []))] := by
                rw [kF_low lo gr]
                unfold keepF
                rw [if_neg c0]
              have tl := (lg.at_ _ _ _ le lre).ex ex
              have ol := ok _ (List.getElem_mem ll)
              rw [← gd last ll] at tl ol
              refine iteF ⟨_, rfl, _, rfl, rfl, _, rfl, ?_⟩
              rw [dec_nat, beq_eq_false_iff_ne.mpr cl]
              have mb : -1000 ≤ -(worthF q row one) * worthF q row (rows.getD last []) ∧ -(worthF q row one) * worthF q row (rows.getD last []) ≤ 1000 := by
                have h1 : worthF q row one = 0 ∨ worthF q row one = 1 ∨ worthF q row one = 2 := by omega
                rcases h1 with h | h | h <;> rw [h] <;> omega
              refine iteT ⟨_, rfl, .inl ⟨rfl, _, sq_of hD'⟩, _, rfl, _, rfl, _, rfl, _, rfl, p, _, _, .ref es[last], rfl, rfl, (hes.ex ex).sq, atI_nat (by rw [List.getElem?_map, le]; rfl), _, rfl, _, rfl, L, _, _, .int (worthF q row one), rfl, rfl, hL4.sq, by rw [← w4]; exact atI_int (by rw [wl]; exact il), _, rfl, _, rfl, _, rfl, L, _, _, .int (worthF q row (rows.getD last [])), rfl, rfl, hL4.sq, by rw [← wlast]; exact atI_int (by rw [wl]; exact ll), _, _, rfl, rfl, .inr ⟨by omega, by omega⟩, q, n, e, es[last], one, rows.getD last [], _, rfl, te, tl, by omega, by omega, by omega, oo.1, ol.1, mb.1, mb.2, fun z H6 e6 hz => ?_⟩
              have hD6 := e6 _ _ hD'
              refine ⟨D, _, _, rfl, rfl, hD6, sz_lt (by rw [List.length_map]; omega), ?_⟩
              rw [em]
              exact ⟨ex_side (ex.trans e6) HD, es' ++ [z], _, _, upd_same, by rw [kk]; exact ((lg'.ex e6).push (f := iL) hz).mut hD6, by rw [List.length_append]; simp only [List.length_singleton]; omega, by omega, rfl⟩
        · obtain ⟨ex, es', v4, v7, hD', lg', fl, _, rfl⟩ := h
          rw [List.length_map, el, kF_end q0 ok lr ll lnz lz] at lg'
          exact ⟨_, rfl, k D H' ex HD ⟨es', hD', lg'⟩⟩
end
end K47

namespace K47
open PySem PySem.Spec PyProof.Rows L2 Evl Own
def spUnitR (K : PySem.W.Frag) : Sp := fun vs H Q _ => ∃ n p : Nat, vs = [.int (n : Int), .int (p : Int)] ∧ p < n ∧ n ≤ 100 ∧ RetU K (iL (unitR n p)) H Q
def spRoomW (K : PySem.W.Frag) : Sp := fun vs H Q _ => ∃ q n : Nat, vs = [.int (q : Int), .int (n : Int)] ∧ n ≤ 100 ∧ ∀ (t : Addr) (H' : Hp), Ex H H' → TpC K H' t q n (unitsR n) → Q (.ref t) H'
def spWalked (K : PySem.W.Frag) : Sp := fun vs H Q _ => ∃ (p : Addr) (q n : Nat) (rows : List (List Int)), vs = [.ref p] ∧ TpC K H p q n rows ∧ CodeOk q n rows ∧ q ^ rows.length ≤ 1000 ∧ ∀ (D : Addr) (es : List Addr) (H' : Hp), Ex H H' → H' D = some (.lst (es.map V.ref)) → LstG iL K H' es (wordsF q n rows.reverse) → Q (.ref D) H'
def spWords (K : PySem.W.Frag) : Sp := fun vs H Q _ => ∃ (p : Addr) (q n : Nat) (rows : List (List Int)), vs = [.ref p] ∧ TpC K H p q n rows ∧ CodeOk q n rows ∧ q ^ rows.length ≤ 1000 ∧ ∀ (t : Addr) (H' : Hp), Ex H H' → TpR K H' t (wordsF q n rows.reverse) → Q (.ref t) H'
theorem words_len (q n : Nat) (rows : List (List Int)) : (wordsF q n rows).length = q ^ rows.length := by
  refine snoc_ind (P := fun l => (wordsF q n l).length = q ^ l.length) rfl (fun l x ih => ?_) rows
  rw [words_snoc, flat_len (k := q ^ l.length) fun m _ => by rw [List.length_map, ih], List.length_range, List.length_append, List.length_singleton, Nat.pow_succ, Nat.mul_comm]
/-- the words with a row so many times at most -/
def wordsM (q : Nat) (ws : List (List Int)) (row : List Int) (m : Nat) : List (List Int) := (List.range m).flatMap fun m : Nat => ws.map fun w => plusF q w row (m : Int)
theorem wordsM_succ {q : Nat} {ws : List (List Int)} {row : List Int} (m : Nat) : wordsM q ws row (m + 1) = wordsM q ws row m ++ ws.map fun w => plusF q w row (m : Int) := by
  unfold wordsM
  rw [List.range_succ, List.flatMap_append, List.flatMap_cons, List.flatMap_nil, List.append_nil]
theorem wordsM_len {q : Nat} {ws : List (List Int)} {row : List Int} (m : Nat) : (wordsM q ws row m).length = m * ws.length := by
  unfold wordsM
  rw [flat_len (k := ws.length) fun x _ => by rw [List.length_map], List.length_range]
theorem plus_zero {q n : Nat} {w row : List Int} (h : RowOk q n w) (hr : row.length = n) : plusF q w row ((0 : Nat) : Int) = w := by
  refine row_ext (n := n) (by rw [plusF_len, h.1]) h.1 fun i => ?_
  rw [plusF_at (by rw [h.1, hr])]
  by_cases c : i < w.length
  · have := h.2 _ (Own.getD_mem c)
    rw [show (w.getD i 0 + ((0 : Nat) : Int) * row.getD i 0) = w.getD i 0 by simp, Int.emod_eq_of_lt this.1 this.2]
  · rw [getD_over (xs := w) (by omega), getD_over (xs := row) (by rw [hr, ← h.1]; omega)]
    rfl
theorem plus_one_more {q n : Nat} {w row : List Int} {m : Nat} (hq : 0 < q) (hw : RowOk q n w) (hr : RowOk q n row) : plusF q row (plusF q w row (m : Int)) 1 = plusF q w row ((m + 1 : Nat) : Int) := by
  refine row_ext (n := n) (by rw [plusF_len, hr.1]) (by rw [plusF_len, hw.1]) fun i => ?_
  rw [plusF_at (by rw [plusF_len, hw.1, hr.1]), plusF_at (by rw [hw.1, hr.1]), plusF_at (by rw [hw.1, hr.1]), Int.one_mul, Int.add_emod_emod]
  congr 1
  rw [Int.natCast_add, Int.add_mul, Int.natCast_one, Int.one_mul]
  omega
section
variable {P : Program} {w : World} {K : PySem.W.Frag} {mg : Str → Option Value} {base : Heap} {f : Addr} {fd : FuncData}
theorem ok_unit_row (F : FnP K "unit_row" s_unit_row f fd) (Z : Zs mg) (G_nought_row : Fn P w K mg base CX0 1 "nought_row" s_nought_row ["length"] (spNought K)) : FnOk P w K mg base CX0 2 f fd ["length", "place"] (spUnitR K) := by
  refine F.ok sc_unit_row (fun vs H Q E h => ?_) (fun cdv A outer s H vs Q E hr h => ⟨_, PSs.nox (pss_one (ps_ret (pe_op (ko_cat (K := K)) (pe_op (ko_cat (K := K)) (pe_callF G_nought_row (hr.mono (by decide)) rfl pass0 (pa_cons (pv 1) pa_nil)) (pe_tupF (pa_cons pe_int pa_nil))) (pe_callF G_nought_row (hr.mono (by decide)) rfl pass0 (pa_cons (pe_op op_sub (pe_op op_sub (pv 0) (pv 1)) pe_int) pa_nil))))), ?_⟩)
  · obtain ⟨n, p, rfl, _⟩ := h
    rfl
  · obtain ⟨n, p, rfl, hp, hn, k⟩ := h
    refine ⟨_, rfl, p, rfl, by omega, fun a H1 e1 ha => ?_⟩
    refine ⟨by decide, fun b o hb ho => ?_⟩
    have e2 := Ex.new (o := .frz o (.tup [V.int 1])) hb
    refine cat_ret (ha.ex e2) (Tp.of ho upd_same) (Nat.le_of_lt (sz_lt (by unfold iL; rw [List.length_map, List.length_replicate]; simp only [List.length_singleton]; omega))) (Ex.refl _) fun c H2 e3 hc => ?_
    refine ⟨_, rfl, _, rfl, _, _, rfl, rfl, _, _, rfl, rfl, n - p - 1, congrArg (fun z => [V.int z]) (by omega), by omega, fun d H3 e4 hd => ?_⟩
    refine cat_ret (hc.ex e4) hd (Nat.le_of_lt (sz_lt (by unfold iL; simp only [List.length_append, List.length_map, List.length_replicate, List.length_singleton]; omega))) (e1.trans (e2.trans (e3.trans e4))) fun g H4 e5 hg => ?_
    refine k g H4 e5 ?_
    have ee : iL (unitR n p) = iL (List.replicate p 0) ++ [V.int 1] ++ iL (List.replicate (n - p - 1) 0) := by
      unfold unitR iL
      rw [List.map_append, List.map_append]
      rfl
    rw [ee]
    exact hg
theorem ok_whole_room (F : FnP K "whole_room" s_whole_room f fd) (Z : Zs mg) (G_unit_row : Fn P w K mg base CX0 2 "unit_row" s_unit_row ["length", "place"] (spUnitR K)) : FnOk P w K mg base CX0 3 f fd ["letters", "length"] (spRoomW K) := by
  refine F.ok sc_whole_room (fun vs H Q E h => ?_) (fun cdv A outer s H vs Q E hr h => ⟨_, PSs.nox (pss_one (ps_ret (pe_tupF (pa_cons (pv 0) (pa_cons (pv 1) (pa_cons (pe_callTy (kc_tuple (K := K)) (by rfl) Z.tuple (by decide +kernel) (pa_cons (pe_lc (own := [("place", 2)]) (g := (gName 2)) rfl sc_whole_room.nd (pi_range1 (by rfl) Z.range (pa_cons (pv 1) pa_nil)) (blkOk_by (own := [("place", 2)]) (N := ["letters", "length", "place"]) (sc := defScope s_whole_room) (by decide +kernel)) (fun _ _ _ _ _ => (pg_name (i := 2) sc_whole_room.nd rfl (Or.inl rfl))) (fun _ _ _ _ _ => pts_nil) (fun _ _ _ _ _ => (pe_callF G_unit_row (hr.mono (by decide)) rfl pass0 (pa_cons (pv 1) (pa_cons (pv 2) pa_nil))))) pa_nil)) pa_nil)))))), ?_⟩)
  · obtain ⟨q, n, rfl, _⟩ := h
    rfl
  · obtain ⟨q, n, rfl, hn, k⟩ := h
    refine ⟨_, rfl, _, rfl, _, rfl, _, rfl, by omega, by omega, ?_⟩
    rw [Int.toNat_natCast]
    refine lcX (fun i acc H' => ∃ es, acc = es.map V.ref ∧ LstG iL K H' es ((List.range i).map (unitR n)) ∧ i ≤ n) (walk_range (lo := 0) (n := n)) (fun D _ => ⟨[], rfl, LstG.nil, by omega⟩) (fun H' q => trivial) (fun i acc H' s => ?_) (fun i D acc G0 x G0' hi f0 hD hacc s y K1 K0 k1 k0 => ?_) (fun D acc J0 hD f0 hacc s => ?_)
    · obtain ⟨es1, rfl, l, h2⟩ := s
      have := l.len
      rw [List.length_map, List.length_range] at this
      rw [List.length_map]
      omega
    · obtain ⟨rfl, rfl⟩ := y
      obtain ⟨es1, rfl, lge, _⟩ := s
      have e0 : (0 : Int) + (i : Int) = (i : Int) := by omega
      show gName _ (V.int ((0 : Int) + (i : Int))) _ _ _
      rw [e0]
      refine ⟨rfl, yes_go ⟨_, rfl, _, rfl, n, i, rfl, hi, hn, fun a4 G4 f4 g4 => ?_⟩⟩
      refine k1 _ G4 f4 ⟨es1 ++ [a4], by rw [List.map_append]; rfl, ?_, by omega⟩
      rw [List.range_succ, List.map_append]
      exact ((lge.ex f4).push (f := iL) g4).mut (f4 _ _ hacc)
    · obtain ⟨es1, rfl, lge, _⟩ := s
      refine ⟨D, _, rfl, .inl ⟨sq_of hacc, fun t o ht ho => ⟨by show 3 ≤ sizeLine; decide, fun t3 o3 ht3 ho3 => ?_⟩⟩⟩
      have et := Ex.new (o := .frz o (.tup (es1.map V.ref))) ht
      have et3 := Ex.new (o := .frz o3 (.tup [V.int (q : Int), V.int (n : Int), V.ref t])) ht3
      exact k t3 _ (f0.trans (et.trans et3)) ⟨t, Tp.of ho3 upd_same, es1, (Tp.of ho upd_same).ex et3, lge.ex (et.trans et3)⟩
theorem ok_walked (F : FnP K "walked" s_walked f fd) (Z : Zs mg) (G_nought_row : Fn P w K mg base CX0 1 "nought_row" s_nought_row ["length"] (spNought K)) (G_added : Fn P w K mg base CX0 1 "added" s_added ["letters", "one", "other"] (spComb K 1)) : FnOk P w K mg base CX0 2 f fd ["code"] (spWalked K) := by
  refine F.ok sc_walked (fun vs H Q E h => ?_) (fun cdv A outer s H vs Q E hr h => ⟨_, PSs.nox (pss_cons (ps_asg (pv 0) (pg_tup rfl (pgs_cons (pg_name (i := 1) sc_walked.nd rfl (by first | exact Or.inl rfl | exact Or.inr rfl)) (pgs_cons (pg_name (i := 2) sc_walked.nd rfl (by first | exact Or.inl rfl | exact Or.inr rfl)) (pgs_cons (pg_name (i := 3) sc_walked.nd rfl (by first | exact Or.inl rfl | exact Or.inr rfl)) pgs_nil)))))
  (pss_cons (ps_set (i := 4) sc_walked.nd rfl (by first | exact Or.inl rfl | exact Or.inr rfl) (pe_lst (pa_cons (pe_callF G_nought_row (hr.mono (by decide)) rfl pass0 (pa_cons (pv 2) pa_nil)) pa_nil)))
  (pss_cons (ps_for PassesOwn.never rfl (RT.pi_revA (by rfl) Z.reversed (pv 3)) (pg_name (i := 5) sc_walked.nd rfl (by first | exact Or.inl rfl | exact Or.inr rfl)) (pss_cons (ps_set (i := 6) sc_walked.nd rfl (by first | exact Or.inl rfl | exact Or.inr rfl) (pv 4))
  (pss_one (ps_for PassesOwn.never rfl (pi_range2 (by rfl) Z.range (pa_cons pe_int (pa_cons (pv 1) pa_nil))) (pg_name (i := 7) sc_walked.nd rfl (by first | exact Or.inl rfl | exact Or.inr rfl)) (pss_cons (ps_setLc (i := 6) (own := [("word", 8)]) (g := (gName 8)) rfl sc_walked.nd rfl rfl (sw_true rfl rfl rfl (by decide +kernel)) (pi_list (pv 6)) (blkOk_by (own := [("word", 8)]) (N := ["code", "letters", "length", "rows", "found", "row", "more", "turn", "word"]) (sc := defScope s_walked) (by decide +kernel)) (fun _ _ _ _ _ => (pg_name (i := 8) sc_walked.nd rfl (Or.inl rfl))) (fun _ _ _ _ _ => pts_nil) (fun _ _ _ _ _ => (pe_callF G_added (hr.mono (by decide)) rfl pass0 (pa_cons (pv 1) (pa_cons (pv 5) (pa_cons (pv 8) pa_nil))))))
  (pss_one (ps_set (i := 4) sc_walked.nd rfl (by first | exact Or.inl rfl | exact Or.inr rfl) (pe_op op_cat (pv 4) (pv 6)))))))))
  (pss_one (ps_ret (pv 4)))))), ?_⟩)
  · obtain ⟨p, q, n, rows, rfl, _⟩ := h
    rfl
  · obtain ⟨p, q, n, rows, rfl, ⟨r, hp, es, hes, lg⟩, co, few, k⟩ := h
    have el := lg.len
    have n1 := co.n1
    have q0 := co.q0
    have q1 := co.q1
    have rf := co.few
    have s4 : (4000 : Nat) ≤ sizeLine := by decide
    refine ⟨_, rfl, p, _, rfl, hp.sq, rfl, _, _, rfl, _, _, rfl, _, _, rfl, rfl, ?_⟩
    refine ⟨_, rfl, n, rfl, by omega, fun z H1 e1 h1 => ⟨by show 1 ≤ sizeLine; omega, fun L hL => ?_⟩⟩
    have eL := e1.trans (Ex.new (o := .lst [V.ref z]) hL)
    have l1 : LstG iL K (upd H1 L (.lst [V.ref z])) [z] (wordsF q n []) := LstG.nil.push (f := iL) (h1.ex (Ex.new hL))
    have hL1 : upd H1 L (.lst [V.ref z]) L = some (.lst (([z] : List Addr).map V.ref)) := upd_same
    generalize upd H1 L (.lst [V.ref z]) = H2 at eL l1 hL1 ⊢
    refine ⟨_, rfl, r, _, rfl, .inr ⟨(hes.ex eL).sq, for_it walk_revT (fun i σ H' => Ex H H' ∧ ∃ L es' v5 v6 v7, H' L = some (.lst (es'.map V.ref)) ∧ LstG iL K H' es' (wordsF q n (rows.reverse.take i)) ∧ σ = [some (.ref p), some (.int (q : Int)), some (.int (n : Int)), some (.ref r), some (.ref L), v5, v6, v7, none])
      ⟨eL, L, [z], none, none, none, hL1, l1, rfl⟩ (fun i σ H' _ h => (hes.ex h.1).sq) (fun i x σ H' H'' hi h y => ?_) (fun σ H' h => ?_)⟩⟩
    · obtain ⟨ex, L2, es', v5, v6, v7, hL', lg', rfl⟩ := h
      obtain ⟨rfl, g⟩ := y
      rw [List.length_map] at hi g
      obtain ⟨e, one, rfl, ge, gr, te⟩ := (lg.ex ex).get g
      have rm := List.mem_of_getElem? gr
      have oo := co.ok one rm
      have gi : rows.reverse[i]? = some one := by
        rw [List.getElem?_reverse (by omega), ← el, gr]
      have tk : rows.reverse.take (i + 1) = rows.reverse.take i ++ [one] := by rw [List.take_add_one, gi]; rfl
      have wok : ∀ w ∈ wordsF q n (rows.reverse.take i), RowOk q n w := fun w hw => ((words_sp (by omega) _ (fun r hr => co.ok r (List.mem_reverse.mp (List.mem_of_mem_take hr))) w).mp hw).ok (by omega)
      have wl : (wordsF q n (rows.reverse.take i)).length ≤ 1000 := by
        rw [words_len]
        refine Nat.le_trans (Nat.pow_le_pow_right (by omega) ?_) few
        rw [List.length_take, List.length_reverse]
        omega
      rw [tk, words_snoc]
      have fold : ((List.range q).flatMap fun m : Nat => (wordsF q n (rows.reverse.take i)).map fun w => plusF q w one (m : Int)) = wordsM q (wordsF q n (rows.reverse.take i)) one q := rfl
      rw [fold]
      clear fold
      generalize wordsF q n (rows.reverse.take i) = ws at lg' wok wl ⊢
      have l0 := lg'.len
      refine ⟨_, rfl, _, rfl, _, _, rfl, ⟨by omega, by omega, by omega, by omega⟩, ?_⟩
      have eq1 : ((q : Int) - 1).toNat = q - 1 := by omega
      rw [eq1]
      have m0 : (ws.map fun w => plusF q w one ((0 : Nat) : Int)) = ws := by
        rw [List.map_congr_left (fun w hw => plus_zero (row := one) (wok w hw) oo.1)]
        exact List.map_id' _
      refine for_range (lo := 1) (n := q - 1) (fun j σ H' => Ex H H' ∧ ∃ L3 es3 M es4 v7, H' L3 = some (.lst (es3.map V.ref)) ∧ LstG iL K H' es3 (wordsM q ws one (j + 1)) ∧ H' M = some (.lst (es4.map V.ref)) ∧ LstG iL K H' es4 (ws.map fun w => plusF q w one (j : Int)) ∧ σ = [some (.ref p), some (.int (q : Int)), some (.int (n : Int)), some (.ref r), some (.ref L3), some (.ref e), some (.ref M), v7, none])
        ⟨ex, L2, es', L2, es', v7, hL', ?_, hL', ?_, rfl⟩ (fun j σ H3 hj h => ?_) (fun σ H3 h => ?_)
      · rw [wordsM_succ]
        show LstG iL K _ _ ([] ++ _)
        rw [List.nil_append, m0]
        exact lg'
      · rw [m0]
        exact lg'
      · obtain ⟨ex3, L3, es3, M, es4, v7, hL3, l3, hM, l4, rfl⟩ := h
        have hes3 := hM
        have l4l := l4.len
        have l3l := l3.len
        rw [List.length_map] at l4l
        rw [wordsM_len] at l3l
        have te3 : Tp K H3 e (iL one) := (lg.ex ex3).at_ _ _ _ ge gr
        refine ⟨_, rfl, M, rfl, ⟨_, sq_of hM⟩, lcX (fun i acc H' => ∃ es, acc = es.map V.ref ∧ LstG iL K H' es ((ws.take i).map fun w => plusF q w one ((j + 1 : Nat) : Int)) ∧ i ≤ ws.length) (walk_list (xs := es4.map V.ref)) (fun D _ => ⟨[], rfl, LstG.nil, by omega⟩) (fun H' q => sq_of (q _ _ hM)) (fun i acc H' s => ?_) (fun i D acc G0 x G0' hi f0 hD hacc s y K1 K0 k1 k0 => ?_) (fun D acc J0 hD f0 hacc s => ?_)⟩
        · obtain ⟨es1, rfl, l, h2⟩ := s
          have := l.len
          rw [List.length_map, List.length_take] at this
          rw [List.length_map]
          omega
        · obtain ⟨rfl, g⟩ := y
          obtain ⟨es1, rfl, lge, _⟩ := s
          obtain ⟨z2, r2, rfl, ge2, gr2, tz⟩ := (l4.ex f0).get g
          rw [List.getElem?_map] at gr2
          cases gw : ws[i]? with
          | none =>
            rw [gw] at gr2
            cases gr2
          | some wd =>
            rw [gw] at gr2
            cases gr2
            have wo := wok wd (List.mem_of_getElem? gw)
            have il : i < ws.length := (List.getElem?_eq_some_iff.mp gw).1
            refine ⟨rfl, yes_go ⟨_, rfl, _, rfl, _, rfl, q, n, e, z2, one, _, rfl, te3.ex f0, tz, by omega, q0, q1, oo.1, by rw [plusF_len]; exact wo.1, fun a4 G4 f4 g4 => ?_⟩⟩
            rw [plus_one_more (by omega) wo oo] at g4
            refine k1 _ G4 f4 ⟨es1 ++ [a4], by rw [List.map_append]; rfl, ?_, by omega⟩
            rw [List.take_add_one, gw, List.map_append]
            exact ((lge.ex f4).push (f := iL) g4).mut (f4 _ _ hacc)
        · obtain ⟨es1, rfl, lge, _⟩ := s
          rw [List.length_map, l4l, List.take_length] at lge
          have lel := lge.len
          rw [List.length_map] at lel
          have jb : (j + 1) * ws.length ≤ 3 * 1000 := Nat.mul_le_mul (by omega) wl
          refine ⟨_, rfl, _, rfl, L3, D, _, _, rfl, rfl, f0 _ _ hL3, hacc, by rw [List.length_map, List.length_map]; omega, fun N hN => ?_⟩
          have eN := Ex.new (o := .lst (es3.map V.ref ++ es1.map V.ref)) hN
          refine ⟨ex3.trans (f0.trans eN), N, es3 ++ es1, D, es1, _, by rw [List.map_append]; exact upd_same, ?_, eN _ _ hacc, lge.ex eN, rfl⟩
          rw [wordsM_succ]
          exact ((l3.ex f0).ex eN).app (lge.ex eN)
      · obtain ⟨ex3, L3, es3, M, es4, v7, hL3, l3, hM, l4, rfl⟩ := h
        rw [show q - 1 + 1 = q by omega] at l3
        exact ⟨ex3, L3, es3, _, _, _, hL3, l3, rfl⟩
    · obtain ⟨ex, L2, es', v5, v6, v7, hL', lg', rfl⟩ := h
      rw [List.length_map, el, List.take_of_length_le (by rw [List.length_reverse]; omega)] at lg'
      exact ⟨_, rfl, k L2 es' H' ex hL' lg'⟩
theorem ok_words (F : FnP K "words" s_words f fd) (Z : Zs mg) (G_walked : Fn P w K mg base CX0 2 "walked" s_walked ["code"] (spWalked K)) : FnOk P w K mg base CX0 3 f fd ["code"] (spWords K) := by
  refine F.ok sc_words (fun vs H Q E h => ?_) (fun cdv A outer s H vs Q E hr h => ⟨_, PSs.nox (pss_one (ps_ret (pe_callTy (kc_tuple (K := K)) (by rfl) Z.tuple (by decide +kernel) (pa_cons (pe_callF G_walked (hr.mono (by decide)) rfl pass0 (pa_cons (pv 0) pa_nil)) pa_nil)))), ?_⟩)
  · obtain ⟨p, q, n, rows, rfl, _⟩ := h
    rfl
  · obtain ⟨p, q, n, rows, rfl, tc, co, few, k⟩ := h
    refine ⟨_, rfl, p, q, n, rows, rfl, tc, co, few, fun D es H1 e1 hD lg => ?_⟩
    refine ⟨D, _, rfl, .inl ⟨sq_of hD, fun t o ht ho => ?_⟩⟩
    have et := Ex.new (o := .frz o (.tup (es.map V.ref))) ht
    exact k t _ (e1.trans et) ⟨es, Tp.of ho upd_same, lg.ex et⟩
end
end K47

namespace K47
open PySem PySem.Spec PyProof.Rows L2 Evl Own
def spLeading (K : PySem.W.Frag) : Sp := fun vs H Q _ => ∃ (s : Srt) (p t : Addr) (n : Nat) (rows : List (List Int)) (w : List Int), vs = [.str s.s, .ref p, .ref t] ∧ TpC K H p s.q n rows ∧ IsOwn s n rows ∧ n ≤ 24 ∧ Tp K H t (iL w) ∧ RowOk s.q rows.length w ∧ Ended w ∧
  ∀ (D : Addr) (es : List Addr) (H' : Hp), Ex H H' → H D = none → H' D = some (.lst (es.map V.ref)) → LstG iL K H' es ((msF s n rows w).map fun m => candF s n rows w m) → Q (.ref D) H'
/-- the tuple of some codes -/
def TpCs (K : PySem.W.Frag) (H : Hp) (t : Addr) (q n : Nat) (cs : List (List (List Int))) : Prop := ∃ es, Tp K H t (es.map V.ref) ∧ LstR (fun e r => TpC K H e q n r) es cs
theorem TpCs.ex {K : PySem.W.Frag} {H H1 : Hp} {t : Addr} {q n : Nat} {cs : List (List (List Int))} (h : TpCs K H t q n cs) (e : Ex H H1) : TpCs K H1 t q n cs := by
  obtain ⟨es, h1, h2⟩ := h
  exact ⟨es, h1.ex e, h2.imp fun _ _ h => h.ex e⟩
/-- a code that is none of the sort, or no sort -/
def NoSort (z : Str) (q n : Nat) (rows : List (List Int)) : Prop := z ∉ dSTEPS.map (·.1) ∨ ∃ s : Srt, z = s.s ∧ ofSortB s q n rows = false
def spNeighs (K : PySem.W.Frag) (C : Addr) : Sp := fun vs H Q E => ∃ (z : Str) (p : Addr) (q n : Nat) (rows : List (List Int)), vs = [.str z, .ref p] ∧ TpC K H p q n rows ∧ CodeOk q n rows ∧
  ((NoSort z q n rows ∧ ∀ H', Ex H H' → RaisesW C "sort" H' E) ∨ ∃ s : Srt, z = s.s ∧ q = s.q ∧ IsOwn s n rows ∧ n ≤ 24 ∧ s.q ^ rows.length ≤ 1000 ∧ ∀ (t : Addr) (H' : Hp), Ex H H' → TpCs K H' t s.q n (nbsF s n rows) → Q (.ref t) H')
theorem hu65 {A : Around} {k : Nat} (hr : Room k A) : A.units + 65 < cLine := by
  have := hr.un
  omega
theorem flat_rep : ∀ n : Nat, (List.replicate n [V.int 0]).flatten = List.replicate n (V.int 0)
  | 0 => rfl
  | n + 1 => by
    rw [List.replicate_succ, List.flatten_cons, flat_rep n]
    rfl
theorem fitB_iff {s : Srt} {row : List Int} : fitB s row = true ↔ fitW s row := by
  unfold fitB fitW
  rw [decide_eq_true_eq]
section
variable {P : Program} {w : World} {K : PySem.W.Frag} {mg : Str → Option Value} {base : Heap} {f : Addr} {fd : FuncData}
theorem ok_leading_rows (F : FnP K "leading_rows" s_leading_rows f fd) (Z : Zs mg) (G_first_place : Fn P w K mg base CX0 1 "first_place" s_first_place ["row"] (spFirst K)) (G_plus_times : Fn P w K mg base CX0 1 "plus_times" s_plus_times ["letters", "one", "other", "many"] (spPlus K)) (G_weight : Fn P w K mg base CX0 1 "weight" s_weight ["row"] (spWeight K)) (G_is_fitting : Fn P w K mg base CX0 2 "is_fitting" s_is_fitting ["sort", "row"] (spIsFit K)) :
    FnOk P w K mg base CX0 3 f fd ["sort", "code", "worths"] (spLeading K) := by
  refine F.ok sc_leading_rows (fun vs H Q E h => ?_) (fun cdv A outer s H vs Q E hr h => ⟨_, PSs.nox (pss_cons (ps_asg (pv 1) (pg_tup rfl (pgs_cons (pg_name (i := 3) sc_leading_rows.nd rfl (by first | exact Or.inl rfl | exact Or.inr rfl)) (pgs_cons (pg_name (i := 4) sc_leading_rows.nd rfl (by first | exact Or.inl rfl | exact Or.inr rfl)) (pgs_cons (pg_name (i := 5) sc_leading_rows.nd rfl (by first | exact Or.inl rfl | exact Or.inr rfl)) pgs_nil)))))
  (pss_cons (ps_set (i := 6) sc_leading_rows.nd rfl (by first | exact Or.inl rfl | exact Or.inr rfl) (pe_op op_rep (pe_lst (pa_cons pe_int pa_nil)) (pv 4)))
  (pss_cons (ps_set (i := 7) sc_leading_rows.nd rfl (by first | exact Or.inl rfl | exact Or.inr rfl) pe_int)
  (pss_cons (ps_for PassesOwn.never rfl (pi_enumB (by rfl) Z.enumerate (pa_cons (pv 2) pa_nil)) (pg_tup rfl (pgs_cons (pg_name (i := 8) sc_leading_rows.nd rfl (by first | exact Or.inl rfl | exact Or.inr rfl)) (pgs_cons (pg_name (i := 9) sc_leading_rows.nd rfl (by first | exact Or.inl rfl | exact Or.inr rfl)) pgs_nil))) (pss_one (ps_if (pt_cmpR op_ne (pv 9) pe_int (nomark _)) (pss_cons (ps_asg (pv 9) (pg_sub (pv 6) (pe_callF G_first_place (hr.mono (by decide)) rfl pass0 (pa_cons (pe_ix (kx_tup (K := K)) (pv 5) (pv 8) (fun _ _ => rfl)) pa_nil)) set_list))
  (pss_one (ps_set (i := 7) sc_leading_rows.nd rfl (by first | exact Or.inl rfl | exact Or.inr rfl) (pv 8)))) pss_nil)))
  (pss_cons (ps_set (i := 10) sc_leading_rows.nd rfl (by first | exact Or.inl rfl | exact Or.inr rfl) (pe_callTy (kc_tuple (K := K)) (by rfl) Z.tuple (by decide +kernel) (pa_cons (pv 6) pa_nil)))
  (pss_cons (ps_if (pt_cmpR op_eq (pv 3) pe_int (nomark _)) (pss_one (ps_ret (pe_lst (pa_cons (pe_callF G_plus_times (hr.mono (by decide)) rfl pass0 (pa_cons pe_int (pa_cons (pv 10) (pa_cons (pe_ix (kx_tup (K := K)) (pv 5) (pv 7) (fun _ _ => rfl)) (pa_cons (pe_callF G_weight (hr.mono (by decide)) rfl pass0 (pa_cons (pv 10) pa_nil)) pa_nil))))) pa_nil)))) pss_nil)
  (pss_cons (ps_set (i := 11) sc_leading_rows.nd rfl (by first | exact Or.inl rfl | exact Or.inr rfl) (pe_lst (pa_cons (pv 10) (pa_cons (pe_callF G_plus_times (hr.mono (by decide)) rfl pass0 (pa_cons pe_int (pa_cons (pv 10) (pa_cons (pe_ix (kx_tup (K := K)) (pv 5) (pv 7) (fun _ _ => rfl)) (pa_cons pe_int pa_nil))))) pa_nil))))
  (pss_one (ps_ret (pe_lc (own := [("one", 12)]) (g := (gName 12)) rfl sc_leading_rows.nd (pi_list (pv 11)) (blkOk_by (own := [("one", 12)]) (N := ["sort", "code", "worths", "letters", "length", "rows", "row", "last", "at", "told", "plain", "both", "one"]) (sc := defScope s_leading_rows) (by decide +kernel)) (fun _ _ _ _ _ => (pg_name (i := 12) sc_leading_rows.nd rfl (Or.inl rfl))) (fun _ _ _ _ _ => (pts_one (pt_val (pe_callF G_is_fitting (hr.mono (by decide)) rfl pass0 (pa_cons (pv 0) (pa_cons (pv 12) pa_nil)))))) (fun _ _ _ _ _ => (pv 12)))))))))))), ?_⟩)
  · obtain ⟨s, p, t, n, rows, w, rfl, _⟩ := h
    rfl
  · obtain ⟨s, p, t, n, rows, wd, rfl, ⟨r, hp, es, hes, lg⟩, io, hn, ht, ow, ed, k⟩ := h
    have el := lg.len
    have q23 := s.q_le
    have q0 := s.q_pos
    have half := io.half
    have il : lastF wd < rows.length := by rw [← ow.1]; exact ed.last.1.1
    have s1 : (1000 : Nat) ≤ sizeLine := by decide
    unfold iL at ht
    refine ⟨_, rfl, p, _, rfl, hp.sq, rfl, _, _, rfl, _, _, rfl, _, _, rfl, rfl, ?_⟩
    refine ⟨by show 1 ≤ sizeLine; omega, fun L0 hL0 => ⟨_, rfl, L0, _, _, rfl, rfl, upd_same, by omega, by omega, by show 1 * _ ≤ sizeLine; omega, fun L hL => ?_⟩⟩
    have eL := (Ex.new (o := .lst [V.int 0]) hL0).trans (Ex.new (o := .lst (List.replicate (n : Int).toNat [V.int 0]).flatten) hL)
    have HL : H L = none := fresh_back (Ex.new (o := .lst [V.int 0]) hL0) hL
    have hL1 : upd (upd H L0 (.lst [V.int 0])) L (.lst (List.replicate (n : Int).toNat [V.int 0]).flatten) L = some (.lst ((uP n rows wd 0).map V.int)) := by
      rw [upd_same]
      congr 2
      show _ = (List.replicate n (0 : Int)).map V.int
      rw [Int.toNat_natCast, List.map_replicate]
      exact flat_rep n
    generalize upd (upd H L0 (.lst [V.int 0])) L (.lst (List.replicate (n : Int).toNat [V.int 0]).flatten) = H1 at eL hL1 ⊢
    refine ⟨_, rfl, t, true, _, rfl, sqb_t (ht.ex eL), for_it walk_enumB (fun i σ H' => Ex H H' ∧ i ≤ rows.length ∧ H' L = some (.lst ((uP n rows wd i).map V.int)) ∧ ∃ v8 v9, σ = [some (.str s.s), some (.ref p), some (.ref t), some (.int (s.q : Nat)), some (.int (n : Int)), some (.ref r), some (.ref L), some (.int (((List.range i).foldl (fun l i => if wd.getD i 0 ≠ 0 then i else l) 0 : Nat) : Int)), v8, v9, none, none, none])
      ⟨eL, by omega, hL1, none, none, rfl⟩ (fun i σ H' _ h => sqb_t (ht.ex h.1)) (fun i x σ H' H'' hi h y => ?_) (fun σ H' h => ?_)⟩
    · obtain ⟨ex, ib, hL', v8, v9, rfl⟩ := h
      obtain ⟨T, x1, rfl, nT, rfl, g⟩ := y
      obtain ⟨rfl, il'⟩ := int_at g
      have iw : i < wd.length := il'
      have ir : i < rows.length := by rw [← ow.1]; exact iw
      have eT := Ex.new (o := .tup [.int (i : Nat), .int (wd.getD i 0)]) nT
      refine ⟨T, _, rfl, .inl (.inl upd_same), rfl, _, _, rfl, _, _, rfl, rfl, ?_⟩
      replace ex := ex.trans eT
      replace hL' := eT _ _ hL'
      generalize upd H' T (.tup [.int (i : Nat), .int (wd.getD i 0)]) = H4 at ex hL' ⊢
      have st : (List.range (i + 1)).foldl (fun l i => if wd.getD i 0 ≠ 0 then i else l) 0 = if wd.getD i 0 ≠ 0 then i else (List.range i).foldl (fun l i => if wd.getD i 0 ≠ 0 then i else l) 0 := by
        rw [List.range_succ, List.foldl_append]
        rfl
      have le : es[i]? = some es[i] := List.getElem?_eq_getElem (by omega)
      have lre : rows[i]? = some rows[i] := List.getElem?_eq_getElem ir
      have te := (lg.at_ _ _ _ le lre).ex ex
      have fo := io.red.fst _ (List.getElem_mem ir)
      have oo := io.red.ok _ (List.getElem_mem ir)
      have ul := uP_len (n := n) (rows := rows) (w := wd) i
      refine ⟨_, rfl, rfl, _, rfl, ?_⟩
      rw [dec_int, st, uP_succ, getD_row ir]
      by_cases c : wd.getD i 0 = 0
      · rw [c, if_neg (by simp), if_neg (by simp)]
        exact iteF ⟨ex, by omega, hL', _, _, rfl⟩
      · rw [beq_eq_false_iff_ne.mpr c, if_pos c, if_pos c]
        refine iteT ⟨_, rfl, _, rfl, _, rfl, _, rfl, r, _, _, .ref es[i], rfl, rfl, (hes.ex ex).sq, atI_nat (by rw [List.getElem?_map, le]; rfl), es[i], rows[i], rfl, te, by rw [oo.1]; omega, L, _, _, firstF rows[i], rfl, rfl, hL', ixN_nat (by rw [List.length_map, ul]; exact fo.1), ?_⟩
        rw [int_set]
        exact ⟨_, rfl, ex_side ex HL, by omega, upd_same, _, _, rfl⟩
    · obtain ⟨ex, ib, hL', v8, v9, rfl⟩ := h
      have lfe : (List.range (List.map V.int wd).length).foldl (fun l i => if wd.getD i 0 ≠ 0 then i else l) 0 = lastF wd := by
        rw [List.length_map]
        rfl
      rw [lfe]
      rw [List.length_map, ow.1] at hL'
      replace hL' : H' L = some (.lst (iL (uF n rows wd))) := hL'
      refine ⟨_, rfl, L, _, rfl, .inl ⟨sq_of hL', fun t2 o2 ht2 ho2 => ?_⟩⟩
      have e2 := ex.trans (Ex.new (o := .frz o2 (.tup (iL (uF n rows wd)))) ht2)
      have tu : Tp K (upd H' t2 (.frz o2 (.tup (iL (uF n rows wd))))) t2 (iL (uF n rows wd)) := Tp.of ho2 upd_same
      generalize upd H' t2 (.frz o2 (.tup (iL (uF n rows wd)))) = H5 at e2 tu ⊢
      have uo := uF_ok q0 io.red ow
      have le : es[lastF wd]? = some es[lastF wd] := List.getElem?_eq_getElem (by omega)
      have lre : rows[lastF wd]? = some rows[lastF wd] := List.getElem?_eq_getElem il
      have te := (lg.at_ _ _ _ le lre).ex e2
      have oo := io.red.ok _ (List.getElem_mem il)
      have hes5 := hes.ex e2
      have cF : ∀ m : Nat, candF s n rows wd m = plusF s.q (uF n rows wd) rows[lastF wd] (m : Int) := fun m => by
        unfold candF candR
        rw [getD_row il]
      have c0 : candF s n rows wd 0 = uF n rows wd := by
        rw [cF]
        exact plus_zero uo oo.1
      refine ⟨_, rfl, rfl, _, rfl, ?_⟩
      by_cases s3 : s = .three
      · subst s3
        have wu := uF_weight (n := n) (w := wd) io.red ow.1
        have wle : weightF wd ≤ wd.length := by unfold weightF; omega
        have owl := ow.1
        refine iteT ⟨_, rfl, _, rfl, _, rfl, r, _, _, .ref es[lastF wd], rfl, rfl, hes5.sq, atI_nat (by rw [List.getElem?_map, le]; rfl), _, rfl, t2, _, rfl, tu, 3, n, t2, es[lastF wd], _, rows[lastF wd], _, rfl, tu, te, by omega, by omega, by omega, uo.1, oo.1, by omega, by omega, fun l H6 e6 hl => ⟨by show 1 ≤ sizeLine; omega, fun D hD => ?_⟩⟩
        have eD := Ex.new (o := .lst [V.ref l]) hD
        refine k D [l] _ (e2.trans (e6.trans eD)) (fresh_back (e2.trans e6) hD) upd_same ?_
        rw [ms_three io ow ed]
        refine LstG.nil.push (f := iL) (x := candF .three n rows wd (weightF wd % 3)) ?_
        rw [cF, ← plus_mod (by rw [uo.1, oo.1])]
        rw [wu, ← plus_mod (by rw [uo.1, oo.1])] at hl
        have em : ((weightF wd % 3 : Nat) : Int) % ((Srt.q .three : Nat) : Int) = ((weightF wd : Nat) : Int) % ((3 : Nat) : Int) := by
          show ((weightF wd % 3 : Nat) : Int) % (3 : Int) = ((weightF wd : Nat) : Int) % (3 : Int)
          omega
        rw [em]
        exact hl.ex eD
      · have q2 : s.q = 2 := by cases s <;> simp [Srt.q] at s3 ⊢
        have d3 : decide (V.int ((s.q : Nat) : Int) = V.int 3) = false := by rw [q2]; rfl
        rw [d3]
        refine iteF ?_
        refine ⟨_, rfl, _, rfl, _, rfl, _, rfl, r, _, _, .ref es[lastF wd], rfl, rfl, hes5.sq, atI_nat (by rw [List.getElem?_map, le]; rfl), 2, n, t2, es[lastF wd], _, rows[lastF wd], 1, rfl, tu, te, by omega, by omega, by omega, uo.1, oo.1, by omega, by omega, fun l H6 e6 hl => ⟨by show 2 ≤ sizeLine; omega, fun B hB => ?_⟩⟩
        have eB := Ex.new (o := .lst [V.ref t2, V.ref l]) hB
        have hB7 : upd H6 B (.lst [V.ref t2, V.ref l]) B = some (.lst ([t2, l].map V.ref)) := upd_same
        have c1 : candF s n rows wd 1 = plusF 2 (uF n rows wd) rows[lastF wd] 1 := by
          rw [cF, q2]
          rfl
        have l7 : LstG iL K (upd H6 B (.lst [V.ref t2, V.ref l])) [t2, l] [candF s n rows wd 0, candF s n rows wd 1] := by
          rw [c0, c1]
          exact (LstG.nil.push (f := iL) (tu.ex (e6.trans eB))).push (f := iL) (hl.ex eB)
        have e7 := e2.trans (e6.trans eB)
        generalize upd H6 B (.lst [V.ref t2, V.ref l]) = H7 at hB7 l7 e7 ⊢
        have ms : ∀ i, (List.range (i + 1)).filter (fun m => decide (fitW s (candF s n rows wd m))) = (List.range i).filter (fun m => decide (fitW s (candF s n rows wd m))) ++ if fitW s (candF s n rows wd i) then [i] else [] := fun i => by
          rw [List.range_succ, List.filter_append, List.filter_cons]
          by_cases c : fitW s (candF s n rows wd i)
          · rw [if_pos (decide_eq_true c), if_pos c]
            rfl
          · rw [if_neg (by simpa using c), if_neg c]
            rfl
        refine ⟨_, rfl, B, rfl, ⟨_, sq_of hB7⟩, lcX (fun i acc H' => ∃ es, acc = es.map V.ref ∧ LstG iL K H' es (((List.range i).filter (fun m => decide (fitW s (candF s n rows wd m)))).map fun m => candF s n rows wd m) ∧ es.length ≤ i ∧ i ≤ 2) (walk_list (xs := [t2, l].map V.ref)) (fun D _ => ⟨[], rfl, LstG.nil, by simp, by omega⟩) (fun H' q => sq_of (q _ _ hB7)) (fun i acc H' s => ?_) (fun i D acc G0 x G0' hi f0 hD hacc st y K1 K0 k1 k0 => ?_) (fun D acc J0 hD f0 hacc st => ?_)⟩
        · obtain ⟨es1, rfl, l, h2, _⟩ := s
          rw [List.length_map]
          omega
        · obtain ⟨rfl, g⟩ := y
          obtain ⟨es1, rfl, lge, lb, _⟩ := st
          have i2 : i < 2 := hi
          obtain ⟨z, r3, rfl, ge, gr, tz⟩ := (l7.ex f0).get g
          have er : r3 = candF s n rows wd i := by
            have : i = 0 ∨ i = 1 := by omega
            rcases this with rfl | rfl
            · cases gr
              rfl
            · cases gr
              rfl
          subst er
          refine ⟨rfl, _, rfl, _, rfl, s, z, _, rfl, tz, _, rfl, ?_⟩
          have m1 := ms i
          cases c : fitB s (candF s n rows wd i) with
          | true =>
            rw [if_pos (fitB_iff.mp c)] at m1
            refine ⟨_, rfl, k1 _ _ (Ex.refl _) ⟨es1 ++ [z], by rw [List.map_append]; rfl, ?_, by rw [List.length_append, List.length_singleton]; omega, by omega⟩⟩
            rw [m1, List.map_append]
            exact (lge.push (f := iL) tz).mut hacc
          | false =>
            rw [if_neg (fun h => by rw [fitB_iff.mpr h] at c; cases c), List.append_nil] at m1
            exact k0 _ (Ex.refl _) ⟨es1, rfl, by rw [m1]; exact lge, by omega, by omega⟩
        · obtain ⟨es1, rfl, lge, _⟩ := st
          refine k D es1 J0 (e7.trans f0) (fresh_back e7 hD) hacc ?_
          unfold msF
          rw [q2]
          exact lge
end
end K47

namespace K47
open PySem PySem.Spec PyProof.Rows L2 Evl Own
theorem _root_.Own.TpC.mut {K : PySem.W.Frag} {H : Hp} {p c : Addr} {q n : Nat} {rows : List (List Int)} {ys zs : List V} (h : TpC K H c q n rows) (hp : H p = some (.lst ys)) : TpC K (upd H p (.lst zs)) c q n rows := by
  obtain ⟨r, h1, es, h2, h3⟩ := h
  exact ⟨r, h1.mut hp, es, h2.mut hp, h3.mut hp⟩
theorem ifC {c : TT} {t e : TS} {D : Ends} {σ : L2.St} {H : Hp} (B : Bool) (h : ∀ R : Bool → Hp → Prop, R B H → c σ H R) (k1 : B = true → t D σ H) (k0 : B = false → e D σ H) : tIfS c t e D σ H := by
  refine h _ ?_
  cases B with
  | true => exact iteT (k1 rfl)
  | false => exact iteF (k0 rfl)
theorem pick_of {q : Nat} {wd : List Int} : pickB q wd = (decide (0 < (nzL wd).length) && (decide (wd.getD (lastF wd) 0 = 1) && (q == 3 || (nzL wd).length % 2 == 0))) := by
  unfold pickB Own.condB
  rw [← nzL_len]
  congr 1
  by_cases c : 0 < (nzL wd).length
  · rw [decide_eq_true c, decide_eq_true (nzL_pos c)]
  · rw [decide_eq_false c, decide_eq_false (nzL_nil (by omega))]
section
variable {P : Program} {w : World} {K : PySem.W.Frag} {mg : Str → Option Value} {base : Heap} {f : Addr} {fd : FuncData}
theorem ok_neighbours (F : FnP K "neighbours" s_neighbours f fd) (Z : Zs mg) {CRef M fI : Addr} (X_Refused : PySem.OwXword.OexT P K CRef M fI) (g_Refused : mg "Refused" = some (.ref CRef)) (G_need_sort : Fn P w K mg base (L2.CX P w) 5 "need_sort" s_need_sort ["sort", "codes"] (spNeed K CRef)) (G_dimension : Fn P w K mg base CX0 1 "dimension" s_dimension ["code"] (spCode K fun _ _ rows => .int (rows.length : Nat))) (G_whole_room : Fn P w K mg base CX0 3 "whole_room" s_whole_room ["letters", "length"] (spRoomW K)) (G_words : Fn P w K mg base CX0 3 "words" s_words ["code"] (spWords K)) (G_common_rows : Fn P w K mg base CX0 2 "common_rows" s_common_rows ["letters", "rows", "worths"] (spCommon K))
    (G_leading_rows : Fn P w K mg base CX0 3 "leading_rows" s_leading_rows ["sort", "code", "worths"] (spLeading K)) (G_with_row : Fn P w K mg base CX0 3 "with_row" s_with_row ["letters", "length", "rows", "row"] (spWithRow K)) :
    FnOk P w K mg base (L2.CX P w) 6 f fd ["sort", "code"] (spNeighs K CRef) := by
  refine FunD.ok (CX := L2.CX P w) (k := 5) F sc_neighbours (fun vs H Q E h => ?_) (fun cdv A outer s H vs Q E hr h => ⟨_, by exact (pss_cons (ps_expr (pe_callSF G_need_sort (hr.mono (by decide)) rfl (fun σ => passAt (takes_of rfl rfl rfl rfl) σ) (pa_cons (pv 0) (pa_cons (pe_lst (pa_cons (pv 1) pa_nil)) pa_nil))))
  (pss_cons (ps_asg (pv 1) (pg_tup rfl (pgs_cons (pg_name (i := 2) sc_neighbours.nd rfl (by first | exact Or.inl rfl | exact Or.inr rfl)) (pgs_cons (pg_name (i := 3) sc_neighbours.nd rfl (by first | exact Or.inl rfl | exact Or.inr rfl)) (pgs_cons (pg_name (i := 4) sc_neighbours.nd rfl (by first | exact Or.inl rfl | exact Or.inr rfl)) pgs_nil)))))
  (pss_cons (ps_set (i := 5) sc_neighbours.nd rfl (by first | exact Or.inl rfl | exact Or.inr rfl) (pe_lst pa_nil))
  (pss_cons (ps_for (passes_of rfl) rfl (pi_tup (pe_callF G_words (hr.mono (by decide)) rfl pass0 (pa_cons (pe_callF G_whole_room (hr.mono (by decide)) rfl pass0 (pa_cons (pv 2) (pa_cons (pe_callF G_dimension (hr.mono (by decide)) rfl pass0 (pa_cons (pv 1) pa_nil)) pa_nil))) pa_nil))) (pg_name (i := 6) sc_neighbours.nd rfl (by first | exact Or.inl rfl | exact Or.inr rfl)) (pss_cons (ps_setLc (i := 7) (own := [("one", 8)]) (g := (gName 8)) rfl sc_neighbours.nd rfl rfl (sw_true rfl rfl rfl (by decide +kernel)) (pi_tup (pv 6)) (blkOk_by (own := [("one", 8)]) (N := ["sort", "code", "letters", "length", "rows", "found", "worths", "told", "one", "kept", "row"]) (sc := defScope s_neighbours) (by decide +kernel)) (fun _ _ _ _ _ => (pg_name (i := 8) sc_neighbours.nd rfl (Or.inl rfl))) (fun _ _ _ _ _ => (pts_one (pt_cmpR op_ne (pv 8) pe_int (nomark _)))) (fun _ _ _ _ _ => (pv 8)))
  (pss_one (ps_if (PW.pt (pw_and (pt_cmpR op_gt (pe_callB (kc_len (K := K)) (by rfl) Z.len PySem.boot_len (pa_cons (pv 7) pa_nil)) pe_int (nomark _)) (pw_and (pt_cmpR op_eq (pe_ix (kx_list (K := K)) (pv 7) (pe_un un_neg pe_int) (fun _ _ => rfl)) pe_int (nomark _)) (pw_and1 (PW.pt (pw_or (pt_cmpR op_eq (pv 2) pe_int (nomark _)) (pw_or1 (pt_cmpR op_eq (pe_op op_mod (pe_callB (kc_len (K := K)) (by rfl) Z.len PySem.boot_len (pa_cons (pv 7) pa_nil)) pe_int) pe_int (nomark _))))))))) (pss_cons (ps_set (i := 9) sc_neighbours.nd rfl (by first | exact Or.inl rfl | exact Or.inr rfl) (pe_callF G_common_rows (hr.mono (by decide)) rfl pass0 (pa_cons (pv 2) (pa_cons (pv 4) (pa_cons (pv 6) pa_nil)))))
  (pss_one (ps_for (passes_of rfl) rfl (pi_list (pe_callF G_leading_rows (hr.mono (by decide)) rfl pass0 (pa_cons (pv 0) (pa_cons (pv 1) (pa_cons (pv 6) pa_nil))))) (pg_name (i := 10) sc_neighbours.nd rfl (by first | exact Or.inl rfl | exact Or.inr rfl)) (pss_one (ps_expr (km_bm (K := K) PySem.F.plainAttrs_list PySem.F.slot_list_append PySem.F.type_list_append mt_append (pv 5) (pa_cons (pe_callF G_with_row (hr.mono (by decide)) rfl pass0 (pa_cons (pv 2) (pa_cons (pv 3) (pa_cons (pv 9) (pa_cons (pv 10) pa_nil))))) pa_nil))))))) pss_nil))))
  (pss_one (ps_ret (pe_callTy (kc_tuple (K := K)) (by rfl) Z.tuple (by decide +kernel) (pa_cons (pe_callB (kc_sortedD (K := K) hr.units) (by rfl) Z.sorted (by decide +kernel) (pa_cons (pv 5) pa_nil)) pa_nil)))))))), ?_⟩)
  · obtain ⟨z, p, q, n, rows, rfl, _⟩ := h
    rfl
  · obtain ⟨z, p, q, n, rows, rfl, tc, co, h⟩ := h
    refine ⟨_, rfl, _, rfl, by show 1 ≤ sizeLine; decide, fun L hL => ?_⟩
    have eL := Ex.new (o := .lst [V.ref p]) hL
    refine ⟨z, L, p, q, n, rows, rfl, upd_same, tc.ex eL, co, ?_⟩
    have tc1 := tc.ex eL
    generalize upd H L (.lst [V.ref p]) = H1 at eL tc1 ⊢
    rcases h with ⟨hz | ⟨s, rfl, hs⟩, rs⟩ | ⟨s, rfl, rfl, io, hn, few, k⟩
    · exact .inl ⟨hz, rs H1 eL⟩
    · refine .inr ⟨s, rfl, fun H2 e2 => ?_⟩
      rw [hs, if_neg Bool.false_ne_true]
      exact rs H2 (eL.trans e2)
    · refine .inr ⟨s, rfl, fun H2 e2 => ?_⟩
      rw [io.of_sort, if_pos rfl]
      have ex2 := eL.trans e2
      obtain ⟨r, hp, tr⟩ := id tc
      obtain ⟨es, hes, lg⟩ := id tr
      have q23 := s.q_le
      have qq : s.q = 2 ∨ s.q = 3 := by omega
      have q0 := s.q_pos
      have half := io.half
      have s1 : (4000 : Nat) ≤ sizeLine := by decide
      have el := lg.len
      clear e2 eL tc1 hL
      refine ⟨_, rfl, p, _, rfl, (hp.ex ex2).sq, rfl, _, _, rfl, _, _, rfl, _, _, rfl, rfl, ?_⟩
      refine ⟨by show 0 ≤ sizeLine; omega, fun L5 hL5 => ?_⟩
      have e5 := ex2.trans (Ex.new (o := .lst []) hL5)
      have HL5 : H L5 = none := fresh_back ex2 hL5
      have hL5' : upd H2 L5 (.lst []) L5 = some (.lst (([] : List Addr).map V.ref)) := upd_same
      generalize upd H2 L5 (.lst []) = H5 at e5 hL5' ⊢
      refine ⟨_, rfl, _, rfl, p, s.q, n, rows, rfl, tc.ex e5, co, fun H6 e6 => ?_⟩
      refine ⟨s.q, rows.length, rfl, by omega, fun t7 H7 e7 tc7 => ?_⟩
      have ul : (unitsR rows.length).length = rows.length := by unfold unitsR; rw [List.length_map, List.length_range]
      have ur := units_red (q := s.q) (n := rows.length) (by omega)
      refine ⟨t7, s.q, rows.length, unitsR rows.length, rfl, tc7, ⟨by omega, by omega, by omega, by omega, ur.ok⟩, by rw [ul]; exact few, fun t8 H8 e8 tr8 => ?_⟩
      obtain ⟨es8, hes8, lg8⟩ := tr8
      have wlen : (wordsF s.q rows.length (unitsR rows.length).reverse).length ≤ 1000 := by rw [words_len, List.length_reverse, ul]; exact few
      have wok : ∀ x ∈ wordsF s.q rows.length (unitsR rows.length).reverse, RowOk s.q rows.length x := fun x hx => (((words_sp q0 _ (fun r hr => ur.ok r (List.mem_reverse.mp hr))) x).mp hx).ok q0
      have pw : progW s.q rows.length = (wordsF s.q rows.length (unitsR rows.length).reverse).filter (pickB s.q) := rfl
      generalize wordsF s.q rows.length (unitsR rows.length).reverse = W at lg8 wlen wok pw
      have l8 := lg8.len
      have e58 := e6.trans (e7.trans e8)
      refine ⟨t8, rfl, ⟨_, hes8.sq⟩, for_it walk_tup (fun i σ H' => Ex H H' ∧ Tp K H' t8 (es8.map V.ref) ∧ LstG iL K H' es8 W ∧ ∃ fs v6 v7 v9 v10, H' L5 = some (.lst (fs.map V.ref)) ∧ LstR (fun e r => TpC K H' e s.q n r) fs (codesOf s n rows ((W.take i).filter (pickB s.q))) ∧ fs.length ≤ 3 * i ∧ σ = [some (.str s.s), some (.ref p), some (.int (s.q : Nat)), some (.int (n : Int)), some (.ref r), some (.ref L5), v6, v7, none, v9, v10])
        ⟨e5.trans e58, hes8, lg8, [], none, none, none, none, e58 _ _ hL5', LstR.nil, by simp, rfl⟩ (fun i σ H' _ h => h.2.1.sq) (fun i x σ H' H'' hi h y => ?_) (fun σ H' h => ?_)⟩
      · obtain ⟨ex, tx8, lx8, fs, v6, v7, v9, v10, hL', lr, fl, rfl⟩ := h
        obtain ⟨rfl, g⟩ := y
        obtain ⟨et, wd, rfl, ge, gr, tw⟩ := lx8.get g
        have wm := List.mem_of_getElem? gr
        have ow := wok wd wm
        have il : i < W.length := (List.getElem?_eq_some_iff.mp gr).1
        have tk : (W.take (i + 1)).filter (pickB s.q) = (W.take i).filter (pickB s.q) ++ if pickB s.q wd = true then [wd] else [] := by
          rw [List.take_add_one, gr, List.filter_append]
          congr 1
          show [wd].filter (pickB s.q) = _
          rw [List.filter_cons]
          rfl
        rw [tk, codes_app]
        unfold iL at tw
        refine ⟨_, rfl, et, rfl, ⟨_, tw.sq⟩, lcP (walk_tup (xs := wd.map V.int)) (fun H' e => (tw.ex e).sq) (by rw [List.length_map, ow.1]; omega) (fun i => !(wd.getD i 0 == 0)) (fun i => V.int (wd.getD i 0)) (fun i H1 x H2 hi e y K1 K0 k1 k0 => ?_) (fun d H9 hd e9 h9 => ?_)⟩
        · obtain ⟨rfl, g⟩ := y
          obtain ⟨rfl, _⟩ := int_at g
          refine ⟨rfl, _, rfl, rfl, _, rfl, ?_⟩
          rw [dec_int]
          cases c : wd.getD i 0 == 0 with
          | true => exact k0 (by rw [c]; rfl) _ (Ex.refl _)
          | false => exact ⟨_, rfl, k1 (by rw [c]; rfl) _ (Ex.refl _)⟩
        · rw [given_ints, List.length_map, nzL_range] at h9
          have ex9 := ex.trans e9
          have tx9 := tx8.ex e9
          have lx9 := lx8.ex e9
          have hL9 := e9 _ _ hL'
          have lr9 : LstR (fun e r => TpC K H9 e s.q n r) fs (codesOf s n rows ((W.take i).filter (pickB s.q))) := lr.imp fun _ _ h => h.ex e9
          have tw9 := tw.ex e9
          have nl := nzL_len wd
          dsimp only [gName]
          refine ifC (pickB s.q wd) (fun R kR => ?_) (fun pk => ?_) (fun pk => ?_)
          · rw [pick_of] at kR
            refine ⟨_, rfl, d, _, rfl, .inl (sq_of h9), _, _, rfl, rfl, _, rfl, ?_⟩
            rw [List.length_map]
            by_cases c1 : 0 < (nzL wd).length
            · rw [decide_eq_true c1, Bool.true_and] at kR
              rw [decide_eq_true (show (0 : Int) < ((nzL wd).length : Int) by omega)]
              obtain ⟨j1, _, nz⟩ := nzL_pos c1
              obtain ⟨ds, eds⟩ := nzL_last (lastF_of ⟨j1, nz⟩)
              have al : atI ((nzL wd).map V.int) (-1) = some (.int (wd.getD (lastF wd) 0)) := by
                rw [eds]
                exact at_last _ _
              refine iteT ⟨_, rfl, _, rfl, d, _, _, _, rfl, rfl, sq_of h9, al, rfl, _, rfl, ?_⟩
              rw [dec_int]
              by_cases c2 : wd.getD (lastF wd) 0 = 1
              · rw [decide_eq_true c2, Bool.true_and] at kR
                rw [c2]
                refine iteT ⟨_, rfl, rfl, _, rfl, ?_⟩
                have e3 : decide (V.int ((s.q : Nat) : Int) = V.int 3) = (s.q == 3) := dec_nat s.q 3
                rw [e3]
                cases c3 : s.q == 3 with
                | true =>
                  rw [c3, Bool.true_or] at kR
                  exact iteT kR
                | false =>
                  rw [c3, Bool.false_or] at kR
                  refine iteF ⟨_, rfl, d, _, rfl, .inl (sq_of h9), _, _, rfl, rfl, (show (0 : Int) < 2 by decide), rfl, _, rfl, ?_⟩
                  rw [List.length_map]
                  have e4 : decide (V.int (((nzL wd).length : Int) % 2) = V.int 0) = ((nzL wd).length % 2 == 0) := dec_nat ((nzL wd).length % 2) 0
                  rw [e4]
                  exact kR
              · rw [decide_eq_false c2, Bool.false_and] at kR
                rw [beq_eq_false_iff_ne.mpr c2]
                exact iteF kR
            · rw [decide_eq_false c1, Bool.false_and] at kR
              rw [decide_eq_false (show ¬ (0 : Int) < ((nzL wd).length : Int) by omega)]
              exact iteF kR
          · rw [if_pos pk]
            have ed : Ended wd := by
              unfold pickB Own.condB at pk
              simp only [Bool.and_eq_true, decide_eq_true_eq] at pk
              obtain ⟨⟨j, _, nz⟩, h1, _⟩ := pk
              exact ended_iff.mpr ⟨h1, j, nz⟩
            rw [codes_one]
            have co0 : ∀ m : Nat, RowOk s.q n (candF s n rows wd m) := fun m => cand_ok q0 io.red ow
            have cn : ∀ m : Nat, ¬ Sp s.q n rows (candF s n rows wd m) := fun m => cand_no io ow ed.last.1
            have tw9' : Tp K H9 et (iL (worthsL s.q (candF s n rows wd 0) rows)) := by
              unfold worthsL
              rw [cand_worths io ow ed 0]
              exact tw9
            refine ⟨_, rfl, _, rfl, _, rfl, s.q, n, r, et, rows, candF s n rows wd 0, rfl, ⟨es, hes.ex ex9, lg.ex ex9⟩, tw9', by omega, by omega, qq, io.red.ok, (co0 0).1, io.some (co0 0) (cn 0), fun D H10 e10 nD hD => ?_⟩
            obtain ⟨ds, hD', lD⟩ := hD
            have DL : D ≠ L5 := fun z => by
              rw [z, hL9] at nD
              cases nD
            refine ⟨_, rfl, _, rfl, _, rfl, s, p, et, n, rows, wd, rfl, tc.ex (ex9.trans e10), io, hn, tw9.ex e10, ow, ed, fun D2 es2 H11 e11 nD2 hD2 l2 => ?_⟩
            have D2L : D2 ≠ L5 := fun z => by
              rw [z, e10 _ _ hL9] at nD2
              cases nD2
            have e911 := e10.trans e11
            have ml : (msF s n rows wd).length ≤ 3 := by
              unfold msF
              refine Nat.le_trans (List.length_filter_le ..) ?_
              rw [List.length_range]
              omega
            refine ⟨D2, rfl, ⟨_, sq_of hD2⟩, for_it walk_list (fun j σ H' => Ex H H' ∧ Tp K H' t8 (es8.map V.ref) ∧ LstG iL K H' es8 W ∧ H' D = some (.lst (ds.map V.ref)) ∧ LstG iL K H' ds (ledK s.q rows (candF s n rows wd 0)).reverse ∧ H' D2 = some (.lst (es2.map V.ref)) ∧ LstG iL K H' es2 ((msF s n rows wd).map fun m => candF s n rows wd m) ∧
                ∃ gs v10, H' L5 = some (.lst (gs.map V.ref)) ∧ LstR (fun e r => TpC K H' e s.q n r) gs (codesOf s n rows ((W.take i).filter (pickB s.q)) ++ ((msF s n rows wd).take j).map fun m => nbF s.q n rows (candF s n rows wd m)) ∧ gs.length ≤ 3 * i + j ∧ σ = [some (.str s.s), some (.ref p), some (.int (s.q : Nat)), some (.int (n : Int)), some (.ref r), some (.ref L5), some (.ref et), some (.ref d), none, some (.ref D), v10])
              ⟨ex9.trans e911, tx9.ex e911, lx9.ex e911, e11 _ _ hD', lD.ex e11, hD2, l2, fs, _, e911 _ _ hL9, by rw [List.take_zero, List.map_nil, List.append_nil]; exact lr9.imp fun _ _ h => h.ex e911, by omega, rfl⟩ (fun j σ H' _ h => sq_of h.2.2.2.2.2.1) (fun j x σ H' H'' hj h y => ?_) (fun σ H' h => ?_)⟩
            · obtain ⟨ex, tx, lx, hDx, lDx, hD2x, l2x, gs, v10, hL', lr, gl, rfl⟩ := h
              obtain ⟨rfl, g⟩ := y
              obtain ⟨e, row, rfl, ge, gr2, te⟩ := l2x.get g
              rw [List.getElem?_map] at gr2
              cases gm : (msF s n rows wd)[j]? with
              | none =>
                rw [gm] at gr2
                cases gr2
              | some m =>
                rw [gm] at gr2
                cases gr2
                have jl : j < (msF s n rows wd).length := (List.getElem?_eq_some_iff.mp gm).1
                have lc := led_congr (rows := rows) (cand_worth_r io ow ed 0 m)
                rw [lc] at lDx
                have kr := led_red (row := candF s n rows wd m) q0 io.red io.desc
                have kl := ledK_less (io.some (co0 m) (cn m))
                have sp : ¬ Sp s.q n (ledK s.q rows (candF s n rows wd m)).reverse (candF s n rows wd m) := fun g => cn m ((ledK_span qq io.red io.desc (co0 m)).mp (g.sub fun r hm => List.mem_reverse.mp hm)).1
                refine ⟨_, rfl, .inl ⟨rfl, _, sq_of hL'⟩, _, rfl, _, rfl, _, rfl, _, rfl, s.q, n, false, D, e, _, _, rfl, ⟨ds, hDx, lDx⟩, te, by omega, by rw [List.length_reverse]; omega, qq, kr.perm (List.reverse_perm _), co0 m, sp, fun t rows' H12 e12 h12 wr => ?_⟩
                have nb := led_rev qq io.red io.desc (co0 m) (cn m) wr
                have nbe := nbF_eq q0 nb
                have hL12 := e12 _ _ hL'
                refine ⟨L5, _, _, rfl, rfl, hL12, sz_lt (by rw [List.length_map]; omega), ?_⟩
                have em : gs.map V.ref ++ [V.ref t] = (gs ++ [t]).map V.ref := by rw [List.map_append]; rfl
                rw [em]
                rw [← lc] at lDx
                refine ⟨ex_side (ex.trans e12) HL5, (tx.ex e12).mut hL12, (lx.ex e12).mut hL12, by rw [upd_ne DL]; exact e12 _ _ hDx, (lDx.ex e12).mut hL12, by rw [upd_ne D2L]; exact e12 _ _ hD2x, (l2x.ex e12).mut hL12, gs ++ [t], _, upd_same, ?_, by rw [List.length_append, List.length_singleton]; omega, rfl⟩
                rw [List.take_add_one, gm, List.map_append (f := fun m => nbF s.q n rows (candF s n rows wd m)), ← List.append_assoc]
                refine LstR.push ((lr.imp fun _ _ h => (h.ex e12).mut hL12)) ?_
                show TpC K _ t s.q n (nbF s.q n rows (candF s n rows wd m))
                rw [nbe]
                exact h12.mut hL12
            · obtain ⟨ex, tx, lx, hDx, lDx, hD2x, l2x, gs, v10, hL', lr, gl, rfl⟩ := h
              have l2l := l2x.len
              rw [List.length_map] at l2l
              rw [List.length_map, l2l, List.take_length] at lr
              rw [List.length_map, l2l] at gl
              exact ⟨ex, tx, lx, gs, _, _, _, _, hL', lr, by omega, rfl⟩
          · rw [pk, if_neg Bool.false_ne_true]
            exact ⟨ex9, tx9, lx9, fs, _, _, _, _, hL9, by rw [show codesOf s n rows [] = [] from rfl, List.append_nil]; exact lr9, by omega, rfl⟩
      · obtain ⟨ex, tx8, lx8, fs, v6, v7, v9, v10, hL', lr, fl, rfl⟩ := h
        rw [List.length_map, l8, List.take_length, ← pw] at lr
        refine ⟨_, rfl, List (List Int), fun e r => TpC K H' e s.q n r, codeD s.q n, L5, fs, _, rfl, sq_of hL', lr, fun e r h => dp_code h, codes_alike _ _ _, codes_sortable _ _ _, fun x _ => Nat.le_trans (lay_codeD _ _ _).2 (by decide), fun es' M lr' hM => ?_⟩
        refine ⟨M, _, rfl, .inl ⟨sq_of upd_same, fun t o ht ho => ?_⟩⟩
        have eM := Ex.new (o := .lst (es'.map V.ref)) hM
        have et := Ex.new (o := .frz o (.tup (es'.map V.ref))) ht
        exact k t _ (ex.trans (eM.trans et)) ⟨es', Tp.of ho upd_same, lr'.imp fun _ _ h => h.ex (eM.trans et)⟩
end
end K47

namespace K47
open PySem PySem.Spec PyProof.Rows L2 Evl Own
/-- ints and tuples of such, to a depth -/
def Pn (K : PySem.W.Frag) (H : Hp) : Nat → V → Prop
  | 0, v => ∃ i, v = .int i
  | n + 1, v => (∃ i, v = .int i) ∨ ∃ p xs, v = .ref p ∧ Tp K H p xs ∧ xs.length ≤ 1000 ∧ ∀ x ∈ xs, Pn K H n x
theorem Pn.ex {K : PySem.W.Frag} {H H1 : Hp} (e : Ex H H1) : ∀ {n : Nat} {v : V}, Pn K H n v → Pn K H1 n v
  | 0, _, h => h
  | n + 1, _, h => by
    rcases h with h | ⟨p, xs, h1, h2, h3, h4⟩
    · exact .inl h
    · exact .inr ⟨p, xs, h1, h2.ex e, h3, fun x hx => Pn.ex e (h4 x hx)⟩
def spPlain (K : PySem.W.Frag) (n : Nat) : Sp := fun vs H Q _ => ∃ v, vs = [v] ∧ Pn K H n v ∧ ∀ H', Ex H H' → Q (.bl true) H'
section
variable {P : Program} {w : World} {K : PySem.W.Frag} {mg : Str → Option Value} {base : Heap} {f : Addr} {fd : FuncData}
def spPlainR (K : PySem.W.Frag) : Nat → Sp
  | 0 => fun _ _ _ _ => False
  | n + 1 => spPlain K n
theorem ok__law_plain0 (F : FnP K "_law_plain" s__law_plain f fd) (Z : Zs mg) : FnOk P w K mg base CX0 1 f fd ["value"] (spPlainR K 0) :=
  F.ok sc__law_plain (fun vs H Q E h => h.elim) (fun cdv A outer s H vs Q E hr h => h.elim)
theorem ok__law_plainS {n : Nat} (F : FnP K "_law_plain" s__law_plain f fd) (Z : Zs mg) (G__law_plain : Fn P w K mg base CX0 (n + 1) "_law_plain" s__law_plain ["value"] (spPlainR K n)) : FnOk P w K mg base CX0 (n + 2) f fd ["value"] (spPlain K n) := by
  refine F.ok sc__law_plain (fun vs H Q E h => ?_) (fun cdv A outer s H vs Q E hr h => ⟨_, PSs.nox (pss_cons (ps_if (pt_val (pe_callB (kc_isi (K := K)) (by rfl) Z.isinstance (by decide +kernel) (pa_cons (pv 0) (pa_cons (pe_bltn (v := .ty "tuple") (u := .type "tuple") (by rfl) Z.tuple (by decide +kernel) rfl) pa_nil)))) (pss_one (ps_ret (pe_callB (cr_all rfl) (by rfl) Z.all (by decide +kernel) (pa_cons (pe_lc (own := [("one", 1)]) (g := (gName 1)) rfl sc__law_plain.nd (pi_tup (pv 0)) (blkOk_by (own := [("one", 1)]) (N := ["value", "one"]) (sc := defScope s__law_plain) (by decide +kernel)) (fun _ _ _ _ _ => (pg_name (i := 1) sc__law_plain.nd rfl (Or.inl rfl))) (fun _ _ _ _ _ => pts_nil) (fun _ _ _ _ _ => (pe_callF G__law_plain (hr.mono (Nat.le_refl _)) rfl pass0 (pa_cons (pv 1) pa_nil)))) pa_nil)))) pss_nil)
  (pss_one (ps_ret (pe_and (pe_callB (kc_isi (K := K)) (by rfl) Z.isinstance (by decide +kernel) (pa_cons (pv 0) (pa_cons (pe_bltn (v := .ty "int") (u := .type "int") (by rfl) Z.int (by decide +kernel) rfl) pa_nil))) (pe_one (pe_not (pe_callB (kc_isi (K := K)) (by rfl) Z.isinstance (by decide +kernel) (pa_cons (pv 0) (pa_cons (pe_bltn (v := .ty "bool") (u := .type "bool") (by rfl) Z.bool (by decide +kernel) rfl) pa_nil))))))))), ?_⟩)
  · obtain ⟨x, rfl, _⟩ := h
    rfl
  · obtain ⟨x, rfl, h, k⟩ := h
    have h' : (∃ i, x = .int i) ∨ ∃ m, n = m + 1 ∧ ∃ p xs, x = .ref p ∧ Tp K H p xs ∧ xs.length ≤ 1000 ∧ ∀ y ∈ xs, Pn K H m y := by
      cases n with
      | zero => exact .inl h
      | succ m =>
        rcases h with h | h
        · exact .inl h
        · exact .inr ⟨m, rfl, h⟩
    rcases h' with ⟨i, rfl⟩ | ⟨m, rfl, p, xs, rfl, hp, hz, hi⟩
    · refine ⟨_, rfl, _, .ty "tuple", _, .type "tuple", _, rfl, .ty _, ((Vk.int i : Vk K H _ _)).ty, kit_vk ((Vk.int i : Vk K H _ _)) "tuple", _, rfl, iteF ?_⟩
      exact ⟨_, rfl, _, .ty "int", _, .type "int", _, rfl, .ty _, ((Vk.int i : Vk K H _ _)).ty, kit_vk ((Vk.int i : Vk K H _ _)) "int", _, rfl, iteT ⟨_, rfl, _, .ty "bool", _, .type "bool", _, rfl, .ty _, ((Vk.int i : Vk K H _ _)).ty, kit_vk ((Vk.int i : Vk K H _ _)) "bool", _, rfl, k _ (Ex.refl _)⟩⟩
    · refine ⟨_, rfl, _, .ty "tuple", _, .type "tuple", _, rfl, .ty _, ((Vk.tup hp : Vk K H _ _)).ty, kit_vk ((Vk.tup hp : Vk K H _ _)) "tuple", _, rfl, iteT ?_⟩
      refine ⟨_, rfl, p, rfl, ⟨_, hp.sq⟩, lcP (walk_tup (xs := xs)) (fun H' e => (hp.ex e).sq) (by omega) (fun _ => true) (fun _ => V.bl true) (fun i H1 x H2 hi' e y K1 K0 k1 k0 => ?_) (fun d H2 hd e2 h2 => ?_)⟩
      · obtain ⟨rfl, g⟩ := y
        exact ⟨rfl, yes_go ⟨_, rfl, _, rfl, (hi _ (List.mem_of_getElem? g)).ex e, fun H' e' => k1 rfl _ e'⟩⟩
      · rw [given_all] at h2
        have e3 : (List.range xs.length).map (fun _ => V.bl true) = (List.replicate xs.length true).map V.bl := by
          apply List.ext_getElem
          · simp
          · intro i h1 h2
            simp
        rw [e3] at h2
        refine ⟨d, _, rfl, sq_of h2, ?_⟩
        have e4 : (List.replicate xs.length true).all id = true := by simp
        rw [e4]
        exact k _ e2
theorem ok__law_plain (F : FnP K "_law_plain" s__law_plain f fd) (hb : Binds K fd ["value"] []) (hf : mg "_law_plain" = some (.ref f)) (Z : Zs mg) : ∀ n : Nat, FnOk P w K mg base CX0 (n + 2) f fd ["value"] (spPlain K n)
  | 0 => ok__law_plainS F Z ⟨f, fd, hf, F, hb, ok__law_plain0 F Z⟩
  | n + 1 => ok__law_plainS F Z ⟨f, fd, hf, F, hb, ok__law_plain F hb hf Z n⟩
end
end K47

namespace K47
open PySem PySem.Spec PyProof.Rows L2 Evl Own
def fsts (rows : List (List Int)) : List Int := rows.map fun r => (firstF r : Int)
structure Good (s : Srt) (n : Nat) (rows : List (List Int)) : Prop where
  half : 2 * rows.length = n
  ok : ∀ r ∈ rows, RowOk s.q n r
  fst : ∀ r ∈ rows, firstF r < n ∧ r.getD (firstF r) 0 = 1
  up : (fsts rows).Pairwise (· ≤ ·)
  unit : ∀ i < rows.length, ((fsts rows).map fun p => (rows.getD i []).getD p.toNat 0) = (List.range rows.length).map fun j => if i = j then 1 else 0
  inside : insideB s.q rows = true
  by_ : ∀ r ∈ rows, weightF r % s.by_ = 0
theorem _root_.Own.IsOwn.good {s : Srt} {n : Nat} {rows : List (List Int)} (h : IsOwn s n rows) : Good s n rows := by
  refine ⟨h.half, h.red.ok, h.red.fst, ?_, fun i hi => ?_, inside_of h.ins, fun r hr => h.fit (Sp.mem s.q_pos (h.red.ok r hr) hr)⟩
  · unfold fsts
    rw [List.pairwise_map]
    refine List.Pairwise.imp_of_mem (fun {a b} ha hb g => ?_) h.desc
    have oa := h.red.ok a ha
    have ob := h.red.ok b hb
    have fb := h.red.fst b hb
    have : ¬ firstF b < firstF a := fun l => by
      rw [lex_first (by rw [oa.1, ob.1]) l (by rw [fb.2]; decide)] at g
      cases g
    omega
  · unfold fsts
    rw [List.map_map]
    apply List.ext_getElem
    · simp
    · intro j h1 h2
      rw [List.length_map, List.length_range] at h2
      rw [List.getElem_map, List.getElem_map, List.getElem_range]
      show (rows.getD i []).getD (Int.toNat ((firstF rows[j] : Nat) : Int)) 0 = _
      rw [Int.toNat_natCast, getD_row hi]
      by_cases c : i = j
      · subst c
        rw [if_pos rfl]
        exact (h.red.fst _ (List.getElem_mem hi)).2
      · rw [if_neg c]
        have off := List.pairwise_iff_getElem.mp h.red.off
        rcases Nat.lt_or_ge i j with l | l
        · exact (off i j hi h2 l).1
        · exact (off j i h2 hi (by omega)).2
theorem Pn.up {K : PySem.W.Frag} {H : Hp} : ∀ {n : Nat} {v : V}, Pn K H n v → Pn K H (n + 1) v
  | 0, _, h => .inl h
  | n + 1, _, h => by
    rcases h with h | ⟨p, xs, h1, h2, h3, h4⟩
    · exact .inl h
    · exact .inr ⟨p, xs, h1, h2, h3, fun x hx => Pn.up (h4 x hx)⟩
theorem pn_ints {K : PySem.W.Frag} {H : Hp} {n : Nat} {p : Addr} {xs : List Int} (h : Tp K H p (iL xs)) (l : xs.length ≤ 1000) : Pn K H (n + 1) (.ref p) := by
  refine .inr ⟨p, _, rfl, h, by unfold iL; rw [List.length_map]; omega, fun z hz => ?_⟩
  obtain ⟨c, _, rfl⟩ := List.mem_map.mp hz
  cases n with
  | zero => exact ⟨c, rfl⟩
  | succ n => exact .inl ⟨c, rfl⟩
theorem pn_rows {K : PySem.W.Frag} {H : Hp} {n : Nat} {p : Addr} {rows : List (List Int)} (h : TpR K H p rows) (l : rows.length ≤ 1000) (l2 : ∀ r ∈ rows, r.length ≤ 1000) : Pn K H (n + 2) (.ref p) := by
  obtain ⟨es, hes, lg⟩ := h
  refine .inr ⟨p, _, rfl, hes, by rw [List.length_map, lg.len]; omega, fun y hy => ?_⟩
  obtain ⟨i, hi, rfl⟩ := List.getElem_of_mem hy
  obtain ⟨e, x, e1, e2, e3, e4⟩ := lg.get (i := i) (v := (es.map V.ref)[i]) (List.getElem?_eq_getElem hi)
  rw [e1]
  exact pn_ints e4 (l2 x (List.mem_of_getElem? e3))
theorem pn_code {K : PySem.W.Frag} {H : Hp} {m : Nat} {p : Addr} {q n : Nat} {rows : List (List Int)} (h : TpC K H p q n rows) (l : rows.length ≤ 1000) (l2 : ∀ r ∈ rows, r.length ≤ 1000) : Pn K H (m + 3) (.ref p) := by
  obtain ⟨r, hp, tr⟩ := h
  refine .inr ⟨p, _, rfl, hp, by show 3 ≤ 1000; decide, fun x hx => ?_⟩
  rcases List.mem_cons.mp hx with rfl | hx
  · exact .inl ⟨_, rfl⟩
  rcases List.mem_cons.mp hx with rfl | hx
  · exact .inl ⟨_, rfl⟩
  rw [List.mem_singleton.mp hx]
  exact pn_rows tr l l2
theorem pn_codes {K : PySem.W.Frag} {H : Hp} {m : Nat} {p : Addr} {q n : Nat} {cs : List (List (List Int))} (h : TpCs K H p q n cs) (l : cs.length ≤ 1000) (l2 : ∀ rows ∈ cs, rows.length ≤ 1000 ∧ ∀ r ∈ rows, r.length ≤ 1000) : Pn K H (m + 4) (.ref p) := by
  obtain ⟨es, hes, lg⟩ := h
  refine .inr ⟨p, _, rfl, hes, by rw [List.length_map, lg.1]; omega, fun y hy => ?_⟩
  obtain ⟨i, hi, rfl⟩ := List.getElem_of_mem hy
  obtain ⟨e, x, e1, e2, e3, e4⟩ := lg.get (i := i) (v := (es.map V.ref)[i]) (List.getElem?_eq_getElem hi)
  rw [e1]
  have := l2 x (List.mem_of_getElem? e3)
  exact pn_code e4 this.1 this.2
def spIsOne (K : PySem.W.Frag) : Sp := fun vs H Q _ => ∃ (s : Srt) (n : Nat) (p r : Addr) (rows : List (List Int)), vs = [.str s.s, .int (n : Int), .ref p] ∧ n ≤ 24 ∧ Good s n rows ∧ Tp K H p [.int (s.q : Nat), .int (n : Int), .ref r] ∧ TpR K H r rows ∧ ∀ H', Ex H H' → Q (.bl true) H'
theorem sh_lst_ints (ns : List Int) : SeqAt.shaped (.list (ns.map PyData.int)) = true := by
  simp [SeqAt.shaped, PyData.canLay0, PyData.depth, PySem.W.ke_canLayAll0, PySem.W.ke_depthAll]
theorem eqv_lists (xs ys : List Int) : PyData.eqv (.list (xs.map PyData.int)) (.list (ys.map PyData.int)) = decide (xs = ys) := by
  rw [PyData.eqv]
  exact PySem.W.ked_eqvAll _ _
theorem digit_in (q : Nat) (hq : q = 2 ∨ q = 3) {x : Int} (h : 0 ≤ x ∧ x < (q : Int)) : inV (.int x) (cutV ([0, 1, 2].map V.int) none (some (q : Int))) = true := by
  have : x = 0 ∨ x = 1 ∨ (x = 2 ∧ q = 3) := by omega
  rcases hq with rfl | rfl
  · rcases this with rfl | rfl | ⟨rfl, e⟩
    · rfl
    · rfl
    · cases e
  · rcases this with rfl | rfl | ⟨rfl, e⟩ <;> rfl
section
variable {P : Program} {w : World} {K : PySem.W.Frag} {mg : Str → Option Value} {base : Heap} {f : Addr} {fd : FuncData}
theorem ok__law_inside (F : FnP K "_law_inside" s__law_inside f fd) (Z : Zs mg) (G__law_worth : Fn P w K mg base CX0 1 "_law_worth" s__law_worth ["letters", "one", "other"] (spWorth K)) : FnOk P w K mg base CX0 2 f fd ["letters", "rows"] (spInside K) := by
  refine F.ok sc__law_inside (fun vs H Q E h => ?_) (fun cdv A outer s H vs Q E hr h => ⟨_, PSs.nox (pss_cons (ps_for PassesOwn.never rfl (pi_range1 (by rfl) Z.range (pa_cons (pe_callB (kc_len (K := K)) (by rfl) Z.len PySem.boot_len (pa_cons (pv 1) pa_nil)) pa_nil)) (pg_name (i := 2) sc__law_inside.nd rfl (by first | exact Or.inl rfl | exact Or.inr rfl)) (pss_one (ps_for PassesOwn.never rfl (pi_tup (pe_slice (ksl_tup (K := K)) (pv 1) (po_some (pv 2)) po_none)) (pg_name (i := 3) sc__law_inside.nd rfl (by first | exact Or.inl rfl | exact Or.inr rfl)) (pss_one (ps_if (pt_cmpR op_ne (pe_callF G__law_worth (hr.mono (by decide)) rfl pass0 (pa_cons (pv 0) (pa_cons (pe_ix (kx_tup (K := K)) (pv 1) (pv 2) (fun _ _ => rfl)) (pa_cons (pv 3) pa_nil)))) pe_int (nomark _)) (pss_one (ps_ret pe_bl)) pss_nil)))))
  (pss_one (ps_ret pe_bl))), ?_⟩)
  · obtain ⟨q, n, p, rows, rfl, _⟩ := h
    rfl
  · obtain ⟨q, n, p, rows, rfl, hp, hn, few, q0, q1, ok, k⟩ := h
    obtain ⟨es, hes, lg⟩ := hp
    have el := lg.len
    refine ⟨_, rfl, p, _, rfl, .inr hes.sq, _, rfl, by omega, by rw [List.length_map]; omega, ?_⟩
    rw [List.length_map, Int.toNat_natCast, el]
    refine for_range (lo := 0) (n := rows.length) (fun i σ H' => Ex H H' ∧ ((List.range i).all fun i => (rows.drop i).all fun o => worthF q (rows.getD i []) o == 0) = true ∧ ∃ v2 v3, σ = [some (.int (q : Int)), some (.ref p), v2, v3]) ⟨Ex.refl _, rfl, none, none, rfl⟩ (fun i σ H' hi y => ?_) (fun σ H' y => ?_)
    · obtain ⟨ex, done, v2, v3, rfl⟩ := y
      have e0 : (0 : Int) + (i : Int) = (i : Int) := by omega
      show gName _ (V.int ((0 : Int) + (i : Int))) _ _ _
      rw [e0]
      have hei : i < es.length := by omega
      refine ⟨_, rfl, _, rfl, _, rfl, ?_⟩
      refine no_part (sl_ret (hes.ex ex) (fun c H2 e2 hc => ?_))
      rw [cut_at (by rw [List.length_map]; omega), ← List.map_drop] at hc
      have ld : ((rows.drop i).map fun o => o).length = (es.drop i).length := by rw [List.length_map, List.length_drop, List.length_drop, el]
      refine ⟨c, rfl, ⟨_, hc.sq⟩, for_it walk_tup (fun j σ H'' => Ex H2 H'' ∧ ((rows.drop i).take j).all (fun o => worthF q (rows.getD i []) o == 0) = true ∧ ∃ v3, σ = [some (.int (q : Int)), some (.ref p), some (.int (i : Int)), v3]) ⟨Ex.refl _, rfl, v3, rfl⟩ (fun j σ H' _ h => (hc.ex h.1).sq) (fun j x σ H3 H4 hj h y => ?_) (fun σ H3 h => ?_)⟩
      · obtain ⟨ex3, dn, v3, rfl⟩ := h
        obtain ⟨rfl, g⟩ := y
        obtain ⟨e, rfl, ge⟩ := ref_at g
        have hj' : j < (es.drop i).length := (List.getElem?_eq_some_iff.mp ge).1
        rw [List.length_drop] at hj'
        have hij : i + j < rows.length := by omega
        have ge2 : es[i + j]? = some e := by rw [← ge, List.getElem?_drop]
        have gi : es[i]? = some es[i] := List.getElem?_eq_getElem _
        have ri : rows[i]? = some rows[i] := List.getElem?_eq_getElem _
        have rj : rows[i + j]? = some rows[i + j] := List.getElem?_eq_getElem _
        have x2 := ex.trans (e2.trans ex3)
        have t1 := (lg.at_ i _ _ gi ri).ex x2
        have t2 := (lg.at_ (i + j) _ _ ge2 rj).ex x2
        have rD : rows.getD i [] = rows[i] := by rw [List.getD_eq_getElem?_getD, ri]; rfl
        have rdj : (rows.drop i)[j]? = some rows[i + j] := by rw [List.getElem?_drop, rj]
        have tk : (rows.drop i).take (j + 1) = (rows.drop i).take j ++ [rows[i + j]] := by
          rw [List.take_add_one, rdj]
          rfl
        refine ⟨_, rfl, _, rfl, _, rfl, p, _, _, .ref es[i], rfl, rfl, (hes.ex x2).sq, atI_nat (by rw [List.getElem?_map, gi]; rfl), _, rfl, q, n, es[i], e, rows[i], rows[i + j], rfl, t1, t2, hn, q0, q1, ok _ (List.getElem_mem _), ok _ (List.getElem_mem _), fun H5 e5 => ⟨rfl, _, rfl, ?_⟩⟩
        rw [dec_int]
        rw [rD] at dn ⊢
        cases c : worthF q rows[i] rows[i + j] == 0 with
        | true => exact iteF ⟨ex3.trans e5, by rw [tk, List.all_append, dn]; simp [c], _, rfl⟩
        | false =>
          refine iteT ?_
          have : insideB q rows = false := by
            unfold insideB
            rw [List.all_eq_false]
            refine ⟨i, List.mem_range.mpr hi, ?_⟩
            rw [Bool.not_eq_true, List.all_eq_false]
            refine ⟨rows[i + j], List.mem_of_getElem? rdj, ?_⟩
            rw [rD, c]
            exact Bool.false_ne_true
          rw [this] at k
          exact k _ (x2.trans e5)
      · obtain ⟨ex3, dn, v3, rfl⟩ := h
        refine ⟨ex.trans (e2.trans ex3), ?_, _, _, rfl⟩
        rw [List.length_map, List.length_drop] at dn
        rw [List.take_of_length_le (by rw [List.length_drop]; omega)] at dn
        rw [List.range_succ, List.all_append, done, List.all_cons, dn]
        rfl
    · obtain ⟨ex, done, v2, v3, rfl⟩ := y
      have : insideB q rows = true := done
      rw [this] at k
      exact k _ ex
theorem ok__law_is_one (F : FnP K "_law_is_one" s__law_is_one f fd) (Z : Zs mg) (G__law_plain : Fn P w K mg base CX0 6 "_law_plain" s__law_plain ["value"] (spPlain K 4)) (G__law_letters : Fn P w K mg base CX0 1 "_law_letters" s__law_letters ["sort"] (spSrt Srt.q)) (G__law_by : Fn P w K mg base CX0 1 "_law_by" s__law_by ["sort"] (spSrt Srt.by_))
    (G__law_first : Fn P w K mg base CX0 1 "_law_first" s__law_first ["row"] (spFirst K)) (G__law_inside : Fn P w K mg base CX0 2 "_law_inside" s__law_inside ["letters", "rows"] (spInside K)) (G__law_weight : Fn P w K mg base CX0 1 "_law_weight" s__law_weight ["row"] (spWeight K)) : FnOk P w K mg base CX0 7 f fd ["sort", "length", "value"] (spIsOne K) := by
  refine F.ok sc__law_is_one (fun vs H Q E h => ?_) (fun cdv A outer s H vs Q E hr h => ⟨_, PSs.nox (pss_cons (ps_if (PW.pt (pw_or (pt_not (pt_val (pe_callB (kc_isi (K := K)) (by rfl) Z.isinstance (by decide +kernel) (pa_cons (pv 2) (pa_cons (pe_bltn (v := .ty "tuple") (u := .type "tuple") (by rfl) Z.tuple (by decide +kernel) rfl) pa_nil))))) (pw_or (pt_cmpR op_ne (pe_callB (kc_len (K := K)) (by rfl) Z.len PySem.boot_len (pa_cons (pv 2) pa_nil)) pe_int (nomark _)) (pw_or1 (pt_not (pt_val (pe_callF G__law_plain (hr.mono (by decide)) rfl pass0 (pa_cons (pv 2) pa_nil)))))))) (pss_one (ps_ret pe_bl)) pss_nil)
  (pss_cons (ps_asg (pe_tupF (pa_cons (pe_callF G__law_letters (hr.mono (by decide)) rfl pass0 (pa_cons (pv 0) pa_nil)) (pa_cons (pe_ix (kx_tup (K := K)) (pv 2) pe_int (fun _ _ => rfl)) pa_nil))) (pg_tup rfl (pgs_cons (pg_name (i := 3) sc__law_is_one.nd rfl (by first | exact Or.inl rfl | exact Or.inr rfl)) (pgs_cons (pg_name (i := 4) sc__law_is_one.nd rfl (by first | exact Or.inl rfl | exact Or.inr rfl)) pgs_nil))))
  (pss_cons (ps_if (PW.pt (pw_or (pt_cmpR op_ne (pe_ix (kx_tup (K := K)) (pv 2) pe_int (fun _ _ => rfl)) (pv 3) (nomark _)) (pw_or (pt_cmpR op_ne (pe_ix (kx_tup (K := K)) (pv 2) pe_int (fun _ _ => rfl)) (pv 1) (nomark _)) (pw_or (pt_not (pt_val (pe_callB (kc_isi (K := K)) (by rfl) Z.isinstance (by decide +kernel) (pa_cons (pv 4) (pa_cons (pe_bltn (v := .ty "tuple") (u := .type "tuple") (by rfl) Z.tuple (by decide +kernel) rfl) pa_nil))))) (pw_or1 (pt_cmpR op_ne (pe_op op_mul pe_int (pe_callB (kc_len (K := K)) (by rfl) Z.len PySem.boot_len (pa_cons (pv 4) pa_nil))) (pv 1) (nomark _))))))) (pss_one (ps_ret pe_bl)) pss_nil)
  (pss_cons (ps_set (i := 5) sc__law_is_one.nd rfl (by first | exact Or.inl rfl | exact Or.inr rfl) (pe_lst pa_nil))
  (pss_cons (ps_for PassesOwn.never rfl (pi_tup (pv 4)) (pg_name (i := 6) sc__law_is_one.nd rfl (by first | exact Or.inl rfl | exact Or.inr rfl)) (pss_cons (ps_if (PW.pt (pw_or (pt_not (pt_val (pe_callB (kc_isi (K := K)) (by rfl) Z.isinstance (by decide +kernel) (pa_cons (pv 6) (pa_cons (pe_bltn (v := .ty "tuple") (u := .type "tuple") (by rfl) Z.tuple (by decide +kernel) rfl) pa_nil))))) (pw_or (pt_cmpR op_ne (pe_callB (kc_len (K := K)) (by rfl) Z.len PySem.boot_len (pa_cons (pv 6) pa_nil)) (pv 1) (nomark _)) (pw_or1 (pt_not (pt_val (pe_callB (cr_all rfl) (by rfl) Z.all (by decide +kernel) (pa_cons (pe_lc (own := [("one", 7)]) (g := (gName 7)) rfl sc__law_is_one.nd (pi_tup (pv 6)) (blkOk_by (own := [("one", 7)]) (N := ["sort", "length", "value", "letters", "rows", "places", "row", "one", "at", "place", "other"]) (sc := defScope s__law_is_one) (by decide +kernel)) (fun _ _ _ _ _ => (pg_name (i := 7) sc__law_is_one.nd rfl (Or.inl rfl))) (fun _ _ _ _ _ => pts_nil) (fun _ _ _ _ _ => (pe_cmpR (ko_in (K := K)) (pv 7) (pe_slice (ksl_tup (K := K)) (pe_tupF (pa_cons pe_int (pa_cons pe_int (pa_cons pe_int pa_nil)))) po_none (po_some (pv 3))) (by rfl)))) pa_nil)))))))) (pss_one (ps_ret pe_bl)) pss_nil)
  (pss_cons (ps_expr (km_bm (K := K) PySem.F.plainAttrs_list PySem.F.slot_list_append PySem.F.type_list_append mt_append (pv 5) (pa_cons (pe_callF G__law_first (hr.mono (by decide)) rfl pass0 (pa_cons (pv 6) pa_nil)) pa_nil)))
  (pss_one (ps_if (PW.pt (pw_or (pt_cmpR op_eq (pe_ix (kx_list (K := K)) (pv 5) (pe_un un_neg pe_int) (fun _ _ => rfl)) (pv 1) (nomark _)) (pw_or (pt_cmpR op_ne (pe_ix (kx_tup (K := K)) (pv 6) (pe_ix (kx_list (K := K)) (pv 5) (pe_un un_neg pe_int) (fun _ _ => rfl)) (fun _ _ => rfl)) pe_int (nomark _)) (pw_or1 (pt_cmpR (ko_ne (K := K) hr.units) (pv 5) (pe_callB cr_sortedI (by rfl) Z.sorted (by decide +kernel) (pa_cons (pv 5) pa_nil)) (nomark _)))))) (pss_one (ps_ret pe_bl)) pss_nil)))))
  (pss_cons (ps_for PassesOwn.never rfl (pi_range1 (by rfl) Z.range (pa_cons (pe_callB (kc_len (K := K)) (by rfl) Z.len PySem.boot_len (pa_cons (pv 4) pa_nil)) pa_nil)) (pg_name (i := 8) sc__law_is_one.nd rfl (by first | exact Or.inl rfl | exact Or.inr rfl)) (pss_one (ps_if (pt_cmpR (ko_ne (K := K) hr.units) (pe_lc (own := [("place", 9)]) (g := (gName 9)) rfl sc__law_is_one.nd (pi_list (pv 5)) (blkOk_by (own := [("place", 9)]) (N := ["sort", "length", "value", "letters", "rows", "places", "row", "one", "at", "place", "other"]) (sc := defScope s__law_is_one) (by decide +kernel)) (fun _ _ _ _ _ => (pg_name (i := 9) sc__law_is_one.nd rfl (Or.inl rfl))) (fun _ _ _ _ _ => pts_nil) (fun _ _ _ _ _ => (pe_ix (kx_tup (K := K)) (pe_ix (kx_tup (K := K)) (pv 4) (pv 8) (fun _ _ => rfl)) (pv 9) (fun _ _ => rfl)))) (pe_lc (own := [("other", 10)]) (g := (gName 10)) rfl sc__law_is_one.nd (pi_range1 (by rfl) Z.range (pa_cons (pe_callB (kc_len (K := K)) (by rfl) Z.len PySem.boot_len (pa_cons (pv 4) pa_nil)) pa_nil)) (blkOk_by (own := [("other", 10)]) (N := ["sort", "length", "value", "letters", "rows", "places", "row", "one", "at", "place", "other"]) (sc := defScope s__law_is_one) (by decide +kernel)) (fun _ _ _ _ _ => (pg_name (i := 10) sc__law_is_one.nd rfl (Or.inl rfl))) (fun _ _ _ _ _ => pts_nil) (fun _ _ _ _ _ => (pe_callTy call_int1 (by rfl) Z.int (by decide +kernel) (pa_cons (pe_cmpR op_eq (pv 8) (pv 10) (nomark _)) pa_nil)))) (nomark _)) (pss_one (ps_ret pe_bl)) pss_nil)))
  (pss_one (ps_ret (pe_and (pe_callF G__law_inside (hr.mono (by decide)) rfl pass0 (pa_cons (pv 3) (pa_cons (pv 4) pa_nil))) (pe_one (pe_callB (cr_all rfl) (by rfl) Z.all (by decide +kernel) (pa_cons (pe_lc (own := [("row", 6)]) (g := (gName 6)) rfl sc__law_is_one.nd (pi_tup (pv 4)) (blkOk_by (own := [("row", 6)]) (N := ["sort", "length", "value", "letters", "rows", "places", "row", "one", "at", "place", "other"]) (sc := defScope s__law_is_one) (by decide +kernel)) (fun _ _ _ _ _ => (pg_name (i := 6) sc__law_is_one.nd rfl (Or.inl rfl))) (fun _ _ _ _ _ => pts_nil) (fun _ _ _ _ _ => (pe_cmpR op_eq (pe_op op_mod (pe_callTy call_int1 (by rfl) Z.int (by decide +kernel) (pa_cons (pe_callF G__law_weight (hr.mono (by decide)) rfl pass0 (pa_cons (pv 6) pa_nil)) pa_nil)) (pe_callF G__law_by (hr.mono (by decide)) rfl pass0 (pa_cons (pv 0) pa_nil))) pe_int (nomark _)))) pa_nil)))))))))))), ?_⟩)
  · obtain ⟨s, n, p, r, rows, rfl, _⟩ := h
    rfl
  · obtain ⟨s, n, p, r, rows, rfl, hn, g, hp, hr', k⟩ := h
    obtain ⟨es, hes, lg⟩ := hr'
    have el := lg.len
    have gh := g.half
    have ql := s.q_le
    have q23 : s.q = 2 ∨ s.q = 3 := by omega
    have pn : Pn K H 4 (.ref p) := (pn_code (m := 0) ⟨r, hp, es, hes, lg⟩ (by omega) fun x hx => by have := (g.ok x hx).1; omega).up
    refine ⟨_, rfl, _, .ty "tuple", _, .type "tuple", _, rfl, .ty _, ((Vk.tup hp : Vk K H _ _)).ty, kit_vk ((Vk.tup hp : Vk K H _ _)) "tuple", _, rfl, iteF ⟨_, rfl, p, _, rfl, .inr hp.sq, rfl, _, rfl, ?_⟩⟩
    rw [dec_int]
    refine iteF ⟨_, rfl, _, rfl, pn, fun H1 e1 => ⟨_, rfl, iteF ?_⟩⟩
    have hp1 := hp.ex e1
    refine ⟨_, rfl, s, rfl, fun H2 e2 => ?_⟩
    have hp2 := hp1.ex e2
    refine ⟨_, rfl, p, _, 2, .ref r, rfl, rfl, hp2.sq, rfl, by show 2 ≤ sizeLine; decide, fun T o hT ho => ⟨T, _, rfl, (Tp.of ho upd_same).sq, rfl, _, _, rfl, _, _, rfl, rfl, ?_⟩⟩
    have eT := Ex.new (o := .frz o (.tup [V.int (s.q : Nat), .ref r])) hT
    have ex3 := e1.trans (e2.trans eT)
    have hp3 := hp.ex ex3
    generalize upd H2 T (.frz o (.tup [V.int (s.q : Nat), .ref r])) = H3 at ex3 hp3 ⊢
    have hes3 := hes.ex ex3
    refine ⟨_, rfl, p, _, 0, _, rfl, rfl, hp3.sq, rfl, _, rfl, rfl, _, rfl, ?_⟩
    rw [decide_eq_true rfl]
    refine iteF ⟨_, rfl, p, _, 1, _, rfl, rfl, hp3.sq, rfl, _, rfl, rfl, _, rfl, ?_⟩
    rw [decide_eq_true rfl]
    refine iteF ⟨_, rfl, _, .ty "tuple", _, .type "tuple", _, rfl, .ty _, ((Vk.tup hes3 : Vk K H3 _ _)).ty, kit_vk ((Vk.tup hes3 : Vk K H3 _ _)) "tuple", _, rfl, iteF ⟨_, rfl, r, _, rfl, .inr hes3.sq, _, _, rfl, rfl, .inl ⟨by decide, by decide⟩, _, rfl, rfl, _, rfl, ?_⟩⟩
    rw [decide_eq_true (show V.int ((2 : Int) * (((es.map V.ref).length : Nat) : Int)) = V.int (n : Int) from by rw [List.length_map, el]; congr 1; omega)]
    refine iteF ?_
    refine ⟨by decide, fun L hL => ?_⟩
    have eL := Ex.new (o := .lst []) hL
    have HL : H L = none := fresh_back ex3 hL
    have ex4 := ex3.trans eL
    have hes4 := hes3.ex eL
    have hL4 : upd H3 L (.lst []) L = some (.lst (((fsts rows).take 0).map V.int)) := upd_same
    have lg4 := lg.ex ex4
    generalize upd H3 L (.lst []) = H4 at ex4 hes4 hL4 lg4 ⊢
    have fl : (fsts rows).length = rows.length := List.length_map ..
    refine ⟨_, rfl, r, rfl, ⟨_, hes4.sq⟩, for_it walk_tup (fun i σ H' => Ex H H' ∧ Tp K H' r (es.map V.ref) ∧ LstG iL K H' es rows ∧ H' L = some (.lst (((fsts rows).take i).map V.int)) ∧ ∃ v6, σ = [some (.str s.s), some (.int (n : Int)), some (.ref p), some (.int (s.q : Nat)), some (.ref r), some (.ref L), v6, none, none, none, none])
      ⟨ex4, hes4, lg4, hL4, none, rfl⟩ (fun i σ H' _ h => h.2.1.sq) (fun i x σ H5 H6 hi h y => ?_) (fun σ H5 h => ?_)⟩
    · obtain ⟨ex5, hes5, lg5, hL5, v6, rfl⟩ := h
      obtain ⟨rfl, ge⟩ := y
      obtain ⟨e, row, rfl, ge, gr, te⟩ := lg5.get ge
      have rm := List.mem_of_getElem? gr
      have ok := g.ok row rm
      have fo := g.fst row rm
      have il : i < rows.length := (List.getElem?_eq_some_iff.mp gr).1
      have fi : (fsts rows)[i]? = some ((firstF row : Nat) : Int) := by
        unfold fsts
        rw [List.getElem?_map, gr]
        rfl
      have tk : (fsts rows).take (i + 1) = (fsts rows).take i ++ [((firstF row : Nat) : Int)] := by
        rw [List.take_add_one, fi]
        rfl
      refine ⟨_, rfl, _, .ty "tuple", _, .type "tuple", _, rfl, .ty _, ((Vk.tup te : Vk K H6 _ _)).ty, kit_vk ((Vk.tup te : Vk K H6 _ _)) "tuple", _, rfl, iteF ⟨_, rfl, e, _, rfl, .inr te.sq, _, rfl, rfl, _, rfl, ?_⟩⟩
      unfold iL at te
      have rl := ok.1
      rw [show ((iL row).length : Int) = (n : Int) by unfold iL; rw [List.length_map, rl], decide_eq_true rfl]
      refine iteF ⟨_, rfl, e, rfl, ⟨_, te.sq⟩, lcP (walk_tup (xs := row.map V.int)) (fun H' q => (te.ex q).sq) (by rw [List.length_map]; omega) (fun _ => true) (fun _ => V.bl true) (fun j H7 x H8 hj eq y K1 K0 k1 k0 => ?_) (fun D H7 hD e7 h7 => ?_)⟩
      · obtain ⟨rfl, gx⟩ := y
        obtain ⟨rfl, hj'⟩ := int_at gx
        have dx := ok.2 _ (Own.getD_mem hj')
        refine ⟨rfl, yes_go ⟨_, rfl, by show 3 ≤ sizeLine; decide, fun z o hz ho => ?_⟩⟩
        refine no_part ⟨_, rfl, _, rfl, sl_ret (Tp.of (K := K) (xs := [0, 1, 2].map V.int) ho upd_same) (fun c H9 e9 hc => ?_)⟩
        refine ⟨c, _, rfl, .inr hc.sq, rfl, ?_, ?_⟩
        · rcases q23 with q | q <;> rw [q] <;> rfl
        · rw [digit_in s.q q23 dx]
          exact k1 rfl _ ((Ex.new hz).trans e9)
      · rw [given_all] at h7
        have e3 : (List.range (row.map V.int).length).map (fun _ => V.bl true) = (List.replicate row.length true).map V.bl := by
          rw [List.length_map]
          apply List.ext_getElem
          · simp
          · intro i h1 h2
            simp
        rw [e3] at h7
        have e4 : (List.replicate row.length true).all id = true := by simp
        refine ⟨D, _, rfl, sq_of h7, _, rfl, ?_⟩
        rw [e4]
        have ex7 := ex5.trans e7
        have hes7 := hes5.ex e7
        have lg7 := lg5.ex e7
        have hL7 := e7 _ _ hL5
        have te7 := te.ex e7
        refine iteF ⟨_, rfl, .inl ⟨rfl, _, sq_of hL7⟩, _, rfl, e, row, rfl, te7, by omega, L, _, _, rfl, rfl, hL7, sz_lt (by rw [List.length_map, List.length_take]; omega), ?_⟩
        have em : ((fsts rows).take i).map V.int ++ [V.int ((firstF row : Nat) : Int)] = ((fsts rows).take (i + 1)).map V.int := by
          rw [tk, List.map_append]
          rfl
        rw [em]
        have ex8 : Ex H (upd H7 L (.lst (((fsts rows).take (i + 1)).map V.int))) := ex_side ex7 HL
        have hes8 := hes7.mut (zs := ((fsts rows).take (i + 1)).map V.int) hL7
        have lg8 := lg7.mut (zs := ((fsts rows).take (i + 1)).map V.int) hL7
        have te8 := te7.mut (zs := ((fsts rows).take (i + 1)).map V.int) hL7
        have hL8 : upd H7 L (.lst (((fsts rows).take (i + 1)).map V.int)) L = some (.lst (((fsts rows).take (i + 1)).map V.int)) := upd_same
        generalize upd H7 L (.lst (((fsts rows).take (i + 1)).map V.int)) = H8 at ex8 hes8 lg8 te8 hL8 ⊢
        have al : atI (((fsts rows).take (i + 1)).map V.int) (-1) = some (.int ((firstF row : Nat) : Int)) := by
          rw [tk]
          exact at_last _ _
        refine ⟨_, rfl, _, rfl, L, _, _, _, rfl, rfl, sq_of hL8, al, _, rfl, rfl, _, rfl, ?_⟩
        rw [decide_eq_false (show ¬ V.int ((firstF row : Nat) : Int) = V.int (n : Int) from fun z => by
          have := V.int.inj z
          omega)]
        refine iteF ⟨_, rfl, _, rfl, _, rfl, L, _, _, _, rfl, rfl, sq_of hL8, al, e, _, _, _, rfl, rfl, te8.sq, atI_int (by omega), rfl, _, rfl, ?_⟩
        rw [fo.2, decide_eq_true rfl]
        have up : ((fsts rows).take (i + 1)).Pairwise (· ≤ ·) := g.up.sublist (List.take_sublist _ _)
        refine iteF ⟨_, rfl, _, rfl, L, _, rfl, sq_of hL8, fun ns' M hperm hpw hM => ?_⟩
        have en : ns' = (fsts rows).take (i + 1) := List.Perm.eq_of_pairwise (fun _ _ _ _ h1 h2 => Int.le_antisymm h1 h2) hpw up hperm
        subst en
        have eM := Ex.new (o := .lst (((fsts rows).take (i + 1)).map V.int)) hM
        refine ⟨_, _, .lst (sq_of (eM _ _ hL8)) (dp_ints _), .lst (sq_of upd_same) (dp_ints _), sh_lst_ints _, sh_lst_ints _, _, rfl, ?_⟩
        rw [eqv_lists, decide_eq_true rfl]
        exact iteF ⟨ex8.trans eM, hes8.ex eM, lg8.ex eM, eM _ _ hL8, _, rfl⟩
    · obtain ⟨ex5, hes5, lg5, hL5, v6, rfl⟩ := h
      rw [List.length_map, el, List.take_of_length_le (by omega)] at hL5
      refine ⟨_, rfl, r, _, rfl, .inr hes5.sq, _, rfl, by omega, by rw [List.length_map]; omega, ?_⟩
      rw [List.length_map, Int.toNat_natCast, el]
      refine for_range (lo := 0) (n := rows.length) (fun i σ H' => Ex H5 H' ∧ ∃ v8, σ = [some (.str s.s), some (.int (n : Int)), some (.ref p), some (.int (s.q : Nat)), some (.ref r), some (.ref L), v6, none, v8, none, none]) ⟨Ex.refl _, none, rfl⟩ (fun i σ H' hi y => ?_) (fun σ H' y => ?_)
      · obtain ⟨ex6, v8, rfl⟩ := y
        have e0 : (0 : Int) + (i : Int) = (i : Int) := by omega
        show gName _ (V.int ((0 : Int) + (i : Int))) _ _ _
        rw [e0]
        have hes6 := hes5.ex ex6
        have lg6 := lg5.ex ex6
        have hL6 := ex6 _ _ hL5
        have gi : es[i]? = some es[i] := List.getElem?_eq_getElem _
        have ri : rows[i]? = some rows[i] := List.getElem?_eq_getElem _
        have rD : rows.getD i [] = rows[i] := by rw [List.getD_eq_getElem?_getD, ri]; rfl
        have ti := lg6.at_ i _ _ gi ri
        have oi := g.ok _ (List.getElem_mem hi)
        refine ⟨_, rfl, L, rfl, ⟨_, sq_of hL6⟩, lcP (walk_list (xs := (fsts rows).map V.int)) (fun H'' q => sq_of (q _ _ hL6)) (by rw [List.length_map]; omega) (fun _ => true) (fun j => V.int (rows[i].getD ((fsts rows).getD j 0).toNat 0)) (fun j H7 x H8 hj eq y K1 K0 k1 k0 => ?_) (fun D1 H7 hD1 e7 h7 => ?_)⟩
        · obtain ⟨rfl, gx⟩ := y
          obtain ⟨rfl, hj'⟩ := int_at gx
          have hj2 : j < rows.length := by omega
          have fj : (fsts rows).getD j 0 = ((firstF rows[j] : Nat) : Int) := by
            unfold fsts
            rw [List.getD_eq_getElem?_getD, List.getElem?_map, List.getElem?_eq_getElem hj2]
            rfl
          have fo := g.fst _ (List.getElem_mem hj2)
          rw [fj]
          refine ⟨rfl, yes_go ⟨_, rfl, _, rfl, r, _, _, .ref es[i], rfl, rfl, (hes6.ex eq).sq, atI_nat (by rw [List.getElem?_map, gi]; rfl), _, rfl, es[i], _, _, _, rfl, rfl, (ti.ex eq).sq, atI_int (by have := oi.1; omega), ?_⟩⟩
          have kk := k1 rfl _ (Ex.refl _)
          rw [fj, Int.toNat_natCast] at kk
          exact kk
        · rw [given_all, List.length_map] at h7
          have m7 : (List.range (fsts rows).length).map (fun j => V.int (rows[i].getD ((fsts rows).getD j 0).toNat 0)) = (((fsts rows).map fun p => (rows.getD i []).getD p.toNat 0)).map V.int := by
            rw [rD, range_map (0 : Int) (fun p : Int => V.int (rows[i].getD p.toNat 0)) (fsts rows), List.map_map]
            rfl
          rw [m7, g.unit i hi] at h7
          have hes7 := hes6.ex e7
          refine ⟨_, rfl, r, _, rfl, .inr hes7.sq, _, rfl, by omega, by rw [List.length_map]; omega, ?_⟩
          rw [List.length_map, Int.toNat_natCast, el]
          refine lcP (walk_range (lo := 0)) (fun _ _ => trivial) (by omega) (fun _ => true) (fun j => V.int (if i = j then 1 else 0)) (fun j H8 x H9 hj eq y K1 K0 k1 k0 => ?_) (fun D2 H8 hD2 e8 h8 => ?_)
          · obtain ⟨rfl, rfl⟩ := y
            have e0 : (0 : Int) + (j : Int) = (j : Int) := by omega
            show gName _ (V.int ((0 : Int) + (j : Int))) _ _ _
            rw [e0]
            refine ⟨rfl, yes_go ⟨_, rfl, _, rfl, rfl, .inr ⟨_, rfl, ?_⟩⟩⟩
            have kk := k1 rfl _ (Ex.refl _)
            by_cases c : i = j
            · rw [decide_eq_true (show V.int (i : Int) = V.int (j : Int) from by rw [c])]
              rw [if_pos c] at kk
              exact kk
            · rw [decide_eq_false (show ¬ V.int (i : Int) = V.int (j : Int) from fun z => by
                have := V.int.inj z
                omega)]
              rw [if_neg c] at kk
              exact kk
          · rw [given_all] at h8
            have m8 : (List.range rows.length).map (fun j => V.int (if i = j then 1 else 0)) = ((List.range rows.length).map fun j => if i = j then (1 : Int) else 0).map V.int := by
              rw [List.map_map]
              rfl
            rw [m8] at h8
            refine ⟨_, _, .lst (sq_of (e8 _ _ h7)) (dp_ints _), .lst (sq_of h8) (dp_ints _), sh_lst_ints _, sh_lst_ints _, _, rfl, ?_⟩
            rw [eqv_lists, decide_eq_true rfl]
            exact iteF ⟨ex6.trans (e7.trans e8), _, rfl⟩
      · obtain ⟨ex6, v8, rfl⟩ := y
        have hes6 := hes5.ex ex6
        have lg6 := lg5.ex ex6
        refine ⟨_, rfl, _, rfl, s.q, n, r, rows, rfl, ⟨es, hes6, lg6⟩, by omega, by omega, ql.1, ql.2, g.ok, fun H7 e7 => ⟨_, rfl, ?_⟩⟩
        rw [g.inside]
        have hes7 := hes6.ex e7
        have lg7 := lg6.ex e7
        refine iteT ⟨_, rfl, r, rfl, ⟨_, hes7.sq⟩, lcP (walk_tup (xs := es.map V.ref)) (fun H'' q => (hes7.ex q).sq) (by rw [List.length_map]; omega) (fun _ => true) (fun _ => V.bl true) (fun j H8 x H9 hj eq y K1 K0 k1 k0 => ?_) (fun D1 H8 hD1 e8 h8 => ?_)⟩
        · obtain ⟨rfl, ge⟩ := y
          obtain ⟨e, row, rfl, ge, gr, te⟩ := (lg7.ex eq).get ge
          have rm := List.mem_of_getElem? gr
          have gb := g.by_ row rm
          have bp : 0 < s.by_ := by cases s <;> decide
          refine ⟨rfl, yes_go ⟨_, rfl, e, row, rfl, te, .inl ⟨_, rfl, _, rfl, s, rfl, fun H10 e10 => ⟨_, _, rfl, rfl, by omega, rfl, ?_⟩⟩⟩⟩
          have ez : ((weightF row : Nat) : Int) % ((s.by_ : Nat) : Int) = 0 := by omega
          rw [decide_eq_true (show V.int (((weightF row : Nat) : Int) % ((s.by_ : Nat) : Int)) = V.int 0 from by rw [ez])]
          exact k1 rfl _ e10
        · rw [given_all] at h8
          have e3 : (List.range (es.map V.ref).length).map (fun _ => V.bl true) = (List.replicate es.length true).map V.bl := by
            rw [List.length_map]
            apply List.ext_getElem
            · simp
            · intro i h1 h2
              simp
          rw [e3] at h8
          have e4 : (List.replicate es.length true).all id = true := by simp
          refine ⟨D1, _, rfl, sq_of h8, ?_⟩
          rw [e4]
          exact k _ (ex5.trans (ex6.trans (e7.trans e8)))
end
end K47

namespace K47
open PySem PySem.Spec PyProof.Rows L2 Evl Own
def RetRef (K : PySem.W.Frag) (x : Str) (H : Hp) (Q : VK) : Prop := RetU K [.str "refused", .str x] H Q
def spAskedN (K : PySem.W.Frag) : Sp := fun vs H Q _ => ∃ (z : Str) (p : Addr) (q n : Nat) (rows : List (List Int)), vs = [.str z, .ref p] ∧ TpC K H p q n rows ∧ CodeOk q n rows ∧
  ((NoSort z q n rows ∧ RetRef K "sort" H Q) ∨ ∃ s : Srt, z = s.s ∧ q = s.q ∧ IsOwn s n rows ∧ n ≤ 24 ∧ s.q ^ rows.length ≤ 1000 ∧ ∀ (T t : Addr) (H' : Hp), Ex H H' → Tp K H' T [.str "told", .ref t] → TpCs K H' t s.q n (nbsF s n rows) → Q (.ref T) H')
def spMany : Sp := fun vs H Q _ => ∃ (s : Srt) (n : Nat), vs = [.str s.s, .int (n : Int)] ∧ n ≤ 24 ∧ n % 2 = 0 ∧ ∀ H', Ex H H' → Q (.int (manyF s (n / 2) : Nat)) H'
section
variable {P : Program} {w : World} {K : PySem.W.Frag} {mg : Str → Option Value} {base : Heap} {f : Addr} {fd : FuncData}
theorem ok__law_asked (F : FnP K "_law_asked" s__law_asked f fd) (Z : Zs mg) {CRef M fI : Addr} (X_Refused : PySem.OwXword.OexT P K CRef M fI) (g_Refused : mg "Refused" = some (.ref CRef)) (G_neighbours : Fn P w K mg base (L2.CX P w) 6 "neighbours" s_neighbours ["sort", "code"] (spNeighs K CRef)) :
    FnOk P w K mg base CX0 7 f fd ["sort", "code"] (spAskedN K) := by
  refine F.ok sc__law_asked (fun vs H Q E h => ?_) (fun cdv A outer s H vs Q E hr h => ⟨_, PSs.nox (pss_one (ps_try_as (i := 2) (tb := fun W => tRet (tTupF (tCons (tC (.str "told")) (tCons (tCallS (spNeighs K CRef) (WE W) (tCons (tVar 0) (tCons (tVar 1) tNil))) tNil)))) (ts := fun a cls d => tRet (tTupF (tCons (tC (.str "refused")) (tCons (tBy_word CRef a cls d (tVar 2)) tNil)))) (Wout := fun _ _ _ _ => False) rfl rfl sc__law_asked.nd rfl rfl ⟨rfl, by decide, Or.inl g_Refused⟩ takes0
    (fun W pn xe tk _ => pss_one (ps_ret (pe_tupF (pa_cons pe_str (pa_cons (pe_callSF G_neighbours (hr.mono (by decide)) rfl (fun σ => passAt tk σ) (pa_cons (pv 0) (pa_cons (pv 1) pa_nil))) pa_nil)))))
    (fun a oe cls d pn hz hf => pss_one (ps_ret (pe_tupF (pa_cons pe_str (pa_cons (pe_by_word X_Refused hz hf (pv 2)) pa_nil))))))), ?_⟩)
  · obtain ⟨z, p, q, n, rows, rfl, _⟩ := h
    rfl
  · obtain ⟨z, p, q, n, rows, rfl, tc, co, h⟩ := h
    refine ⟨_, rfl, _, rfl, ?_⟩
    dsimp only [tNil]
    have s2 : (2 : Nat) ≤ sizeLine := by decide
    rcases h with ⟨ns, k⟩ | ⟨s, rfl, rfl, io, hn, few, k⟩
    · refine ⟨z, p, q, n, rows, rfl, tc, co, .inl ⟨ns, fun H1 e1 d hd => ?_⟩⟩
      refine ⟨true, X_Refused.te, fun _ a0 _ => ?_, fun q => Bool.noConfusion q⟩
      exact ⟨_, rfl, rfl, rfl, d, _, rfl, upd_same, ⟨s2, k.new (e1.trans (Ex.new hd))⟩⟩
    · refine ⟨s.s, p, s.q, n, rows, rfl, tc, co, .inr ⟨s, rfl, rfl, io, hn, few, fun t H1 e1 t1 => ⟨s2, fun T o hT ho => ?_⟩⟩⟩
      have eT := Ex.new (o := .frz o (.tup [V.str "told", .ref t])) hT
      exact k T t _ (e1.trans eT) (Tp.of ho upd_same) (t1.ex eT)
theorem ok__law_many (F : FnP K "_law_many" s__law_many f fd) (Z : Zs mg) (G__law_letters : Fn P w K mg base CX0 1 "_law_letters" s__law_letters ["sort"] (spSrt Srt.q)) : FnOk P w K mg base CX0 2 f fd ["sort", "length"] spMany := by
  refine F.ok sc__law_many (fun vs H Q E h => ?_) (fun cdv A outer s H vs Q E hr h => ⟨_, PSs.nox (pss_cons (ps_set (i := 2) sc__law_many.nd rfl (by first | exact Or.inl rfl | exact Or.inr rfl) pe_int)
  (pss_cons (ps_for PassesOwn.never rfl (pi_range1 (by rfl) Z.range (pa_cons (pe_op op_fdivW (pv 1) pe_int) pa_nil)) (pg_name (i := 3) sc__law_many.nd rfl (by first | exact Or.inl rfl | exact Or.inr rfl)) (pss_one (ps_set (i := 2) sc__law_many.nd rfl (by first | exact Or.inl rfl | exact Or.inr rfl) (pe_op op_mul (pv 2) (pe_callF G__law_letters (hr.mono (by decide)) rfl pass0 (pa_cons (pv 0) pa_nil))))))
  (pss_cons (ps_if (pt_cmpR op_eq (pv 1) pe_int (nomark _)) (pss_one (ps_ret pe_int)) pss_nil)
  (pss_one (ps_ret (pe_dget (hu_of hr) (pe_disp (pps_cons pe_str (pe_op op_sub (pv 2) pe_int) (pps_cons pe_str (pe_op op_sub (pe_op op_fdivW (pv 2) pe_int) pe_int) (pps_cons pe_str (pe_op op_fdivW (pe_op op_sub (pv 2) pe_int) pe_int) pps_nil))) (by rfl) (by rfl) (fun z => by cases z) (by decide)) (pv 0) (fun _ _ => rfl))))))), ?_⟩)
  · obtain ⟨s, n, rfl, _⟩ := h
    rfl
  · obtain ⟨s, n, rfl, hn, ev, k⟩ := h
    have q23 := s.q_le
    have pb : ∀ i : Nat, i ≤ 12 → s.q ^ i ≤ 3 ^ 12 := fun i hi => Nat.le_trans (Nat.pow_le_pow_left (by omega) i) (Nat.pow_le_pow_right (by decide) hi)
    refine ⟨_, rfl, _, _, rfl, rfl, ⟨by decide, by decide⟩, _, rfl, by omega, by omega, ?_⟩
    have e2 : ((n : Int) / 2).toNat = n / 2 := by omega
    rw [e2]
    refine for_range (lo := 0) (n := n / 2) (fun i σ H' => Ex H H' ∧ i ≤ 12 ∧ ∃ v3, σ = [some (.str s.s), some (.int (n : Int)), some (.int ((s.q ^ i : Nat) : Int)), v3]) ⟨Ex.refl _, by omega, none, rfl⟩ (fun i σ H' hi y => ?_) (fun σ H' y => ?_)
    · obtain ⟨ex, i12, v3, rfl⟩ := y
      have p1 := pb i i12
      refine ⟨_, rfl, _, rfl, s, rfl, fun H1 e1 => ?_⟩
      have p2 : (s.q ^ i) * s.q = s.q ^ (i + 1) := (Nat.pow_succ ..).symm
      refine ⟨_, _, rfl, rfl, .inr ⟨by omega, by omega⟩, ex.trans e1, by omega, some (.int ((0 : Int) + (i : Int))), ?_⟩
      rw [← p2]
      rfl
    · obtain ⟨ex, i12, v3, rfl⟩ := y
      refine ⟨_, rfl, rfl, _, rfl, ?_⟩
      rw [dec_int]
      cases c : (n : Int) == 0 with
      | true =>
        have : n = 0 := by simpa using c
        subst this
        exact iteT (k _ ex)
      | false =>
        have n0 : n ≠ 0 := fun z => by rw [z] at c; cases c
        refine iteF ?_
        have fin : (pick3 s (((s.q ^ (n / 2) : Nat) : Int) - 2) (((s.q ^ (n / 2) : Nat) : Int) / 2 - 1) ((((s.q ^ (n / 2) : Nat) : Int) - 1) / 2)) = ((manyF s (n / 2) : Nat) : Int) := by
          have k0 : n / 2 ≠ 0 := by omega
          have qp : 0 < s.q ^ (n / 2) := Nat.pow_pos (by omega)
          unfold manyF
          rw [if_neg k0]
          cases s
          · show ((2 ^ (n / 2) : Nat) : Int) - 2 = ((2 ^ (n / 2) - 2 : Nat) : Int)
            have : 2 ^ 1 ≤ 2 ^ (n / 2) := Nat.pow_le_pow_right (by decide) (by omega)
            omega
          · show ((2 ^ (n / 2) : Nat) : Int) / 2 - 1 = ((2 ^ (n / 2) / 2 - 1 : Nat) : Int)
            have : 2 ^ 1 ≤ 2 ^ (n / 2) := Nat.pow_le_pow_right (by decide) (by omega)
            omega
          · show (((3 ^ (n / 2) : Nat) : Int) - 1) / 2 = (((3 ^ (n / 2) - 1) / 2 : Nat) : Int)
            have : 0 < 3 ^ (n / 2) := qp
            omega
        generalize ((s.q ^ (n / 2) : Nat) : Int) = pw at fin ⊢
        refine fun p hp => ⟨_, rfl, _, _, rfl, rfl, _, rfl, _, _, rfl, rfl, ⟨by decide, by decide⟩, _, _, rfl, rfl, _, rfl, _, _, rfl, rfl, _, _, rfl, rfl, ⟨by decide, by decide⟩, upd_same, [(Sum.inr "two", .int (pw - 2)), (Sum.inr "twice", .int (pw / 2 - 1)), (Sum.inr "three", .int ((pw - 1) / 2))], rfl, by show 3 ≤ 15; decide, ?_⟩
        rw [upd_upd]
        refine ⟨_, rfl, p, _, rfl, get3 s upd_same, ?_⟩
        have := k _ (ex.trans (Ex.new (o := .dK (mergeK [] [(Sum.inr "two", .int (pw - 2)), (Sum.inr "twice", .int (pw / 2 - 1)), (Sum.inr "three", .int ((pw - 1) / 2))])) hp))
        rw [← fin] at this
        cases s <;> exact this
end
end K47

namespace K47
open PySem PySem.Spec PyProof.Rows L2 Evl Own
def spRowsOf (K : PySem.W.Frag) : Sp := fun vs H Q _ => ∃ q k : Nat, vs = [.int (q : Int), .int (k : Int)] ∧ 2 ≤ q ∧ q ≤ 3 ∧ k ≤ 100 ∧ q ^ k ≤ 1000 ∧ ∀ (D : Addr) (es : List Addr) (H' : Hp), Ex H H' → H D = none → H' D = some (.lst (es.map V.ref)) → LstG iL K H' es (endedL q k) → Q (.ref D) H'
theorem endedL_le {q k : Nat} (hq : 2 ≤ q) : (endedL q k).length ≤ q ^ k := by
  rcases endedL_len q k with h | h
  · have : (endedL q k).length * 1 ≤ (endedL q k).length * (q - 1) := Nat.mul_le_mul_left _ (by omega)
    omega
  · omega
/-- those with a last letter below some number -/
def msgsM (q k j : Nat) : List (List Int) := (List.range j).flatMap fun x : Nat => (msgsR q k).map fun m => m ++ [(x : Int)]
theorem msgsM_succ (q k j : Nat) : msgsM q k (j + 1) = msgsM q k j ++ (msgsR q k).map fun m => m ++ [(j : Int)] := by
  unfold msgsM
  rw [List.range_succ, List.flatMap_append, List.flatMap_cons, List.flatMap_nil, List.append_nil]
theorem msgsM_len (q k j : Nat) : (msgsM q k j).length = j * q ^ k := by
  unfold msgsM
  rw [flat_len (k := q ^ k) fun x _ => by rw [List.length_map, msgsR_len], List.length_range]
section
variable {P : Program} {w : World} {K : PySem.W.Frag} {mg : Str → Option Value} {base : Heap} {f : Addr} {fd : FuncData}
theorem ok__law_rows_of_worths (F : FnP K "_law_rows_of_worths" s__law_rows_of_worths f fd) (Z : Zs mg) : FnOk P w K mg base CX0 1 f fd ["letters", "many"] (spRowsOf K) := by
  refine F.ok sc__law_rows_of_worths (fun vs H Q E h => ?_) (fun cdv A outer s H vs Q E hr h => ⟨_, PSs.nox (pss_cons (ps_par (i := 2) (j := 3) rfl sc__law_rows_of_worths.nd rfl rfl (by decide) rfl rfl (pa_cons (pe_lst (pa_cons (pe_tupF pa_nil) pa_nil)) (pa_cons (pe_lst pa_nil) pa_nil)) (by rfl))
  (pss_cons (ps_for PassesOwn.never rfl (pi_range1 (by rfl) Z.range (pa_cons (pv 1) pa_nil)) (pg_name (i := 4) sc__law_rows_of_worths.nd rfl (by first | exact Or.inl rfl | exact Or.inr rfl)) (pss_cons (ps_set (i := 3) sc__law_rows_of_worths.nd rfl (by first | exact Or.inl rfl | exact Or.inr rfl) (pe_op op_cat (pe_lc (own := [("one", 5)]) (g := (gName 5)) rfl sc__law_rows_of_worths.nd (pi_list (pv 3)) (blkOk_by (own := [("one", 5)]) (N := ["letters", "many", "rows", "ended", "place", "one", "longer", "letter"]) (sc := defScope s__law_rows_of_worths) (by decide +kernel)) (fun _ _ _ _ _ => (pg_name (i := 5) sc__law_rows_of_worths.nd rfl (Or.inl rfl))) (fun _ _ _ _ _ => pts_nil) (fun _ _ _ _ _ => (pe_op (ko_cat (K := K)) (pv 5) (pe_tupF (pa_cons pe_int pa_nil))))) (pe_lc (own := [("one", 5)]) (g := (gName 5)) rfl sc__law_rows_of_worths.nd (pi_list (pv 2)) (blkOk_by (own := [("one", 5)]) (N := ["letters", "many", "rows", "ended", "place", "one", "longer", "letter"]) (sc := defScope s__law_rows_of_worths) (by decide +kernel)) (fun _ _ _ _ _ => (pg_name (i := 5) sc__law_rows_of_worths.nd rfl (Or.inl rfl))) (fun _ _ _ _ _ => pts_nil) (fun _ _ _ _ _ => (pe_op (ko_cat (K := K)) (pv 5) (pe_tupF (pa_cons pe_int pa_nil)))))))
  (pss_cons (ps_set (i := 6) sc__law_rows_of_worths.nd rfl (by first | exact Or.inl rfl | exact Or.inr rfl) (pe_lst pa_nil))
  (pss_cons (ps_for PassesOwn.never rfl (pi_range1 (by rfl) Z.range (pa_cons (pv 0) pa_nil)) (pg_name (i := 7) sc__law_rows_of_worths.nd rfl (by first | exact Or.inl rfl | exact Or.inr rfl)) (pss_one (ps_expr (km_bm (K := K) PySem.F.plainAttrs_list PySem.F.slot_list_extend PySem.F.type_list_extend mt_extend (pv 6) (pa_cons (pe_lc (own := [("one", 5)]) (g := (gName 5)) rfl sc__law_rows_of_worths.nd (pi_list (pv 2)) (blkOk_by (own := [("one", 5)]) (N := ["letters", "many", "rows", "ended", "place", "one", "longer", "letter"]) (sc := defScope s__law_rows_of_worths) (by decide +kernel)) (fun _ _ _ _ _ => (pg_name (i := 5) sc__law_rows_of_worths.nd rfl (Or.inl rfl))) (fun _ _ _ _ _ => pts_nil) (fun _ _ _ _ _ => (pe_op (ko_cat (K := K)) (pv 5) (pe_tupF (pa_cons (pv 7) pa_nil))))) pa_nil)))))
  (pss_one (ps_set (i := 2) sc__law_rows_of_worths.nd rfl (by first | exact Or.inl rfl | exact Or.inr rfl) (pv 6)))))))
  (pss_one (ps_ret (pv 3))))), ?_⟩)
  · obtain ⟨q, k, rfl, _⟩ := h
    rfl
  · obtain ⟨q, n, rfl, q0, q1, hn, few, k⟩ := h
    have s1 : (4000 : Nat) ≤ sizeLine := by decide
    refine ⟨by show 0 ≤ sizeLine; omega, fun e o he ho => ⟨by show 1 ≤ sizeLine; omega, fun R0 hR0 => ⟨by show 0 ≤ sizeLine; omega, fun E0 hE0 => ?_⟩⟩⟩
    have x1 := Ex.new (o := .frz o (.tup [])) he
    have x2 := Ex.new (o := .lst [V.ref e]) hR0
    have x3 := Ex.new (o := .lst []) hE0
    have HE : H E0 = none := fresh_back (x1.trans x2) hE0
    have te : Tp K (upd (upd (upd H e (.frz o (.tup []))) R0 (.lst [V.ref e])) E0 (.lst [])) e (iL []) := (Tp.of (K := K) ho (upd_same (H := H) (a := e) (o := .frz o (.tup [])))).ex (x2.trans x3)
    have hR : upd (upd (upd H e (.frz o (.tup []))) R0 (.lst [V.ref e])) E0 (.lst []) R0 = some (.lst (([e] : List Addr).map V.ref)) := x3 _ _ upd_same
    have hE : upd (upd (upd H e (.frz o (.tup []))) R0 (.lst [V.ref e])) E0 (.lst []) E0 = some (.lst (([] : List Addr).map V.ref)) := upd_same
    have ex := x1.trans (x2.trans x3)
    generalize upd (upd (upd H e (.frz o (.tup []))) R0 (.lst [V.ref e])) E0 (.lst []) = H1 at te hR hE ex ⊢
    refine ⟨_, _, rfl, _, rfl, _, rfl, by omega, by omega, ?_⟩
    rw [Int.toNat_natCast]
    refine for_range (lo := 0) (n := n) (fun i σ H' => Ex H H' ∧ ∃ R esR E esE v4 v6 v7, H' R = some (.lst (esR.map V.ref)) ∧ LstG iL K H' esR (msgsR q i) ∧ H' E = some (.lst (esE.map V.ref)) ∧ LstG iL K H' esE (endedL q i) ∧ H E = none ∧ σ = [some (.int (q : Int)), some (.int (n : Int)), some (.ref R), some (.ref E), v4, none, v6, v7])
      ⟨ex, R0, [e], E0, [], none, none, none, hR, LstG.nil.push (f := iL) te, hE, LstG.nil, HE, rfl⟩ (fun i σ H' hi y => ?_) (fun σ H' y => ?_)
    · obtain ⟨ex, R, esR, Ed, esE, v4, v6, v7, hR, lgR, hE, lgE, HE, rfl⟩ := y
      have pw : q ^ i ≤ 1000 := Nat.le_trans (Nat.pow_le_pow_right (by omega) (by omega)) few
      have el := endedL_le (k := i) q0
      have rlen := msgsR_len q i
      have sE : ∀ r ∈ endedL q i, r.length ≤ 100 := fun r h => by have := ((endedL_mem q0 i r).mp h).1.1; omega
      have sR : ∀ r ∈ msgsR q i, r.length ≤ 100 := fun r h => by have := ((msgsR_mem q i r).mp h).1; omega
      refine ⟨_, rfl, Ed, rfl, ⟨_, sq_of hE⟩, lcX (fun u acc H' => ∃ es, acc = es.map V.ref ∧ LstG iL K H' es (((endedL q i).take u).map fun m => m ++ [0]) ∧ u ≤ (endedL q i).length) (walk_list (xs := esE.map V.ref)) (fun D _ => ⟨[], rfl, LstG.nil, by omega⟩) (fun H' q => sq_of (q _ _ hE)) (fun u acc H' s => ?_) (fun u D acc G0 x G0' hi f0 hD hacc st y K1 K0 k1 k0 => ?_) (fun D acc J0 hD f0 hacc st => ?_)⟩
      · obtain ⟨es1, rfl, l, h2⟩ := s
        have := l.len
        rw [List.length_map, List.length_take] at this
        rw [List.length_map]
        omega
      · obtain ⟨rfl, g⟩ := y
        obtain ⟨es1, rfl, lge, _⟩ := st
        obtain ⟨z, r3, rfl, ge, gr, tz⟩ := (lgE.ex f0).get g
        have rl := sE r3 (List.mem_of_getElem? gr)
        have il : u < (endedL q i).length := (List.getElem?_eq_some_iff.mp gr).1
        refine ⟨rfl, yes_go ⟨_, rfl, by show 1 ≤ sizeLine; omega, fun b o hb ho => ?_⟩⟩
        have e2 := Ex.new (o := .frz o (.tup [V.int 0])) hb
        refine cat_ret (tz.ex e2) (Tp.of ho upd_same) (Nat.le_of_lt (sz_lt (by unfold iL; rw [List.length_map]; simp only [List.length_singleton]; omega))) e2 fun c H2 e3 hc => ?_
        refine k1 _ H2 e3 ⟨es1 ++ [c], by rw [List.map_append]; rfl, ?_, by omega⟩
        rw [List.take_add_one, gr, List.map_append]
        refine ((lge.ex e3).push (f := iL) (x := r3 ++ [0]) ?_).mut (e3 _ _ hacc)
        unfold iL at hc ⊢
        rw [List.map_append]
        exact hc
      · obtain ⟨es1, rfl, l1, _⟩ := st
        rw [List.length_map, lgE.len, List.take_length] at l1
        have hR1 := f0 _ _ hR
        have lgR1 := lgR.ex f0
        have ll1 := l1.len
        rw [List.length_map] at ll1
        have f01 := f0
        have hacc1 := hacc
        clear hacc f0 hD
        refine ⟨_, rfl, R, rfl, ⟨_, sq_of hR1⟩, lcX (fun u acc H' => ∃ es, acc = es.map V.ref ∧ LstG iL K H' es (((msgsR q i).take u).map fun m => m ++ [1]) ∧ u ≤ (msgsR q i).length) (walk_list (xs := esR.map V.ref)) (fun D _ => ⟨[], rfl, LstG.nil, by omega⟩) (fun H' q => sq_of (q _ _ hR1)) (fun u acc H' s => ?_) (fun u D acc G0 x G0' hi f0 hD hacc st y K1 K0 k1 k0 => ?_) (fun D acc J0 hD f0 hacc st => ?_)⟩
        · obtain ⟨es1, rfl, l, h2⟩ := s
          have := l.len
          rw [List.length_map, List.length_take] at this
          rw [List.length_map]
          omega
        · obtain ⟨rfl, g⟩ := y
          obtain ⟨es1, rfl, lge, _⟩ := st
          obtain ⟨z, r3, rfl, ge, gr, tz⟩ := (lgR1.ex f0).get g
          have rl := sR r3 (List.mem_of_getElem? gr)
          have il : u < (msgsR q i).length := (List.getElem?_eq_some_iff.mp gr).1
          refine ⟨rfl, yes_go ⟨_, rfl, by show 1 ≤ sizeLine; omega, fun b o hb ho => ?_⟩⟩
          have e2 := Ex.new (o := .frz o (.tup [V.int 1])) hb
          refine cat_ret (tz.ex e2) (Tp.of ho upd_same) (Nat.le_of_lt (sz_lt (by unfold iL; rw [List.length_map]; simp only [List.length_singleton]; omega))) e2 fun c H2 e3 hc => ?_
          refine k1 _ H2 e3 ⟨es1 ++ [c], by rw [List.map_append]; rfl, ?_, by omega⟩
          rw [List.take_add_one, gr, List.map_append]
          refine ((lge.ex e3).push (f := iL) (x := r3 ++ [1]) ?_).mut (e3 _ _ hacc)
          unfold iL at hc ⊢
          rw [List.map_append]
          exact hc
        · obtain ⟨es2, rfl, l2, _⟩ := st
          rw [List.length_map, lgR1.len, List.take_length] at l2
          have ll2 := l2.len
          rw [List.length_map, msgsR_len] at ll2
          have f2 := f0
          refine ⟨_, _, _, _, rfl, rfl, f2 _ _ hacc1, hacc, by rw [List.length_map, List.length_map]; omega, fun N hN => ?_⟩
          have exN := ex.trans (f01.trans f2)
          have HN : H N = none := fresh_back exN hN
          have eN := Ex.new (o := .lst (es1.map V.ref ++ es2.map V.ref)) hN
          have lN : LstG iL K (upd J0 N (.lst (es1.map V.ref ++ es2.map V.ref))) (es1 ++ es2) (endedL q (i + 1)) := ((l1.ex f2).ex eN).app (l2.ex eN)
          have hN' : upd J0 N (.lst (es1.map V.ref ++ es2.map V.ref)) N = some (.lst ((es1 ++ es2).map V.ref)) := by rw [List.map_append]; exact upd_same
          have hRN := (f2.trans eN) _ _ hR1
          have lgRN := lgR1.ex (f2.trans eN)
          replace exN := exN.trans eN
          generalize upd J0 N (.lst (es1.map V.ref ++ es2.map V.ref)) = H5 at eN lN hN' hRN lgRN exN ⊢
          refine ⟨by show 0 ≤ sizeLine; omega, fun L hL => ?_⟩
          have HL : H L = none := fresh_back exN hL
          have eL := Ex.new (o := .lst []) hL
          have RL : R ≠ L := fun z => by
            rw [← z, hRN] at hL
            cases hL
          have NL : N ≠ L := fun z => by
            rw [← z, hN'] at hL
            cases hL
          refine ⟨_, rfl, _, rfl, by omega, by omega, ?_⟩
          rw [Int.toNat_natCast]
          refine for_range (lo := 0) (n := q) (fun j σ H' => Ex H H' ∧ ∃ esL v7, H' R = some (.lst (esR.map V.ref)) ∧ LstG iL K H' esR (msgsR q i) ∧ H' N = some (.lst ((es1 ++ es2).map V.ref)) ∧ LstG iL K H' (es1 ++ es2) (endedL q (i + 1)) ∧ H' L = some (.lst (esL.map V.ref)) ∧ LstG iL K H' esL (msgsM q i j) ∧ σ = [some (.int (q : Int)), some (.int (n : Int)), some (.ref R), some (.ref N), some (.int ((0 : Int) + (i : Int))), none, some (.ref L), v7])
            ⟨exN.trans eL, [], _, eL _ _ hRN, lgRN.ex eL, eL _ _ hN', lN.ex eL, upd_same, LstG.nil, rfl⟩ (fun j σ H' hj y => ?_) (fun σ H' y => ?_)
          · obtain ⟨ex4, esL, v7, hR4, lgR4, hN4, lN4, hL4, lL4, rfl⟩ := y
            have e0 : (0 : Int) + (j : Int) = (j : Int) := by omega
            show gName _ (V.int ((0 : Int) + (j : Int))) _ _ _
            rw [e0]
            refine ⟨_, rfl, .inl ⟨rfl, _, sq_of hL4⟩, _, rfl, R, rfl, ⟨_, sq_of hR4⟩, lcX (fun u acc H' => ∃ es, acc = es.map V.ref ∧ LstG iL K H' es (((msgsR q i).take u).map fun m => m ++ [(j : Int)]) ∧ u ≤ (msgsR q i).length) (walk_list (xs := esR.map V.ref)) (fun D _ => ⟨[], rfl, LstG.nil, by omega⟩) (fun H' q => sq_of (q _ _ hR4)) (fun u acc H' s => ?_) (fun u D acc G0 x G0' hi f0 hD hacc st y K1 K0 k1 k0 => ?_) (fun D acc J0 hD f0 hacc st => ?_)⟩
            · obtain ⟨es1, rfl, l, h2⟩ := s
              have := l.len
              rw [List.length_map, List.length_take] at this
              rw [List.length_map]
              omega
            · obtain ⟨rfl, g⟩ := y
              obtain ⟨es1, rfl, lge, _⟩ := st
              obtain ⟨z, r3, rfl, ge, gr, tz⟩ := (lgR4.ex f0).get g
              have rl := sR r3 (List.mem_of_getElem? gr)
              have il : u < (msgsR q i).length := (List.getElem?_eq_some_iff.mp gr).1
              refine ⟨rfl, yes_go ⟨_, rfl, _, rfl, by show 1 ≤ sizeLine; omega, fun b o hb ho => ?_⟩⟩
              have e2 := Ex.new (o := .frz o (.tup [V.int (j : Int)])) hb
              refine cat_ret (tz.ex e2) (Tp.of ho upd_same) (Nat.le_of_lt (sz_lt (by unfold iL; rw [List.length_map]; simp only [List.length_singleton]; omega))) e2 fun c H2 e3 hc => ?_
              refine k1 _ H2 e3 ⟨es1 ++ [c], by rw [List.map_append]; rfl, ?_, by omega⟩
              rw [List.take_add_one, gr, List.map_append]
              refine ((lge.ex e3).push (f := iL) (x := r3 ++ [(j : Int)]) ?_).mut (e3 _ _ hacc)
              unfold iL at hc ⊢
              rw [List.map_append]
              exact hc
            · obtain ⟨es3, rfl, l3, _⟩ := st
              rw [List.length_map, lgR4.len, List.take_length] at l3
              have ll3 := l3.len
              rw [List.length_map, msgsR_len] at ll3
              have ll4 := lL4.len
              rw [msgsM_len] at ll4
              have jb : j * q ^ i ≤ 3 * 1000 := Nat.mul_le_mul (by omega) pw
              have hL5 := f0 _ _ hL4
              refine ⟨L, D, _, _, rfl, rfl, hL5, hacc, by rw [List.length_map, List.length_map]; omega, ?_⟩
              have em : esL.map V.ref ++ es3.map V.ref = (esL ++ es3).map V.ref := by rw [List.map_append]
              rw [em]
              refine ⟨ex_side (ex4.trans f0) HL, esL ++ es3, _, by rw [upd_ne RL]; exact f0 _ _ hR4, (lgR4.ex f0).mut hL5, by rw [upd_ne NL]; exact f0 _ _ hN4, (lN4.ex f0).mut hL5, upd_same, ?_, rfl⟩
              rw [msgsM_succ]
              exact ((lL4.ex f0).app l3).mut hL5
          · obtain ⟨ex4, esL, v7, hR4, lgR4, hN4, lN4, hL4, lL4, rfl⟩ := y
            exact ⟨_, rfl, ex4, L, esL, N, es1 ++ es2, _, _, _, hL4, lL4, hN4, lN4, HN, rfl⟩
    · obtain ⟨ex, R, esR, Ed, esE, v4, v6, v7, hR, lgR, hE, lgE, HE, rfl⟩ := y
      exact ⟨_, rfl, k Ed esE H' ex HE hE lgE⟩
end
end K47

namespace K47
open PySem PySem.Spec PyProof.Rows L2 Evl Own
def spAll (K : PySem.W.Frag) : Sp := fun vs H Q _ => ∃ (s : Srt) (p : Addr) (n : Nat) (rows : List (List Int)), vs = [.str s.s, .ref p] ∧ TpC K H p s.q n rows ∧ IsOwn s n rows ∧ n ≤ 24 ∧ s.q ^ rows.length ≤ 1000 ∧ ∀ (t : Addr) (H' : Hp), Ex H H' → TpCs K H' t s.q n (nbsF s n rows) → Q (.ref t) H'
theorem cut_to {xs : List V} {i : Nat} (h : i ≤ xs.length) : cutV xs none (some (i : Int)) = xs.take i := by
  unfold cutV
  have e1 : HT.sIx xs.length xs.length (some (i : Int)) = i := by
    rw [HT.sIx_nat]
    omega
  have e2 : HT.sIx xs.length 0 none = 0 := rfl
  rw [e1, e2, Nat.sub_zero]
  rfl
theorem set_parts : ∀ {xs : List Int} {p : Nat} {v : Int}, p < xs.length → xs.take p ++ [v] ++ xs.drop (p + 1) = xs.set p v
  | [], _, _, h => by cases h
  | x :: xs, 0, v, _ => rfl
  | x :: xs, p + 1, v, h => by
    have := set_parts (xs := xs) (p := p) (v := v) (by rw [List.length_cons] at h; omega)
    rw [List.take_succ_cons, List.cons_append, List.cons_append, List.drop_succ_cons, List.set_cons_succ, ← this]
theorem set_same {xs : List Int} {p : Nat} {v : Int} (h : xs.getD p 0 = v) : p < xs.length → xs.set p v = xs := fun l => by
  apply List.ext_getElem
  · rw [List.length_set]
  · intro i h1 h2
    rw [List.getElem_set]
    split
    · rename_i e
      subst e
      rw [← h, List.getD_eq_getElem?_getD, List.getElem?_eq_getElem l]
      rfl
    · rfl
section
variable {P : Program} {w : World} {K : PySem.W.Frag} {mg : Str → Option Value} {base : Heap} {f : Addr} {fd : FuncData}
theorem ok__law_all (F : FnP K "_law_all" s__law_all f fd) (Z : Zs mg) (G__law_rows_of_worths : Fn P w K mg base CX0 1 "_law_rows_of_worths" s__law_rows_of_worths ["letters", "many"] (spRowsOf K)) (G__law_first : Fn P w K mg base CX0 1 "_law_first" s__law_first ["row"] (spFirst K)) (G__law_plus : Fn P w K mg base CX0 1 "_law_plus" s__law_plus ["letters", "one", "other", "many"] (spPlus K)) (G__law_weight : Fn P w K mg base CX0 1 "_law_weight" s__law_weight ["row"] (spWeight K)) (G__law_by : Fn P w K mg base CX0 1 "_law_by" s__law_by ["sort"] (spSrt Srt.by_)) (G__law_led : Fn P w K mg base CX0 3 "_law_led" s__law_led ["letters", "rows", "row"] (spLed K)) :
    FnOk P w K mg base CX0 4 f fd ["sort", "code"] (spAll K) := by
  refine F.ok sc__law_all (fun vs H Q E h => ?_) (fun cdv A outer s H vs Q E hr h => ⟨_, PSs.nox (pss_cons (ps_asg (pv 1) (pg_tup rfl (pgs_cons (pg_name (i := 2) sc__law_all.nd rfl (by first | exact Or.inl rfl | exact Or.inr rfl)) (pgs_cons (pg_name (i := 3) sc__law_all.nd rfl (by first | exact Or.inl rfl | exact Or.inr rfl)) (pgs_cons (pg_name (i := 4) sc__law_all.nd rfl (by first | exact Or.inl rfl | exact Or.inr rfl)) pgs_nil)))))
  (pss_cons (ps_set (i := 5) sc__law_all.nd rfl (by first | exact Or.inl rfl | exact Or.inr rfl) (pe_lst pa_nil))
  (pss_cons (ps_for PassesOwn.never rfl (pi_list (pe_callF G__law_rows_of_worths (hr.mono (by decide)) rfl pass0 (pa_cons (pv 2) (pa_cons (pe_callB (kc_len (K := K)) (by rfl) Z.len PySem.boot_len (pa_cons (pv 4) pa_nil)) pa_nil)))) (pg_name (i := 6) sc__law_all.nd rfl (by first | exact Or.inl rfl | exact Or.inr rfl)) (pss_cons (ps_set (i := 7) sc__law_all.nd rfl (by first | exact Or.inl rfl | exact Or.inr rfl) (pe_op (ko_rep (K := K)) (pe_tupF (pa_cons pe_int pa_nil)) (pv 3)))
  (pss_cons (ps_set (i := 8) sc__law_all.nd rfl (by first | exact Or.inl rfl | exact Or.inr rfl) (pv 7))
  (pss_cons (ps_for PassesOwn.never rfl (pi_range1 (by rfl) Z.range (pa_cons (pe_callB (kc_len (K := K)) (by rfl) Z.len PySem.boot_len (pa_cons (pv 4) pa_nil)) pa_nil)) (pg_name (i := 9) sc__law_all.nd rfl (by first | exact Or.inl rfl | exact Or.inr rfl)) (pss_cons (ps_set (i := 10) sc__law_all.nd rfl (by first | exact Or.inl rfl | exact Or.inr rfl) (pe_callF G__law_first (hr.mono (by decide)) rfl pass0 (pa_cons (pe_ix (kx_tup (K := K)) (pv 4) (pv 9) (fun _ _ => rfl)) pa_nil)))
  (pss_cons (ps_set (i := 7) sc__law_all.nd rfl (by first | exact Or.inl rfl | exact Or.inr rfl) (pe_op (ko_cat (K := K)) (pe_op (ko_cat (K := K)) (pe_slice (ksl_tup (K := K)) (pv 7) po_none (po_some (pv 10))) (pe_tupF (pa_cons (pe_ix (kx_tup (K := K)) (pv 6) (pv 9) (fun _ _ => rfl)) pa_nil))) (pe_slice (ksl_tup (K := K)) (pv 7) (po_some (pe_op op_add (pv 10) pe_int)) po_none)))
  (pss_one (ps_if (pt_cmpR op_ne (pe_ix (kx_tup (K := K)) (pv 6) (pv 9) (fun _ _ => rfl)) pe_int (nomark _)) (pss_one (ps_set (i := 8) sc__law_all.nd rfl (by first | exact Or.inl rfl | exact Or.inr rfl) (pe_ix (kx_tup (K := K)) (pv 4) (pv 9) (fun _ _ => rfl)))) pss_nil)))))
  (pss_one (ps_for PassesOwn.never rfl (pi_range1 (by rfl) Z.range (pa_cons (pv 2) pa_nil)) (pg_name (i := 11) sc__law_all.nd rfl (by first | exact Or.inl rfl | exact Or.inr rfl)) (pss_cons (ps_set (i := 12) sc__law_all.nd rfl (by first | exact Or.inl rfl | exact Or.inr rfl) (pe_callF G__law_plus (hr.mono (by decide)) rfl pass0 (pa_cons (pv 2) (pa_cons (pv 7) (pa_cons (pv 8) (pa_cons (pv 11) pa_nil))))))
  (pss_one (ps_if (pt_cmpR op_eq (pe_op op_mod (pe_callTy call_int1 (by rfl) Z.int (by decide +kernel) (pa_cons (pe_callF G__law_weight (hr.mono (by decide)) rfl pass0 (pa_cons (pv 12) pa_nil)) pa_nil)) (pe_callF G__law_by (hr.mono (by decide)) rfl pass0 (pa_cons (pv 0) pa_nil))) pe_int (nomark _)) (pss_one (ps_expr (km_bm (K := K) PySem.F.plainAttrs_list PySem.F.slot_list_append PySem.F.type_list_append mt_append (pv 5) (pa_cons (pe_tupF (pa_cons (pv 2) (pa_cons (pv 3) (pa_cons (pe_callF G__law_led (hr.mono (by decide)) rfl pass0 (pa_cons (pv 2) (pa_cons (pv 4) (pa_cons (pv 12) pa_nil)))) pa_nil)))) pa_nil)))) pss_nil)))))))))
  (pss_one (ps_ret (pe_callTy (kc_tuple (K := K)) (by rfl) Z.tuple (by decide +kernel) (pa_cons (pe_callB (kc_sortedD (K := K) hr.units) (by rfl) Z.sorted (by decide +kernel) (pa_cons (pv 5) pa_nil)) pa_nil))))))), ?_⟩)
  · obtain ⟨s, p, n, rows, rfl, _⟩ := h
    rfl
  · obtain ⟨s, p, n, rows, rfl, ⟨r, hp, tr⟩, io, hn, few, k⟩ := h
    obtain ⟨es, hes, lg⟩ := id tr
    have el := lg.len
    have q23 := s.q_le
    have qq : s.q = 2 ∨ s.q = 3 := by omega
    have q0 := s.q_pos
    have half := io.half
    have bp : 0 < s.by_ := by cases s <;> decide
    have s1 : (4000 : Nat) ≤ sizeLine := by decide
    refine ⟨_, rfl, p, _, rfl, hp.sq, rfl, _, _, rfl, _, _, rfl, _, _, rfl, rfl, ?_⟩
    refine ⟨by show 0 ≤ sizeLine; omega, fun L5 hL5 => ?_⟩
    have e5 := Ex.new (o := .lst []) hL5
    have hL5' : upd H L5 (.lst []) L5 = some (.lst (([] : List Addr).map V.ref)) := upd_same
    generalize upd H L5 (.lst []) = H5 at e5 hL5' ⊢
    refine ⟨_, rfl, _, rfl, r, _, rfl, .inr (hes.ex e5).sq, s.q, rows.length, by rw [List.length_map, el]; rfl, by omega, by omega, by omega, few, fun D esD H6 e6 nD hD lD => ?_⟩
    have DL : D ≠ L5 := fun z => by
      rw [z, hL5'] at nD
      cases nD
    have wlen : (endedL s.q rows.length).length ≤ 1000 := Nat.le_trans (endedL_le (by omega)) few
    have wok : ∀ x ∈ endedL s.q rows.length, RowOk s.q rows.length x ∧ Ended x := fun x hx => (endedL_mem (by omega) _ x).mp hx
    have nl := nbs_law io
    generalize endedL s.q rows.length = W at lD wlen wok nl
    have l8 := lD.len
    refine ⟨D, rfl, ⟨_, sq_of hD⟩, for_it walk_list (fun i σ H' => Ex H H' ∧ H' D = some (.lst (esD.map V.ref)) ∧ LstG iL K H' esD W ∧ ∃ fs v6 v7 v8 v9 v10 v11 v12, H' L5 = some (.lst (fs.map V.ref)) ∧ LstR (fun e r => TpC K H' e s.q n r) fs (codesOf s n rows (W.take i)) ∧ fs.length ≤ 3 * i ∧ σ = [some (.str s.s), some (.ref p), some (.int (s.q : Nat)), some (.int (n : Int)), some (.ref r), some (.ref L5), v6, v7, v8, v9, v10, v11, v12])
      ⟨e5.trans e6, hD, lD, [], none, none, none, none, none, none, none, e6 _ _ hL5', LstR.nil, by simp, rfl⟩ (fun i σ H' _ h => sq_of h.2.1) (fun i x σ H' H'' hi h y => ?_) (fun σ H' h => ?_)⟩
    · obtain ⟨ex, hDx, lDx, fs, v6, v7, v8, v9, v10, v11, v12, hL', lr, fl, rfl⟩ := h
      obtain ⟨rfl, g⟩ := y
      obtain ⟨et, wd, rfl, ge, gr, tw⟩ := lDx.get g
      have wm := List.mem_of_getElem? gr
      obtain ⟨ow, ed⟩ := wok wd wm
      have il : i < W.length := (List.getElem?_eq_some_iff.mp gr).1
      have tk : W.take (i + 1) = W.take i ++ [wd] := by
        rw [List.take_add_one, gr]
        rfl
      rw [tk, codes_app, codes_one]
      unfold iL at tw
      refine ⟨by show 1 ≤ sizeLine; omega, fun z o hz ho => ⟨_, rfl, rep_one (by omega) (by omega) (fun a1 G1 f1 g1 => ?_) z o hz ho⟩⟩
      rw [Int.toNat_natCast] at g1
      have e0 : List.replicate n (V.int 0) = iL (uP n rows wd 0) := by
        unfold iL
        show _ = (List.replicate n (0 : Int)).map V.int
        rw [List.map_replicate]
      rw [e0] at g1
      refine ⟨_, rfl, _, rfl, r, _, rfl, .inr (hes.ex (ex.trans f1)).sq, _, rfl, by omega, by rw [List.length_map]; omega, ?_⟩
      rw [List.length_map, Int.toNat_natCast, el]
      refine for_range (lo := 0) (n := rows.length) (fun m σ H' => Ex G1 H' ∧ ∃ a la v9 v10, Tp K H' a (iL (uP n rows wd m)) ∧ ((∃ j, j < m ∧ wd.getD j 0 ≠ 0) → es[(List.range m).foldl (fun l i => if wd.getD i 0 ≠ 0 then i else l) 0]? = some la) ∧ σ = [some (.str s.s), some (.ref p), some (.int (s.q : Nat)), some (.int (n : Int)), some (.ref r), some (.ref L5), some (.ref et), some (.ref a), some (.ref la), v9, v10, v11, v12])
        ⟨Ex.refl _, a1, a1, v9, v10, g1, fun ⟨j, h, _⟩ => by omega, rfl⟩ (fun m σ H2 hm y => ?_) (fun σ H2 y => ?_)
      · obtain ⟨ex2, a, la, v9, v10, ta, hla, rfl⟩ := y
        have e0 : (0 : Int) + (m : Int) = (m : Int) := by omega
        show gName _ (V.int ((0 : Int) + (m : Int))) _ _ _
        rw [e0]
        have exA := ex.trans (f1.trans ex2)
        have ge2 : es[m]? = some es[m] := List.getElem?_eq_getElem (by omega)
        have gr2 : rows[m]? = some rows[m] := List.getElem?_eq_getElem hm
        have te := (lg.at_ _ _ _ ge2 gr2).ex exA
        have fo := io.red.fst _ (List.getElem_mem hm)
        have oo := io.red.ok _ (List.getElem_mem hm)
        have ul := uP_len (n := n) (rows := rows) (w := wd) m
        have tw2 := tw.ex (f1.trans ex2)
        have st : (List.range (m + 1)).foldl (fun l i => if wd.getD i 0 ≠ 0 then i else l) 0 = if wd.getD m 0 ≠ 0 then m else (List.range m).foldl (fun l i => if wd.getD i 0 ≠ 0 then i else l) 0 := by
          rw [List.range_succ, List.foldl_append]
          rfl
        have us : (uP n rows wd m).set (firstF rows[m]) (wd.getD m 0) = uP n rows wd (m + 1) := by
          rw [uP_succ, getD_row hm]
          by_cases c : wd.getD m 0 = 0
          · rw [if_neg (by simpa using c)]
            refine set_same ?_ (by rw [ul]; exact fo.1)
            have := uP_at (w := wd) io.red hm m (by omega)
            rw [getD_row hm, if_neg (by omega)] at this
            rw [this, c]
          · rw [if_pos c]
        refine ⟨_, rfl, _, rfl, r, _, _, .ref es[m], rfl, rfl, (hes.ex exA).sq, atI_nat (by rw [List.getElem?_map, ge2]; rfl), es[m], rows[m], rfl, te, by rw [oo.1]; omega, ?_⟩
        unfold iL at ta
        have fl2 : firstF rows[m] ≤ ((uP n rows wd m).map V.int).length := by rw [List.length_map, ul]; omega
        refine ⟨_, rfl, no_part ⟨_, rfl, _, rfl, sl_ret ta (fun c1 G2 f2 h2 => ?_)⟩⟩
        rw [cut_to fl2, ← List.map_take] at h2
        refine ⟨_, rfl, _, rfl, et, _, _, _, rfl, rfl, (tw2.ex f2).sq, atI_int (by rw [ow.1]; exact hm), by show 1 ≤ sizeLine; omega, fun c2 o2 hc2 ho2 => ?_⟩
        have ec2 := Ex.new (o := .frz o2 (.tup [V.int (wd.getD m 0)])) hc2
        have tc2 : Tp K (upd G2 c2 (.frz o2 (.tup [V.int (wd.getD m 0)]))) c2 [V.int (wd.getD m 0)] := Tp.of ho2 upd_same
        replace h2 := h2.ex ec2
        have f22 := f2.trans ec2
        generalize upd G2 c2 (.frz o2 (.tup [V.int (wd.getD m 0)])) = G3 at tc2 h2 f22 ⊢
        refine cat_ret h2 tc2 (Nat.le_of_lt (sz_lt (by rw [List.length_map, List.length_take]; simp only [List.length_singleton]; omega))) (Ex.refl _) fun c3 G4 f4 h4 => ?_
        have cd : cutV ((uP n rows wd m).map V.int) (some (((firstF rows[m] : Nat) : Int) + 1)) none = ((uP n rows wd m).map V.int).drop (firstF rows[m] + 1) := cut_at (i := firstF rows[m] + 1) (by rw [List.length_map, ul]; omega)
        refine ⟨_, rfl, _, rfl, _, _, rfl, rfl, _, rfl, no_part (sl_ret (ta.ex (f22.trans f4)) (fun c5 G5 f5 h5 => ?_))⟩
        rw [cd, ← List.map_drop] at h5
        refine cat_ret (h4.ex f5) h5 (Nat.le_of_lt (sz_lt (by simp only [List.length_append, List.length_map, List.length_take, List.length_drop, List.length_singleton]; omega))) (Ex.refl _) fun c6 G6 f6 h6 => ?_
        have e6' : (((uP n rows wd m).take (firstF rows[m])).map V.int ++ [V.int (wd.getD m 0)]) ++ ((uP n rows wd m).drop (firstF rows[m] + 1)).map V.int = iL (uP n rows wd (m + 1)) := by
          rw [← us, ← set_parts (by rw [ul]; exact fo.1)]
          unfold iL
          rw [List.map_append, List.map_append]
          rfl
        rw [e6'] at h6
        have f26 := f22.trans (f4.trans (f5.trans f6))
        refine ⟨_, rfl, _, rfl, et, _, _, _, rfl, rfl, (tw2.ex f26).sq, atI_int (by rw [ow.1]; exact hm), rfl, _, rfl, ?_⟩
        rw [dec_int]
        by_cases c : wd.getD m 0 = 0
        · rw [c]
          refine iteF ⟨ex2.trans f26, c6, la, _, _, h6, fun ⟨j, hj, nz⟩ => ?_, rfl⟩
          rw [st, if_neg (by simpa using c)]
          refine hla ⟨j, Nat.lt_of_le_of_ne (by omega) fun e => nz (e ▸ c), nz⟩
        · rw [beq_eq_false_iff_ne.mpr c]
          refine iteT ⟨_, rfl, _, rfl, r, _, _, .ref es[m], rfl, rfl, (hes.ex (exA.trans f26)).sq, atI_nat (by rw [List.getElem?_map, ge2]; rfl), ex2.trans f26, c6, es[m], _, _, h6, fun _ => ?_, rfl⟩
          rw [st, if_pos c, ge2]
      · obtain ⟨ex2, a, la, v9, v10, ta, hla, rfl⟩ := y
        have ta' : Tp K H2 a (iL (uF n rows wd)) := ta
        have il2 : lastF wd < rows.length := by rw [← ow.1]; exact ed.last.1.1
        have hla' : es[lastF wd]? = some la := by
          have e : (List.range rows.length).foldl (fun l i => if wd.getD i 0 ≠ 0 then i else l) 0 = lastF wd := by
            unfold lastF
            rw [ow.1]
          rw [← e]
          exact hla ⟨lastF wd, il2, ed.last.1.2.1⟩
        have gr2 : rows[lastF wd]? = some rows[lastF wd] := List.getElem?_eq_getElem il2
        have uo := uF_ok q0 io.red ow
        have oo := io.red.ok _ (List.getElem_mem il2)
        have cF : ∀ m : Nat, candF s n rows wd m = plusF s.q (uF n rows wd) rows[lastF wd] (m : Int) := fun m => by
          unfold candF candR
          rw [getD_row il2]
        have exB := f1.trans ex2
        have ms : ∀ i, (List.range (i + 1)).filter (fun m => decide (fitW s (candF s n rows wd m))) = (List.range i).filter (fun m => decide (fitW s (candF s n rows wd m))) ++ if fitW s (candF s n rows wd i) then [i] else [] := fun i => by
          rw [List.range_succ, List.filter_append, List.filter_cons]
          by_cases c : fitW s (candF s n rows wd i)
          · rw [if_pos (decide_eq_true c), if_pos c]
            rfl
          · rw [if_neg (by simpa using c), if_neg c]
            rfl
        refine ⟨_, rfl, _, rfl, by omega, by omega, ?_⟩
        rw [Int.toNat_natCast]
        refine for_range (lo := 0) (n := s.q) (fun m σ H' => Ex H H' ∧ H' D = some (.lst (esD.map V.ref)) ∧ LstG iL K H' esD W ∧ Tp K H' a (iL (uF n rows wd)) ∧ ∃ gs v11 v12, H' L5 = some (.lst (gs.map V.ref)) ∧ LstR (fun e r => TpC K H' e s.q n r) gs (codesOf s n rows (W.take i) ++ ((List.range m).filter (fun m => decide (fitW s (candF s n rows wd m)))).map fun m => nbF s.q n rows (candF s n rows wd m)) ∧ gs.length ≤ 3 * i + m ∧ σ = [some (.str s.s), some (.ref p), some (.int (s.q : Nat)), some (.int (n : Int)), some (.ref r), some (.ref L5), some (.ref et), some (.ref a), some (.ref la), v9, v10, v11, v12])
          ⟨ex.trans exB, exB _ _ hDx, lDx.ex exB, ta', fs, _, _, exB _ _ hL', by rw [List.range_zero, List.filter_nil, List.map_nil, List.append_nil]; exact lr.imp fun _ _ h => h.ex exB, by omega, rfl⟩ (fun m σ H3 hm y => ?_) (fun σ H3 y => ?_)
        · obtain ⟨ex3, hD3, lD3, ta3, gs, v11, v12, hL3, lr3, gl3, rfl⟩ := y
          have e0 : (0 : Int) + (m : Int) = (m : Int) := by omega
          show gName _ (V.int ((0 : Int) + (m : Int))) _ _ _
          rw [e0]
          have tl := (lg.at_ _ _ _ hla' gr2).ex ex3
          have co := cand_ok (i := lastF wd) (m := m) q0 io.red ow
          have cn : ¬ Sp s.q n rows (candF s n rows wd m) := cand_no io ow ed.last.1
          have wm1 := ms m
          refine ⟨_, rfl, _, rfl, _, rfl, _, rfl, s.q, n, a, la, _, rows[lastF wd], _, rfl, ta3, tl, by omega, by omega, by omega, uo.1, oo.1, by omega, by omega, fun t H4 e4 ht => ?_⟩
          rw [← cF] at ht
          have hL4 := e4 _ _ hL3
          refine ⟨_, rfl, t, _, rfl, ht, .inl ⟨_, rfl, _, rfl, s, rfl, fun H5 e5 => ⟨_, _, rfl, rfl, by omega, rfl, _, rfl, ?_⟩⟩⟩
          have e45 := e4.trans e5
          have fe : decide (V.int (((weightF (candF s n rows wd m) : Nat) : Int) % ((s.by_ : Nat) : Int)) = V.int 0) = fitB s (candF s n rows wd m) := by
            rw [← Int.natCast_emod]
            unfold fitB
            rw [show (0 : Int) = ((0 : Nat) : Int) from rfl, dec_nat]
            by_cases c : weightF (candF s n rows wd m) % s.by_ = 0
            · rw [c, decide_eq_true rfl]
              rfl
            · rw [decide_eq_false c, beq_eq_false_iff_ne.mpr c]
          rw [fe]
          cases c : fitB s (candF s n rows wd m) with
          | false =>
            rw [if_neg (fun h => by rw [fitB_iff.mpr h] at c; cases c), List.append_nil] at wm1
            exact iteF ⟨ex3.trans e45, e45 _ _ hD3, lD3.ex e45, ta3.ex e45, gs, _, _, e45 _ _ hL3, by rw [wm1]; exact lr3.imp fun _ _ h => h.ex e45, by omega, rfl⟩
          | true =>
            rw [if_pos (fitB_iff.mp c)] at wm1
            refine iteT ⟨_, rfl, .inl ⟨rfl, _, sq_of (e45 _ _ hL3)⟩, _, rfl, _, rfl, _, rfl, _, rfl, _, rfl, s.q, n, r, t, rows, _, rfl, tr.ex' (ex3.trans e45), ht.ex e5, by omega, by omega, qq, io.red, io.desc, co, fun t6 rows' H6 e6 t6r led => ⟨by show 3 ≤ sizeLine; omega, fun c7 o7 hc7 ho7 => ?_⟩⟩
            have ec7 := Ex.new (o := .frz o7 (.tup [V.int (s.q : Nat), V.int (n : Int), V.ref t6])) hc7
            have tc7 : TpC K (upd H6 c7 (.frz o7 (.tup [V.int (s.q : Nat), V.int (n : Int), V.ref t6]))) c7 s.q n rows' := ⟨t6, Tp.of ho7 upd_same, t6r.ex' ec7⟩
            have e47 := e45.trans (e6.trans ec7)
            generalize upd H6 c7 (.frz o7 (.tup [V.int (s.q : Nat), V.int (n : Int), V.ref t6])) = H7 at tc7 e47 ⊢
            have hL7 := e47 _ _ hL3
            have nb := LedR.nb qq io.red io.desc co cn led
            have nbe := nbF_eq q0 nb
            refine ⟨L5, _, _, rfl, rfl, hL7, sz_lt (by rw [List.length_map]; omega), ?_⟩
            have em : gs.map V.ref ++ [V.ref c7] = (gs ++ [c7]).map V.ref := by rw [List.map_append]; rfl
            rw [em]
            refine ⟨ex_side (ex3.trans e47) hL5, by rw [upd_ne DL]; exact e47 _ _ hD3, (lD3.ex e47).mut hL7, (ta3.ex e47).mut hL7, gs ++ [c7], _, _, upd_same, ?_, by rw [List.length_append, List.length_singleton]; omega, rfl⟩
            rw [wm1, List.map_append (f := fun m => nbF s.q n rows (candF s n rows wd m)), ← List.append_assoc]
            refine LstR.push ((lr3.imp fun _ _ h => (h.ex e47).mut hL7)) ?_
            show TpC K _ c7 s.q n (nbF s.q n rows (candF s n rows wd m))
            rw [show nbF s.q n rows (candF s n rows wd m) = rows' from nbe]
            exact tc7.mut hL7
        · obtain ⟨ex3, hD3, lD3, ta3, gs, v11, v12, hL3, lr3, gl3, rfl⟩ := y
          exact ⟨ex3, hD3, lD3, gs, _, _, _, _, _, _, _, hL3, lr3, by omega, rfl⟩
    · obtain ⟨ex, hDx, lDx, fs, v6, v7, v8, v9, v10, v11, v12, hL', lr, fl, rfl⟩ := h
      rw [List.length_map, l8, List.take_length] at lr
      refine ⟨_, rfl, List (List Int), fun e r => TpC K H' e s.q n r, codeD s.q n, L5, fs, _, rfl, sq_of hL', lr, fun e r h => dp_code h, codes_alike _ _ _, codes_sortable _ _ _, fun x _ => Nat.le_trans (lay_codeD _ _ _).2 (by decide), fun es' M lr' hM => ?_⟩
      refine ⟨M, _, rfl, .inl ⟨sq_of upd_same, fun t o ht ho => ?_⟩⟩
      have eM := Ex.new (o := .lst (es'.map V.ref)) hM
      have et := Ex.new (o := .frz o (.tup (es'.map V.ref))) ht
      refine k t _ (ex.trans (eM.trans et)) ?_
      rw [nl]
      exact ⟨es', Tp.of ho upd_same, lr'.imp fun _ _ h => h.ex (eM.trans et)⟩
end
end K47

/-! A neighbour is one dimension apart. -/
namespace Own
open PySem PySem.W
section
variable {q n k : Nat} {rows rows' f : List (List Int)} {w w' row v d : List Int} {i m m' : Nat} {s : Srt}
theorem zero_plus_at (d : List Int) (h : d.length = n) (m : Int) (j : Nat) : (plusF q (List.replicate n 0) d m).getD j 0 = (m * d.getD j 0) % (q : Int) := by
  rw [plusF_at (by rw [List.length_replicate, h]), rep_at, Int.zero_add]
theorem red_diff (hq : 0 < q) (ok : ∀ r ∈ rows, RowOk q n r) : ∀ (rs : List (List Int)) (v : List Int), (∀ r ∈ rs, r ∈ rows) → RowOk q n v → ∃ c, Sp q n rows c ∧ redF q rs v = plusF q v c 1
  | [], v, _, hv => ⟨List.replicate n 0, Sp.zero, by
      show v = _
      refine row_ext (n := n) hv.1 (by rw [plusF_len, hv.1]) fun j => ?_
      rw [plusF_at (by rw [hv.1, List.length_replicate]), rep_at, Int.mul_zero, Int.add_zero]
      by_cases c : j < v.length
      · have := hv.2 _ (Own.getD_mem c)
        rw [Int.emod_eq_of_lt this.1 this.2]
      · rw [getD_over (by omega)]
        rfl⟩
  | r :: rs, v, h, hv => by
    have rm := h r (List.mem_cons_self ..)
    have or_ := ok r rm
    obtain ⟨c2, h2, e2⟩ := red_diff hq ok rs (redStep q v r) (fun x hx => h x (List.mem_cons_of_mem _ hx)) (redStep_ok hq hv)
    show ∃ c, Sp q n rows c ∧ redF q rs (redStep q v r) = _
    unfold redStep at e2 ⊢
    by_cases c : v.getD (firstF r) 0 ≠ 0
    · rw [if_pos c] at e2 ⊢
      refine ⟨plusF q c2 r ((q : Int) - v.getD (firstF r) 0), h2.add _ rm, ?_⟩
      rw [e2]
      have l2 := (h2.ok hq).1
      refine row_ext (n := n) (by rw [plusF_len, plusF_len, hv.1]) (by rw [plusF_len, hv.1]) fun j => ?_
      rw [plusF_at (by rw [plusF_len, hv.1, l2]), plusF_at (by rw [hv.1, or_.1]), plusF_at (by rw [plusF_len, hv.1, l2]), plusF_at (by rw [l2, or_.1]), Int.one_mul, Int.one_mul, Int.emod_add_emod, Int.add_emod_emod]
      congr 1
      omega
    · rw [if_neg c] at e2 ⊢
      exact ⟨c2, h2, e2⟩
/-- what is left of a word of a neighbour: the row's, so many times -/
theorem nb_left (hq : 0 < q) (hR : Red q n rows) (hr : RowOk q n row) (nb : NbR q n rows row rows') (hv : Sp q n rows' v) : ∃ m : Int, redF q rows v = plusF q (List.replicate n 0) (redF q rows row) m := by
  obtain ⟨a, m, ha, _, ev⟩ := (nb.span v).mp hv
  have ov := hv.ok hq
  obtain ⟨c, hc, ec⟩ := red_diff hq hR.ok rows v (fun r h => h) ov
  obtain ⟨c', hc', ec'⟩ := red_diff hq hR.ok rows row (fun r h => h) hr
  refine ⟨m, ?_⟩
  have la := (ha.ok hq).1
  have lc := (hc.ok hq).1
  have lc' := (hc'.ok hq).1
  have od := redF_ok (rows := rows) hq hr
  have ox := redF_ok (rows := rows) hq ov
  have sp : Sp q n rows (plusF q (plusF q a c 1) c' (-m)) := (ha.plus hq hR.ok hc 1).plus hq hR.ok hc' (-m)
  have key : ∀ j, (plusF q (plusF q a c 1) c' (-m)).getD j 0 = ((redF q rows v).getD j 0 - m * (redF q rows row).getD j 0) % (q : Int) := fun j => by
    rw [ec, ec', plusF_at (by rw [plusF_len, la, lc']), plusF_at (by rw [la, lc]), plusF_at (by rw [ov.1, lc]), plusF_at (by rw [hr.1, lc']), ev, plusF_at (by rw [la, hr.1])]
    generalize a.getD j 0 = A
    generalize c.getD j 0 = C
    generalize c'.getD j 0 = C'
    generalize row.getD j 0 = R
    rw [Int.one_mul, Int.one_mul, Int.emod_add_emod, Int.emod_add_emod, Int.sub_emod, Int.emod_emod, Int.mul_emod m, Int.emod_emod, ← Int.mul_emod, ← Int.sub_emod]
    congr 1
    rw [Int.mul_add, Int.neg_mul]
    omega
  have z := sp.none hq hR fun r hm => by
    rw [key, redF_kill hq hR ov r hm, redF_kill hq hR hr r hm, Int.mul_zero]
    rfl
  refine row_ext (n := n) ox.1 (by rw [plusF_len, List.length_replicate]) fun j => ?_
  rw [zero_plus_at _ od.1]
  have z2 := z j
  rw [key] at z2
  have b := ox.at j hq
  generalize (redF q rows v).getD j 0 = X at z2 b ⊢
  generalize (redF q rows row).getD j 0 = D at z2 ⊢
  have t := Int.emod_eq_emod_iff_emod_sub_eq_zero.mpr z2
  rw [Int.emod_eq_of_lt b.1 b.2] at t
  exact t
theorem line_sp (hq : 0 < q) (hd : d.length = n) (h : ∀ r ∈ rows, ∃ m : Int, r = plusF q (List.replicate n 0) d m) (hv : Sp q n rows v) : ∃ m : Int, v = plusF q (List.replicate n 0) d m := by
  induction hv with
  | zero =>
    refine ⟨0, ?_⟩
    refine row_ext (n := n) (List.length_replicate ..) (by rw [plusF_len, List.length_replicate]) fun j => ?_
    rw [zero_plus_at d hd, rep_at, Int.zero_mul]
    rfl
  | @add x r m2 _ hr ih =>
    obtain ⟨m1, rfl⟩ := ih
    obtain ⟨m3, rfl⟩ := h r hr
    refine ⟨m1 + m2 * m3, ?_⟩
    refine row_ext (n := n) (by rw [plusF_len, plusF_len, List.length_replicate]) (by rw [plusF_len, List.length_replicate]) fun j => ?_
    rw [plusF_at (by rw [plusF_len, plusF_len]), zero_plus_at d hd, zero_plus_at d hd, zero_plus_at d hd, Int.emod_add_emod, Int.add_emod, Int.mul_emod m2, Int.emod_emod, ← Int.mul_emod, ← Int.add_emod]
    congr 1
    rw [Int.add_mul, Int.mul_assoc]
theorem apart_one (h : IsOwn s n rows) (hr : RowOk s.q n row) (no : ¬ Sp s.q n rows row) (nb : NbR s.q n rows row rows') (st : StepsR s.q (rows'.map (redF s.q rows)) f) : f.length = 1 := by
  have q0 := s.q_pos
  have hd := (left_of q0 h.red hr).mp no
  have od := redF_ok (rows := rows) q0 hr
  have okg : ∀ r ∈ rows'.map (redF s.q rows), RowOk s.q n r := fun r hm => by
    obtain ⟨v, hv, rfl⟩ := List.mem_map.mp hm
    exact redF_ok q0 (nb.red.ok v hv)
  obtain ⟨fr, _, fs, _⟩ := st.all s.q23 okg
  have ln : ∀ r ∈ rows'.map (redF s.q rows), ∃ m : Int, r = plusF s.q (List.replicate n 0) (redF s.q rows row) m := fun r hm => by
    obtain ⟨v, hv, rfl⟩ := List.mem_map.mp hm
    exact nb_left q0 h.red hr nb (Sp.mem q0 (nb.red.ok v hv) hv)
  generalize redF s.q rows row = d at hd od ln
  have ff : ∀ r ∈ f, firstF r = firstF d := fun r hm => by
    have or_ := fr.ok r hm
    have fo := fr.fst r hm
    obtain ⟨m, e⟩ := line_sp q0 od.1 ln ((fs r).mp (Sp.mem q0 or_ hm))
    have at_ : ∀ j, r.getD j 0 = (m * d.getD j 0) % (s.q : Int) := fun j => by rw [e, zero_plus_at d od.1]
    have bd := od.at (firstF d) q0
    have un := unit_worth s.q23 bd (first_not hd)
    refine first_of (by rw [or_.1, ← od.1]; exact hd) (fun j hj => ?_) fun z => ?_
    · rw [at_, first_zero hj, Int.mul_zero]
      rfl
    · have m0 : m % (s.q : Int) = 0 := by
        have z1 := at_ (firstF d)
        rw [z] at z1
        have : (m * d.getD (firstF d) 0 * d.getD (firstF d) 0) % (s.q : Int) = 0 := by
          rw [Int.mul_emod, ← z1, Int.zero_mul]
          rfl
        rw [Int.mul_assoc, Int.mul_emod, un, Int.mul_one, Int.emod_emod] at this
        exact this
      have z3 := at_ (firstF r)
      rw [fo.2, Int.mul_emod, m0, Int.zero_mul] at z3
      cases z3
  have le : f.length ≤ 1 := by
    refine Nat.le_of_not_lt fun g => ?_
    have o := List.pairwise_iff_getElem.mp fr.off 0 1 (by omega) g (by decide)
    have a := fr.fst f[0] (List.getElem_mem _)
    have e : firstF f[0] = firstF f[1] := (ff _ (List.getElem_mem _)).trans (ff _ (List.getElem_mem _)).symm
    have o1 := o.1
    rw [← e, a.2] at o1
    cases o1
  have ge : f ≠ [] := fun e => by
    subst e
    refine no (Sp.mono q0 h.red.ok ((nb.span row).mpr ⟨List.replicate n 0, 1, Sp.zero, ?_, ?_⟩) fun v hv => ?_)
    · exact Sp.worth (rows := []) (n := n) q0 (by simp) Sp.zero (by simp)
    · refine row_ext (n := n) hr.1 (by rw [plusF_len, List.length_replicate]) fun j => ?_
      rw [zero_plus_at row hr.1, Int.one_mul]
      have b := hr.at j q0
      rw [Int.emod_eq_of_lt b.1 b.2]
    · have ov := nb.red.ok v hv
      refine gone_sp q0 h.red ov ?_
      have sv : Sp s.q n [] (redF s.q rows v) := (fs _).mpr (Sp.mem q0 (okg _ (List.mem_map_of_mem hv)) (List.mem_map_of_mem hv))
      have z := sv.none q0 Red.nil (by simp)
      have := first_none (xs := redF s.q rows v) fun j _ => z j
      rw [this, (redF_ok q0 ov).1]
  have : 0 < f.length := List.length_pos_iff.mpr ge
  omega
end
end Own

namespace K47
open PySem PySem.Spec PyProof.Rows L2 Evl Own
def spApart (K : PySem.W.Frag) : Sp := fun vs H Q _ => ∃ (s : Srt) (n : Nat) (p r : Addr) (rows' rows : List (List Int)) (row : List Int), vs = [.int (s.q : Int), .ref p, .ref r] ∧ TpR K H p rows' ∧ TpR K H r rows ∧ n ≤ 24 ∧ IsOwn s n rows ∧ IsOwn s n rows' ∧ RowOk s.q n row ∧ ¬ Sp s.q n rows row ∧ NbR s.q n rows row rows' ∧ ∀ H', Ex H H' → Q (.int 1) H'
section
variable {P : Program} {w : World} {K : PySem.W.Frag} {mg : Str → Option Value} {base : Heap} {f : Addr} {fd : FuncData}
theorem ok__law_apart (F : FnP K "_law_apart" s__law_apart f fd) (Z : Zs mg) (G__law_first : Fn P w K mg base CX0 1 "_law_first" s__law_first ["row"] (spFirst K)) (G__law_plus : Fn P w K mg base CX0 1 "_law_plus" s__law_plus ["letters", "one", "other", "many"] (spPlus K)) (G__law_steps : Fn P w K mg base CX0 3 "_law_steps" s__law_steps ["letters", "rows"] (spSteps K)) :
    FnOk P w K mg base CX0 4 f fd ["letters", "one", "other"] (spApart K) := by
  refine F.ok sc__law_apart (fun vs H Q E h => ?_) (fun cdv A outer s H vs Q E hr h => ⟨_, PSs.nox (pss_cons (ps_set (i := 3) sc__law_apart.nd rfl (by first | exact Or.inl rfl | exact Or.inr rfl) (pe_lst pa_nil))
  (pss_cons (ps_for PassesOwn.never rfl (pi_tup (pv 1)) (pg_name (i := 4) sc__law_apart.nd rfl (by first | exact Or.inl rfl | exact Or.inr rfl)) (pss_cons (ps_set (i := 5) sc__law_apart.nd rfl (by first | exact Or.inl rfl | exact Or.inr rfl) (pv 4))
  (pss_cons (ps_for PassesOwn.never rfl (pi_tup (pv 2)) (pg_name (i := 6) sc__law_apart.nd rfl (by first | exact Or.inl rfl | exact Or.inr rfl)) (pss_cons (ps_set (i := 7) sc__law_apart.nd rfl (by first | exact Or.inl rfl | exact Or.inr rfl) (pe_ix (kx_tup (K := K)) (pv 5) (pe_callF G__law_first (hr.mono (by decide)) rfl pass0 (pa_cons (pv 6) pa_nil)) (fun _ _ => rfl)))
  (pss_one (ps_if (pt_cmpR op_ne (pv 7) pe_int (nomark _)) (pss_one (ps_set (i := 5) sc__law_apart.nd rfl (by first | exact Or.inl rfl | exact Or.inr rfl) (pe_callF G__law_plus (hr.mono (by decide)) rfl pass0 (pa_cons (pv 0) (pa_cons (pv 5) (pa_cons (pv 6) (pa_cons (pe_op op_sub (pv 0) (pv 7)) pa_nil))))))) pss_nil))))
  (pss_one (ps_expr (km_bm (K := K) PySem.F.plainAttrs_list PySem.F.slot_list_append PySem.F.type_list_append mt_append (pv 3) (pa_cons (pv 5) pa_nil)))))))
  (pss_one (ps_ret (pe_callB (kc_len (K := K)) (by rfl) Z.len PySem.boot_len (pa_cons (pe_callF G__law_steps (hr.mono (by decide)) rfl pass0 (pa_cons (pv 0) (pa_cons (pv 3) pa_nil))) pa_nil)))))), ?_⟩)
  · obtain ⟨s, n, p, r, rows', rows, row, rfl, _⟩ := h
    rfl
  · obtain ⟨s, n, p, r, rows', rows, row, rfl, ⟨es', hes', lg'⟩, ⟨es, hes, lg⟩, hn, io, io', ro, no, nb, k⟩ := h
    have el := lg.len
    have el' := lg'.len
    have q23 := s.q_le
    have qq : s.q = 2 ∨ s.q = 3 := by omega
    have q0 := s.q_pos
    have half := io.half
    have half' := io'.half
    have s1 : (4000 : Nat) ≤ sizeLine := by decide
    refine ⟨by show 0 ≤ sizeLine; omega, fun L hL => ?_⟩
    have eL := Ex.new (o := .lst []) hL
    have hL' : upd H L (.lst []) L = some (.lst (([] : List Addr).map V.ref)) := upd_same
    generalize upd H L (.lst []) = H1 at eL hL' ⊢
    refine ⟨_, rfl, p, rfl, ⟨_, (hes'.ex eL).sq⟩, for_it walk_tup (fun i σ H' => Ex H H' ∧ ∃ fs v4 v5 v6 v7, H' L = some (.lst (fs.map V.ref)) ∧ LstG iL K H' fs ((rows'.take i).map (redF s.q rows)) ∧ fs.length ≤ i ∧ σ = [some (.int (s.q : Int)), some (.ref p), some (.ref r), some (.ref L), v4, v5, v6, v7])
      ⟨eL, [], none, none, none, none, hL', LstG.nil, by simp, rfl⟩ (fun i σ H' _ h => (hes'.ex h.1).sq) (fun i x σ H' H'' hi h y => ?_) (fun σ H' h => ?_)⟩
    · obtain ⟨ex, fs, v4, v5, v6, v7, hL2, lf, fl, rfl⟩ := h
      obtain ⟨rfl, g⟩ := y
      obtain ⟨e, one, rfl, ge, gr, te⟩ := (lg'.ex ex).get g
      have om := List.mem_of_getElem? gr
      have oo := io'.red.ok one om
      have il : i < rows'.length := (List.getElem?_eq_some_iff.mp gr).1
      refine ⟨_, rfl, _, rfl, r, rfl, ⟨_, (hes.ex ex).sq⟩, for_it walk_tup (fun j σ H3 => Ex H'' H3 ∧ ∃ l v6 v7, Tp K H3 l (iL (redF s.q (rows.take j) one)) ∧ σ = [some (.int (s.q : Int)), some (.ref p), some (.ref r), some (.ref L), some (.ref e), some (.ref l), v6, v7])
        ⟨Ex.refl _, e, _, _, te, rfl⟩ (fun j σ H3 _ h => (hes.ex (ex.trans h.1)).sq) (fun j x σ H3 H4 hj h y => ?_) (fun σ H3 h => ?_)⟩
      · obtain ⟨ex3, l, v6, v7, tl, rfl⟩ := h
        obtain ⟨rfl, g3⟩ := y
        obtain ⟨e3, kn, rfl, ge3, gr3, te3⟩ := (lg.ex (ex.trans ex3)).get g3
        have km := List.mem_of_getElem? gr3
        have ok := io.red.ok kn km
        have fk := io.red.fst kn km
        have lo := redF_ok (rows := rows.take j) q0 oo
        have tk := redF_take (q := s.q) (row := one) gr3
        rw [tk]
        generalize redF s.q (rows.take j) one = left at tl lo tk ⊢
        have lb := lo.at (firstF kn) q0
        refine ⟨_, rfl, _, rfl, e3, kn, rfl, te3, by rw [ok.1]; omega, l, _, _, .int (left.getD (firstF kn) 0), rfl, rfl, tl.sq, atI_int (by rw [lo.1]; exact fk.1), ?_⟩
        refine ⟨_, rfl, rfl, _, rfl, ?_⟩
        rw [dec_int]
        unfold redStep
        by_cases c : left.getD (firstF kn) 0 = 0
        · rw [c, if_neg (by simp)]
          exact iteF ⟨ex3, l, _, _, tl, rfl⟩
        · rw [beq_eq_false_iff_ne.mpr c, if_pos c]
          refine iteT ⟨_, rfl, _, rfl, _, rfl, _, rfl, _, rfl, _, _, rfl, rfl, s.q, n, l, e3, left, kn, _, rfl, tl, te3, by omega, by omega, by omega, lo.1, ok.1, by omega, by omega, fun t5 H5 e5 h5 => ?_⟩
          exact ⟨ex3.trans e5, t5, _, _, h5, rfl⟩
      · obtain ⟨ex3, l, v6, v7, tl, rfl⟩ := h
        rw [List.length_map, el, List.take_length] at tl
        have hL3 := ex3 _ _ hL2
        refine ⟨_, rfl, .inl ⟨rfl, _, sq_of hL3⟩, _, rfl, L, _, _, rfl, rfl, hL3, sz_lt (by rw [List.length_map]; omega), ?_⟩
        have em : fs.map V.ref ++ [V.ref l] = (fs ++ [l]).map V.ref := by rw [List.map_append]; rfl
        rw [em]
        refine ⟨ex_side (ex.trans ex3) hL, fs ++ [l], _, _, _, _, upd_same, ?_, by rw [List.length_append, List.length_singleton]; omega, rfl⟩
        rw [List.take_add_one, gr, List.map_append (f := redF s.q rows)]
        exact ((lf.ex ex3).push (f := iL) (x := redF s.q rows one) tl).mut hL3
    · obtain ⟨ex, fs, v4, v5, v6, v7, hL2, lf, fl, rfl⟩ := h
      rw [List.length_map, el', List.take_length] at lf
      refine ⟨_, rfl, _, rfl, s.q, n, false, L, _, rfl, ⟨fs, hL2, lf⟩, by omega, by rw [List.length_map]; omega, qq, fun x hx => ?_, fun t f5 H5 e5 t5 st => ?_⟩
      · obtain ⟨v, hv, rfl⟩ := List.mem_map.mp hx
        exact redF_ok q0 (io'.red.ok v hv)
      · obtain ⟨es5, h5, l5⟩ := t5
        refine ⟨t, _, rfl, .inr h5.sq, ?_⟩
        have := apart_one io ro no nb st
        rw [List.length_map, l5.len, this]
        exact k H5 (ex.trans e5)
end
end K47

/-! All neighbours as data. -/
namespace Own
open PySem PySem.W PySem.Spec L2
section
variable {q n k : Nat} {rows rows' f : List (List Int)} {w w' row v d : List Int} {i m m' : Nat} {s : Srt}
theorem led_ex (h : IsOwn s n rows) (hr : RowOk s.q n row) (no : ¬ Sp s.q n rows row) : ∃ r, LedR s.q rows row r := by
  have q0 := s.q_pos
  have lm := led_more q0 h.red h.desc hr ((left_of q0 h.red hr).mp no)
  let ul := unitF s.q (redF s.q (ledK s.q rows row) row)
  let X := ul :: (ledK s.q rows row).map (clrF s.q ul)
  let le : List Int → List Int → Bool := fun x y => !HT.lexLt x y
  refine ⟨X.mergeSort le, .inr ⟨lm, List.mergeSort_perm _ _, ?_⟩⟩
  have tr : ∀ a b c : List Int, le a b = true → le b c = true → le a c = true := fun a b c h1 h2 => by
    simp only [le, Bool.not_eq_true'] at h1 h2 ⊢
    exact NtL.lex_tr c b a h2 h1
  have tot : ∀ a b : List Int, (le a b || le b a) = true := fun a b => by
    simp only [le]
    exact lex_tot a b
  exact (List.pairwise_mergeSort tr tot X).imp fun h => by simpa [le] using h
theorem NbR.own (h : IsOwn s n rows) (hr : RowOk s.q n row) (ft : fitW s row) (no : ¬ Sp s.q n rows row) (nb : NbR s.q n rows row rows') : IsOwn s n rows' := by
  obtain ⟨r, l⟩ := led_ex h hr no
  rw [nb.unique s.q_pos (LedR.nb s.q23 h.red h.desc hr no l)]
  exact h.led hr ft no l
theorem eqv_codeD (xs ys : List (List Int)) : PyData.eqv (codeD q n xs) (codeD q n ys) = decide (xs = ys) := by
  have h := eqv_rowsD xs ys
  unfold codeD
  rw [PyData.eqv]
  simp only [PyData.eqvAll, h, Bool.and_true]
  have e : ∀ i : Int, PyData.eqv (.int i) (.int i) = true := fun i => by rw [PyData.eqv]; simp
  rw [e, e, Bool.true_and, Bool.true_and]
def codesD (q n : Nat) (cs : List (List (List Int))) : PyData := .tuple (cs.map (codeD q n))
theorem lay_codes (q n : Nat) : ∀ cs : List (List (List Int)), PyData.canLayAll0 (cs.map (codeD q n)) = true ∧ PyData.depthAll (cs.map (codeD q n)) ≤ 3
  | [] => by simp [PyData.canLayAll0, PyData.depthAll]
  | r :: cs => by
    have h := lay_codeD q n r
    have ih := lay_codes q n cs
    rw [List.map_cons, PyData.canLayAll0, PyData.depthAll, h.1, ih.1]
    exact ⟨rfl, by omega⟩
theorem lay_codesD (q n : Nat) (cs : List (List (List Int))) : (codesD q n cs).canLay0 = true ∧ (codesD q n cs).depth ≤ 4 := by
  have h := lay_codes q n cs
  unfold codesD
  constructor
  · rw [PyData.canLay0, h.1]
  · rw [PyData.depth]
    omega
theorem sh_codesD (q n : Nat) (cs : List (List (List Int))) : SeqAt.shaped (codesD q n cs) = true := sh_of ⟨(lay_codesD q n cs).1, Nat.le_trans (lay_codesD q n cs).2 (by decide)⟩
theorem plain_codes (q n : Nat) (cs : List (List (List Int))) : PyData.plainAll (cs.map (codeD q n)) = true := PyData.plainAll_of_canLay0 _ (lay_codes q n cs).1
theorem plain_code (q n : Nat) (r : List (List Int)) : (codeD q n r).plain = true := PyData.plain_of_canLay0 _ (lay_codeD q n r).1
theorem any_codes (q n : Nat) {cs : List (List (List Int))} {r : List (List Int)} (h : r ∈ cs) : ((cs.map (codeD q n)).any fun z => PyData.eqv z (codeD q n r)) = true := by
  rw [List.any_eq_true]
  exact ⟨codeD q n r, List.mem_map_of_mem h, by rw [eqv_codeD]; exact decide_eq_true rfl⟩
theorem count_codes (q n : Nat) {cs : List (List (List Int))} {r : List (List Int)} (nd : cs.Nodup) (h : r ∈ cs) : ((cs.map (codeD q n)).countP fun z => PyData.eqv z (codeD q n r)) = 1 := by
  rw [List.countP_map]
  have e : ((fun z => PyData.eqv z (codeD q n r)) ∘ codeD q n) = fun x => decide (x = r) := funext fun x => eqv_codeD x r
  rw [e]
  induction cs with
  | nil => cases h
  | cons c cs ih =>
    rw [List.countP_cons]
    obtain ⟨n1, n2⟩ := List.nodup_cons.mp nd
    by_cases c0 : c = r
    · subst c0
      rw [if_pos (by simp)]
      have : cs.countP (fun x => decide (x = c)) = 0 := by
        rw [List.countP_eq_zero]
        intro a ha
        have : a ≠ c := fun z => n1 (z ▸ ha)
        simpa using this
      rw [this]
    · rw [if_neg (by simpa using c0)]
      rcases List.mem_cons.mp h with e | h
      · exact absurd e.symm c0
      · rw [ih n2 h]
theorem atI_ex {α : Type} {xs : List α} {i : Int} (h0 : -(xs.length : Int) ≤ i) (h1 : i < xs.length) : ∃ (j : Nat) (x : α), atI xs i = some x ∧ xs[j]? = some x := by
  unfold atI
  have e : ∃ j, ixN xs.length i = some j ∧ j < xs.length := by
    unfold ixN
    by_cases c : 0 ≤ i
    · rw [if_pos c, if_pos h1]
      exact ⟨_, rfl, by omega⟩
    · rw [if_neg c]
      by_cases c2 : -(xs.length : Int) ≤ i
      · rw [if_pos c2]
        exact ⟨_, rfl, by omega⟩
      · exact absurd h0 c2
  obtain ⟨j, e1, e2⟩ := e
  refine ⟨j, xs[j], ?_, List.getElem?_eq_getElem e2⟩
  rw [e1]
  exact List.getElem?_eq_getElem e2
/-- how many there are, for long codes -/
theorem many_pos {k : Nat} (h : 4 ≤ k) : 2 ≤ manyF s k := by
  have : 2 ^ 4 ≤ 2 ^ k := Nat.pow_le_pow_right (by decide) h
  have : 3 ^ 4 ≤ 3 ^ k := Nat.pow_le_pow_right (by decide) h
  unfold manyF
  rw [if_neg (by omega)]
  cases s <;> simp <;> omega
theorem with_count {q n : Nat} {rows rows' : List (List Int)} {row : List Int} (hq : 0 < q) (hR : Red q n rows) (hr : RowOk q n row) (h : WithR q rows row rows') : rows'.length = rows.length ↔ Sp q n rows row := by
  have lf := left_of hq hR hr
  constructor
  · intro e
    refine Classical.byContradiction fun no => ?_
    have lt := lf.mp no
    rcases h with ⟨z, _⟩ | ⟨_, p, _⟩
    · omega
    · rw [p.length_eq, List.length_cons, List.length_map] at e
      omega
  · intro s
    rcases h with ⟨_, rfl⟩ | ⟨z, _⟩
    · rfl
    · exact absurd s (lf.mpr z)
end
end Own

namespace K47
open PySem PySem.Spec PyProof.Rows L2 Evl Own
def spNoSort : Sp := fun vs H Q _ => ∃ (a : Addr) (R : Hp), vs = [.ref a] ∧ Bx a R H ∧ ∀ (z : Str) (H' : Hp), z ∉ dSTEPS.map (·.1) → Bx a R H' → Q (.str z) H'
def changedL (z : Str) : List Str := [z ++ "s", Txt.slice z (some 1) none, z ++ " ", (" " : Str) ++ z, Txt.upper z, Txt.slice z none (some (-1)), z ++ z, "own", "code", ""]
def moreL (z : Str) : List Str := ["one", "four", "2", "thrice", Txt.replace z "t" "T", z ++ "\n"]
theorem no_sorts (s : Srt) : ∀ z ∈ changedL s.s ++ moreL s.s, z ∉ dSTEPS.map (·.1) := by
  cases s <;> decide +kernel
theorem s_len (s : Srt) : s.s.length ≤ 5 := by
  cases s <;> decide
section
variable {P : Program} {w : World} {K : PySem.W.Frag} {mg : Str → Option Value} {base : Heap} {f : Addr} {fd : FuncData}
theorem ok__law_no_sort (F : FnP K "_law_no_sort" s__law_no_sort f fd) (Z : Zs mg) (G__law_pick : Fn P w K mg base CX0 2 "_law_pick" s__law_pick ["box", "some"] (spPick K)) : FnOk P w K mg base CX0 3 f fd ["box"] spNoSort := by
  refine F.ok sc__law_no_sort (fun vs H Q E h => ?_) (fun cdv A outer s H vs Q E hr h => ⟨_, PSs.nox (pss_cons (ps_set (i := 1) sc__law_no_sort.nd rfl (by first | exact Or.inl rfl | exact Or.inr rfl) (pe_callF G__law_pick (hr.mono (by decide)) rfl pass0 (pa_cons (pv 0) (pa_cons (pe_lst (pa_cons pe_str (pa_cons pe_str (pa_cons pe_str pa_nil)))) pa_nil))))
  (pss_cons (ps_set (i := 2) sc__law_no_sort.nd rfl (by first | exact Or.inl rfl | exact Or.inr rfl) (pe_lst (pa_cons (pe_op op_add_str (pv 1) pe_str) (pa_cons (pe_slice C8.sl_txt (pv 1) (po_some pe_int) po_none) (pa_cons (pe_op op_add_str (pv 1) pe_str) (pa_cons (pe_op op_add_str pe_str (pv 1)) (pa_cons (km_bm0 (K := K) PySem.F.plainAttrs_str PySem.F.slot_str_upper PySem.F.type_str_upper mt_upper (pv 1)) (pa_cons (pe_slice C8.sl_txt (pv 1) po_none (po_some (pe_un un_neg pe_int))) (pa_cons (pe_op op_add_str (pv 1) (pv 1)) (pa_cons pe_str (pa_cons pe_str (pa_cons pe_str pa_nil))))))))))))
  (pss_one (ps_ret (pe_callF G__law_pick (hr.mono (by decide)) rfl pass0 (pa_cons (pv 0) (pa_cons (pe_op op_cat (pv 2) (pe_lst (pa_strT (pat_cons (CwR.PET.of pe_str) (pat_cons (CwR.PET.of pe_str) (pat_cons (CwR.PET.of pe_str) (pat_cons (CwR.pet_replC (pv 1)) (pat_cons (CwR.PET.of (pe_op op_add_str (pv 1) pe_str)) pat_nil)))))))) pa_nil))))))), ?_⟩)
  · obtain ⟨a, R, rfl, _⟩ := h
    rfl
  · obtain ⟨a, R, rfl, hw, k⟩ := h
    refine ⟨_, rfl, by show 3 ≤ sizeLine; decide, fun L hL => ?_⟩
    have RL := hw.free hL
    have w1 := hw.new (o := .lst [V.str "two", .str "twice", .str "three"]) hL
    refine ⟨a, L, false, _, [V.str "two", .str "twice", .str "three"], rfl, w1, sqb_l upd_same, by simp, by show 3 ≤ 100; decide, fun i v H2 hv w2 => ?_⟩
    have w3 := w2.weak (Ex.new RL)
    have hs : ∃ s : Srt, v = .str s.s := by
      have h := List.mem_of_getElem? hv
      rcases List.mem_cons.mp h with rfl | h
      · exact ⟨.two, rfl⟩
      rcases List.mem_cons.mp h with rfl | h
      · exact ⟨.twice, rfl⟩
      · rw [List.mem_singleton.mp h]
        exact ⟨.three, rfl⟩
    obtain ⟨s, rfl⟩ := hs
    have ns := no_sorts s
    have sl := s_len s
    have ss : ∀ {n : Nat}, n ≤ 20 → n ≤ sizeLine := fun h => Nat.le_trans h (by decide)
    generalize s.s = z at *
    refine ⟨_, rfl, _, _, rfl, rfl, ss (by show z.length + 1 ≤ 20; omega), ?_⟩
    refine ⟨_, rfl, 1, rfl, z, rfl, ss (by omega), ?_⟩
    refine ⟨_, rfl, _, _, rfl, rfl, ss (by show z.length + 1 ≤ 20; omega), ?_⟩
    refine ⟨_, rfl, _, _, rfl, rfl, ss (by show 1 + z.length ≤ 20; omega), ?_⟩
    refine ⟨_, rfl, rfl, z, rfl, rfl, Nat.le_trans (show z.length ≤ 20 by omega) (by decide), ?_⟩
    refine ⟨_, rfl, _, rfl, _, rfl, z, rfl, ss (by omega), ?_⟩
    refine ⟨_, rfl, _, rfl, _, _, rfl, rfl, ss (by show z.length + z.length ≤ 20; omega), ?_⟩
    refine ⟨by show 10 ≤ sizeLine; decide, fun M hM => ?_⟩
    have RM := w3.free hM
    have w4 := w3.new (o := .lst ((changedL z).map V.str)) hM
    have e4 := Ex.new (o := .lst ((changedL z).map V.str)) RM
    have M4 : upd R M (.lst ((changedL z).map V.str)) M = some (.lst ((changedL z).map V.str)) := upd_same
    have h17 : z.length + (z.length + 1) * 1 ≤ 16777216 := by omega
    refine ⟨_, rfl, _, rfl, _, rfl, z, rfl, h17, _, rfl, _, _, rfl, rfl, ss (by show z.length + 1 ≤ 20; omega), by show 6 ≤ sizeLine; decide, fun N hN => ?_⟩
    generalize upd R M (.lst ((changedL z).map V.str)) = R4 at w4 e4 M4
    have hN' : (upd H2 M (.lst ((changedL z).map V.str))) N = none := hN
    clear hN
    have w5 := w4.new (o := .lst ((moreL z).map V.str)) hN'
    have e5 := Ex.new (o := .lst ((moreL z).map V.str)) (w4.free hN')
    have N5 : upd R4 N (.lst ((moreL z).map V.str)) N = some (.lst ((moreL z).map V.str)) := upd_same
    have M5 := e5 _ _ M4
    refine ⟨M, N, (changedL z).map V.str, (moreL z).map V.str, rfl, rfl, w5.ex _ _ M5, w5.ex _ _ N5, by show 10 + 6 ≤ sizeLine; decide, fun O hO => ?_⟩
    have w6 := w5.new (o := .lst ((changedL z ++ moreL z).map V.str)) hO
    have e6 := Ex.new (o := .lst ((changedL z ++ moreL z).map V.str)) (w5.free hO)
    refine ⟨a, O, false, upd (upd R4 N (.lst ((moreL z).map V.str))) O (.lst ((changedL z ++ moreL z).map V.str)), (changedL z ++ moreL z).map V.str, rfl, ?_, sqb_l upd_same, by simp [changedL], by show 16 ≤ 100; decide, fun i v H7 hv w7 => ?_⟩
    · have := w6
      rw [List.map_append] at this
      exact this
    · rw [List.getElem?_map] at hv
      cases hx : (changedL z ++ moreL z)[i]? with
      | none =>
        rw [hx] at hv
        cases hv
      | some y =>
        rw [hx] at hv
        cases hv
        exact k y H7 (ns y (List.mem_of_getElem? hx)) (((w7.weak e6).weak e5).weak e4)
end
end K47

namespace K47
open PySem PySem.Spec PyProof.Rows L2 Evl Own
theorem _root_.Own.LstG.set {α : Type} {f : α → List V} {K : PySem.W.Frag} {H : Hp} {es : List Addr} {xs : List α} {e : Addr} {x : α} (l : LstG f K H es xs) (t : Tp K H e (f x)) (i : Nat) : LstG f K H (es.set i e) (xs.set i x) := by
  refine ⟨by rw [List.length_set, List.length_set, l.len], fun j a y h1 h2 => ?_⟩
  rw [List.getElem?_set] at h1 h2
  by_cases c : i = j
  · rw [if_pos c] at h1 h2
    split at h1
    · split at h2
      · cases h1
        cases h2
        exact t
      · cases h2
    · cases h1
  · rw [if_neg c] at h1 h2
    exact l.at_ j a y h1 h2
theorem _root_.Own.LstG.erase {α : Type} {f : α → List V} {K : PySem.W.Frag} {H : Hp} {es : List Addr} {xs : List α} (l : LstG f K H es xs) (i : Nat) : LstG f K H (es.eraseIdx i) (xs.eraseIdx i) := by
  refine ⟨by rw [List.length_eraseIdx, List.length_eraseIdx, l.len], fun j a y h1 h2 => ?_⟩
  rw [List.getElem?_eraseIdx] at h1 h2
  by_cases c : j < i
  · rw [if_pos c] at h1 h2
    exact l.at_ j a y h1 h2
  · rw [if_neg c] at h1 h2
    exact l.at_ _ a y h1 h2
theorem erase_map {α β : Type} (f : α → β) : ∀ (l : List α) (i : Nat), (l.map f).eraseIdx i = (l.eraseIdx i).map f
  | [], _ => rfl
  | _ :: _, 0 => rfl
  | x :: xs, i + 1 => by rw [List.map_cons, List.eraseIdx_cons_succ, List.eraseIdx_cons_succ, List.map_cons, erase_map f xs i]
theorem one_of_sorts {i : Nat} {v : V} (h : [V.str "two", V.str "twice", V.str "three"][i]? = some v) : ∃ s : Srt, v = .str s.s := by
  rcases i with _ | _ | _ | i
  · cases h
    exact ⟨.two, rfl⟩
  · cases h
    exact ⟨.twice, rfl⟩
  · cases h
    exact ⟨.three, rfl⟩
  · cases h
def spStranger (K : PySem.W.Frag) : Sp := fun vs H Q _ => ∃ (a : Addr) (R : Hp) (s : Srt) (n : Nat), vs = [.ref a, .str s.s, .int (n : Int)] ∧ Bx a R H ∧ n ≤ 24 ∧ n % s.step = 0 ∧ 0 < n ∧ ∀ (p : Addr) (q : Nat) (rows : List (List Int)) (R1 H1 : Hp), Ex R R1 → Bx a R1 H1 → TpC K R1 p q n rows → CodeOk q n rows → ofSortB s q n rows = false → Q (.ref p) H1
theorem lastR_ok {q n : Nat} (hq : 2 ≤ q) (h : 0 < n) : RowOk q n (List.replicate (n - 1) 0 ++ [1]) ∧ worthF q (List.replicate (n - 1) 0 ++ [1]) (List.replicate (n - 1) 0 ++ [1]) ≠ 0 := by
  have ok : RowOk q n (List.replicate (n - 1) 0 ++ [1]) := by
    refine ⟨by rw [List.length_append, List.length_replicate]; simp only [List.length_singleton]; omega, fun x hx => ?_⟩
    rcases List.mem_append.mp hx with hx | hx
    · rw [List.eq_of_mem_replicate hx]
      omega
    · rw [List.mem_singleton.mp hx]
      omega
  refine ⟨ok, ?_⟩
  have lo : ∀ i, i < n - 1 → (List.replicate (n - 1) (0 : Int) ++ [1]).getD i 0 = 0 := fun i hi => by
    rw [List.getD_eq_getElem?_getD, List.getElem?_append_left (by rw [List.length_replicate]; exact hi), ← List.getD_eq_getElem?_getD, rep_at]
  have hi : (List.replicate (n - 1) (0 : Int) ++ [1]).getD (n - 1) 0 = 1 := by
    rw [List.getD_eq_getElem?_getD, List.getElem?_append_right (by rw [List.length_replicate]; exact Nat.le_refl _), List.length_replicate, Nat.sub_self]
    rfl
  unfold worthF
  rw [dot_sumN ok.1, sumN_one n (n - 1) (by omega) fun i h1 h2 => by rw [lo i (by omega), Int.zero_mul], hi]
  rw [Int.emod_eq_of_lt (by decide) (by omega)]
  decide
/-- rows with one that is not worth nought with itself span no code within its mirror -/
theorem not_inside {q n : Nat} {gens f : List (List Int)} {e : List Int} (hq : q = 2 ∨ q = 3) (st : StepsR q gens f) (ok : ∀ r ∈ gens, RowOk q n r) (he : e ∈ gens) (nz : worthF q e e ≠ 0) : insideB q f = false := by
  have q0 : 0 < q := by omega
  obtain ⟨h1, h2, h3, h4⟩ := st.all hq ok
  cases c : insideB q f with
  | false => rfl
  | true =>
    have ii := inside_iff.mp c
    have all : ∀ a ∈ f, ∀ b ∈ f, worthF q a b = 0 := fun a ha b hb => by
      obtain ⟨i, hi, rfl⟩ := List.getElem_of_mem ha
      obtain ⟨j, hj, rfl⟩ := List.getElem_of_mem hb
      rcases Nat.lt_trichotomy i j with l | l | l
      · exact List.pairwise_iff_getElem.mp ii.2 i j hi hj l
      · subst l
        exact ii.1 _ (List.getElem_mem _)
      · rw [worth_comm (h1.ok _ (List.getElem_mem hi)).1 (h1.ok _ (List.getElem_mem hj)).1]
        exact List.pairwise_iff_getElem.mp ii.2 j i hj hi l
    have es := (h3 e).mpr (Sp.mem q0 (ok e he) he)
    exact absurd (es.worths q0 h1.ok all es) nz
theorem not_sort {s : Srt} {q n : Nat} {rows : List (List Int)} (h : ownB q n rows = false) : ofSortB s q n rows = false := by
  unfold ofSortB
  rw [h]
  simp
end K47

namespace K47
open PySem PySem.Spec PyProof.Rows L2 Evl Own
def otherS : Srt → Srt
  | .two => .three
  | .twice => .three
  | .three => .two
theorem dec_twice (s : Srt) : decide (V.str s.s = V.str "twice") = decide (s = .twice) := by cases s <;> decide
section
variable {P : Program} {w : World} {K : PySem.W.Frag} {mg : Str → Option Value} {base : Heap} {f : Addr} {fd : FuncData}
theorem ok__law_stranger (F : FnP K "_law_stranger" s__law_stranger f fd) (Z : Zs mg) (G__law_letters : Fn P w K mg base CX0 1 "_law_letters" s__law_letters ["sort"] (spSrt Srt.q)) (G__law_take : Fn P w K mg base CX0 1 "_law_take" s__law_take ["box", "many"] spTake) (G__law_own : Fn P w K mg base CX0 5 "_law_own" s__law_own ["box", "sort", "length", "turns"] (spOwn K)) (G__law_weight : Fn P w K mg base CX0 1 "_law_weight" s__law_weight ["row"] (spWeight K)) (G__law_steps : Fn P w K mg base CX0 3 "_law_steps" s__law_steps ["letters", "rows"] (spSteps K)) :
    FnOk P w K mg base CX0 6 f fd ["box", "sort", "length"] (spStranger K) := by
  refine F.ok sc__law_stranger (fun vs H Q E h => ?_) (fun cdv A outer s H vs Q E hr h => ⟨_, PSs.nox (pss_cons (ps_par (i := 3) (j := 4) rfl sc__law_stranger.nd rfl rfl (by decide) rfl rfl (pa_cons (pe_callF G__law_letters (hr.mono (by decide)) rfl pass0 (pa_cons (pv 1) pa_nil)) (pa_cons (pe_callF G__law_take (hr.mono (by decide)) rfl pass0 (pa_cons (pv 0) (pa_cons pe_int pa_nil))) pa_nil)) (by rfl))
  (pss_cons (ps_if (PW.pt (pw_and (pt_cmpR op_eq (pv 4) pe_int (nomark _)) (pw_and1 (pt_cmpR op_eq (pv 1) pe_str (nomark _))))) (pss_cons (ps_set (i := 5) sc__law_stranger.nd rfl (by first | exact Or.inl rfl | exact Or.inr rfl) (pe_callF G__law_own (hr.mono (by decide)) rfl pass0 (pa_cons (pv 0) (pa_cons pe_str (pa_cons (pv 2) (pa_cons pe_int pa_nil))))))
  (pss_one (ps_if (pt_val (pe_callB (cr_any rfl) (by rfl) Z.any (by decide +kernel) (pa_cons (pe_lc (own := [("row", 6)]) (g := (gName 6)) rfl sc__law_stranger.nd (pi_seqB (pv 5)) (blkOk_by (own := [("row", 6)]) (N := ["box", "sort", "length", "letters", "kind", "rows", "row", "at"]) (sc := defScope s__law_stranger) (by decide +kernel)) (fun _ _ _ _ _ => (pg_name (i := 6) sc__law_stranger.nd rfl (Or.inl rfl))) (fun _ _ _ _ _ => pts_nil) (fun _ _ _ _ _ => (pe_cmpR op_gt (pe_op op_mod (pe_callTy call_int1 (by rfl) Z.int (by decide +kernel) (pa_cons (pe_callF G__law_weight (hr.mono (by decide)) rfl pass0 (pa_cons (pv 6) pa_nil)) pa_nil)) pe_int) pe_int (nomark _)))) pa_nil))) (pss_one (ps_ret (pe_tupF (pa_cons pe_int (pa_cons (pv 2) (pa_cons (pv 5) pa_nil)))))) pss_nil))) pss_nil)
  (pss_cons (ps_if (PW.pt (pw_and (pt_cmpR op_eq (pv 4) pe_int (nomark _)) (pw_and (pt_cmpR op_lt (pv 2) pe_int (nomark _)) (pw_and1 (pt_cmpR op_eq (pe_op op_mod (pe_callTy call_int1 (by rfl) Z.int (by decide +kernel) (pa_cons (pv 2) pa_nil)) pe_int) pe_int (nomark _)))))) (pss_one (ps_ret (pe_tupF (pa_cons (pe_op op_sub pe_int (pv 3)) (pa_cons (pv 2) (pa_cons (pe_callF G__law_own (hr.mono (by decide)) rfl pass0 (pa_cons (pv 0) (pa_cons (pe_ix (kx_list (K := K)) (pe_lst (pa_cons pe_str (pa_cons pe_str pa_nil))) (pe_op op_sub (pv 3) pe_int) (fun _ _ => rfl)) (pa_cons (pv 2) (pa_cons pe_int pa_nil))))) pa_nil)))))) pss_nil)
  (pss_cons (ps_set (i := 5) sc__law_stranger.nd rfl (by first | exact Or.inl rfl | exact Or.inr rfl) (pe_callTy (kc_list (K := K)) (by rfl) Z.list (by decide +kernel) (pa_cons (pe_callF G__law_own (hr.mono (by decide)) rfl pass0 (pa_cons (pv 0) (pa_cons (pv 1) (pa_cons (pv 2) (pa_cons pe_int pa_nil))))) pa_nil)))
  (pss_cons (ps_set (i := 7) sc__law_stranger.nd rfl (by first | exact Or.inl rfl | exact Or.inr rfl) (pe_callF G__law_take (hr.mono (by decide)) rfl pass0 (pa_cons (pv 0) (pa_cons (pe_callB (kc_len (K := K)) (by rfl) Z.len PySem.boot_len (pa_cons (pv 5) pa_nil)) pa_nil))))
  (pss_cons (ps_if (pt_cmpR op_eq (pv 4) pe_int (nomark _)) (pss_cons (ps_asg (pe_op (ko_cat (K := K)) (pe_op (ko_rep (K := K)) (pe_tupF (pa_cons pe_int pa_nil)) (pe_op op_sub (pv 2) pe_int)) (pe_tupF (pa_cons pe_int pa_nil))) (pg_sub (pv 5) (pv 7) set_list))
  (pss_one (ps_ret (pe_tupF (pa_cons (pv 3) (pa_cons (pv 2) (pa_cons (pe_callF G__law_steps (hr.mono (by decide)) rfl pass0 (pa_cons (pv 3) (pa_cons (pv 5) pa_nil))) pa_nil))))))) pss_nil)
  (pss_cons (ps_expr (km_bm (K := K) PySem.F.plainAttrs_list PySem.F.slot_list_pop PySem.F.type_list_pop mt_popAt (pv 5) (pa_cons (pv 7) pa_nil)))
  (pss_one (ps_ret (pe_tupF (pa_cons (pv 3) (pa_cons (pv 2) (pa_cons (pe_callTy (kc_tuple (K := K)) (by rfl) Z.tuple (by decide +kernel) (pa_cons (pv 5) pa_nil)) pa_nil))))))))))))), ?_⟩)
  · obtain ⟨a, R, s, n, rfl, _⟩ := h
    rfl
  · obtain ⟨a, R, s, n, rfl, hw, hn, hs, n0, k⟩ := h
    have q23 := s.q_le
    have s3 : (3 : Nat) ≤ sizeLine := by decide
    have fin : ∀ (q : Nat) (t : Addr) (rows : List (List Int)) (R1 H1 : Hp), Ex R R1 → Bx a R1 H1 → TpR K R1 t rows → CodeOk q n rows → ofSortB s q n rows = false → NewT [V.int (q : Int), V.int (n : Int), V.ref t] H1 Q := fun q t rows R1 H1 er w1 tr co no p o hp ho => by
      have ep := Ex.new (o := .frz o (.tup [V.int (q : Int), V.int (n : Int), V.ref t])) (w1.free hp)
      exact k p q rows _ _ (er.trans ep) (w1.new hp) ⟨t, Tp.of ho upd_same, tr.ex ep⟩ co no
    refine ⟨_, rfl, s, rfl, fun H1 e1 => ⟨_, rfl, a, R, 4, rfl, hw.keep e1, by decide, by decide, fun kd H2 k0 k1 w2 => ⟨_, _, rfl, ?_⟩⟩⟩
    dsimp only
    refine if_join (fun σ' H' => ∃ (R' : Hp) (v5 v6 : Option V), Ex R R' ∧ Bx a R' H' ∧ σ' = [some (.ref a), some (.str s.s), some (.int (n : Int)), some (.int (s.q : Nat)), some (.int kd), v5, v6, none]) (fun σ' H' z => ?_) (fun nx after => ?_)
    · obtain ⟨R3, v5, v6, er3, w3, rfl⟩ := z
      dsimp only
      refine if_join (fun σ' H'' => H'' = H' ∧ σ' = [some (.ref a), some (.str s.s), some (.int (n : Int)), some (.int (s.q : Nat)), some (.int kd), v5, v6, none]) (fun σ' H'' z => ?_) (fun nx after => ?_)
      · obtain ⟨rfl, rfl⟩ := z
        refine ⟨_, rfl, _, rfl, _, rfl, a, R3, s, n, 2, rfl, w3, hn, hs, by decide, fun p rows R4 H4 er4 w4 tr4 io => ?_⟩
        obtain ⟨es, hes, lg⟩ := tr4
        have el := lg.len
        have half := io.half
        refine ⟨p, _, rfl, .inr (hes.ex w4.ex).sq, fun L hL => ?_⟩
        have w5 := w4.new (o := .lst (es.map V.ref)) hL
        have e5 := Ex.new (o := .lst (es.map V.ref)) (w4.free hL)
        have hL5 : upd R4 L (.lst (es.map V.ref)) L = some (.lst (es.map V.ref)) := upd_same
        have lg5 := lg.ex e5
        have RL : R L = none := fresh_back (er3.trans er4) (w4.free hL)
        have er5 := er3.trans (er4.trans e5)
        generalize upd R4 L (.lst (es.map V.ref)) = R5 at w5 e5 hL5 lg5 er5
        generalize upd H4 L (.lst (es.map V.ref)) = H5 at w5 ⊢
        refine ⟨_, rfl, _, rfl, L, _, rfl, .inl (sq_of (w5.ex _ _ hL5)), a, R5, _, rfl, w5, by rw [List.length_map]; omega, log_s (by rw [List.length_map]; omega) (by rw [List.length_map]; omega), fun r H6 r0 r1 w6 => ?_⟩
        rw [List.length_map] at r1
        obtain ⟨at_, rfl⟩ : ∃ m : Nat, r = (m : Int) := ⟨r.toNat, by omega⟩
        have al : at_ < rows.length := by omega
        have ae : es[at_]? = some es[at_] := List.getElem?_eq_getElem (by omega)
        have ix : ixN (es.map V.ref).length (at_ : Int) = some at_ := ixN_nat (by rw [List.length_map]; omega)
        have hL6 := w6.ex _ _ hL5
        refine ⟨_, rfl, rfl, _, rfl, ?_⟩
        rw [dec_int]
        cases c2 : kd == 2 with
        | true =>
          refine iteT ⟨by show 1 ≤ sizeLine; decide, fun z o hz ho => ⟨_, rfl, _, _, rfl, rfl, rep_one (by omega) (by omega) (fun a1 G1 f1 g1 => ?_) z o hz ho⟩⟩
          rw [show ((n : Int) - 1).toNat = n - 1 by omega] at g1
          refine ⟨by show 1 ≤ sizeLine; decide, fun z2 o2 hz2 ho2 => cat_ret (g1.ex (Ex.new hz2)) (Tp.of ho2 upd_same) (Nat.le_of_lt (sz_lt (by rw [List.length_replicate]; simp only [List.length_singleton]; omega))) (Ex.refl _) fun a2 G2 f2 g2 => ?_⟩
          have f12 := f1.trans ((Ex.new (o := .frz o2 (.tup [V.int 1])) hz2).trans f2)
          have row : List.replicate (n - 1) (V.int 0) ++ [V.int 1] = iL (List.replicate (n - 1) 0 ++ [1]) := by
            unfold iL
            rw [List.map_append, List.map_replicate]
            rfl
          rw [row] at g2
          obtain ⟨R7, er7, w7, m7⟩ := w6.more f12
          have t7 := w7.know m7 g2
          have hL7 := er7 _ _ hL5
          have lok := lastR_ok (q := s.q) (by omega) n0
          refine ⟨_, rfl, _, rfl, L, _, _, at_, rfl, rfl, w7.ex _ _ hL7, ix, ?_⟩
          have w8 := w7.mut (o' := .lst ((es.map V.ref).set at_ (.ref a2))) hL7
          have lg8 := ((lg5.ex er7).set (f := iL) t7 at_).mut (zs := (es.map V.ref).set at_ (.ref a2)) hL7
          have er8 : Ex R (upd R7 L (.lst ((es.map V.ref).set at_ (.ref a2)))) := ex_side (er5.trans er7) RL
          have hL8 : upd R7 L (.lst ((es.map V.ref).set at_ (.ref a2))) L = some (.lst ((es.set at_ a2).map V.ref)) := by rw [upd_same, List.map_set]
          generalize upd R7 L (.lst ((es.map V.ref).set at_ (.ref a2))) = R8 at w8 lg8 er8 hL8
          generalize upd G2 L (.lst ((es.map V.ref).set at_ (.ref a2))) = H8 at w8 ⊢
          have okg : ∀ r ∈ rows.set at_ (List.replicate (n - 1) 0 ++ [1]), RowOk s.q n r := fun r hr => by
            rcases List.mem_or_eq_of_mem_set hr with hr | rfl
            · exact io.red.ok r hr
            · exact lok.1
          refine ⟨_, rfl, _, rfl, _, rfl, _, rfl, s.q, n, false, L, _, rfl, ⟨_, w8.ex _ _ hL8, lg8.ex w8.ex⟩, by omega, by rw [List.length_set]; omega, s.q23, okg, fun t rows' H9 e9 t9 st => ?_⟩
          obtain ⟨R9, er9, w9, m9⟩ := w8.more e9
          have sa := st.all s.q23 okg
          have sl := sa.2.2.2
          rw [List.length_set] at sl
          refine ⟨s3, fin s.q t rows' R9 H9 (er8.trans er9) w9 (tpr_know t9 w9 m9) ⟨by omega, by omega, by omega, by omega, sa.1.ok⟩ (not_sort ?_)⟩
          unfold ownB
          rw [not_inside s.q23 st okg (List.mem_of_getElem? (i := at_) (by rw [List.getElem?_set, if_pos rfl, if_pos al])) lok.2, Bool.and_false]
        | false =>
          have hix := ixN_seq ix
          refine iteF ⟨_, rfl, .inl ⟨rfl, _, sq_of hL6⟩, _, rfl, L, _, _, at_, .ref es[at_], rfl, rfl, hL6, by omega, by omega, hix.1, by rw [List.getElem?_map, ae]; rfl, ?_⟩
          have w8 := w6.mut (o' := .lst ((es.map V.ref).eraseIdx at_)) hL5
          have lg8 := (lg5.erase at_).mut (zs := (es.map V.ref).eraseIdx at_) hL5
          have er8 : Ex R (upd R5 L (.lst ((es.map V.ref).eraseIdx at_))) := ex_side er5 RL
          have hL8 : upd R5 L (.lst ((es.map V.ref).eraseIdx at_)) L = some (.lst ((es.eraseIdx at_).map V.ref)) := by rw [upd_same, erase_map]
          generalize upd R5 L (.lst ((es.map V.ref).eraseIdx at_)) = R8 at w8 lg8 er8 hL8
          generalize upd H6 L (.lst ((es.map V.ref).eraseIdx at_)) = H8 at w8 ⊢
          refine ⟨_, rfl, _, rfl, _, rfl, L, _, rfl, .inl ⟨sq_of (w8.ex _ _ hL8), fun t o ht ho => ?_⟩⟩
          have w9 := w8.new (o := .frz o (.tup ((es.eraseIdx at_).map V.ref))) ht
          have e9 := Ex.new (o := .frz o (.tup ((es.eraseIdx at_).map V.ref))) (w8.free ht)
          have le := List.length_eraseIdx_of_lt al
          refine ⟨s3, fin s.q t (rows.eraseIdx at_) _ _ (er8.trans e9) w9 ⟨_, Tp.of ho upd_same, lg8.ex e9⟩ ⟨by omega, by omega, by omega, by omega, fun r hr => io.red.ok r (List.mem_of_mem_eraseIdx hr)⟩ (not_sort ?_)⟩
          unfold ownB
          rw [decide_eq_false (by omega), Bool.false_and]
      · refine ⟨_, rfl, rfl, _, rfl, ?_⟩
        rw [dec_int]
        cases c1 : kd == 1 with
        | false => exact iteF (iteF (after _ _ ⟨rfl, rfl⟩))
        | true =>
          refine iteT ⟨_, rfl, _, _, rfl, rfl, _, rfl, ?_⟩
          rcases Decidable.em (¬ (n : Int) < 17) with cn | cn
          · rw [decide_eq_false cn]
            exact iteF (iteF (after _ _ ⟨rfl, rfl⟩))
          replace cn := Decidable.of_not_not cn
          rw [decide_eq_true cn]
          refine iteT ⟨_, rfl, .inl ⟨_, rfl, _, _, rfl, rfl, (show (0 : Int) < 4 by decide), rfl, _, rfl, ?_⟩⟩
          rw [dec_int]
          cases c4 : ((n : Int) % 4 == 0) with
          | false => exact iteF (after _ _ ⟨rfl, rfl⟩)
          | true =>
            have n4 : (n : Int) % 4 = 0 := eq_of_beq c4
            have ix : atI [V.str "three", V.str "two"] ((s.q : Int) - 2) = some (.str (otherS s).s) := by cases s <;> rfl
            have oq : (5 : Int) - (s.q : Int) = (((otherS s).q : Nat) : Int) := by cases s <;> rfl
            refine iteT ⟨_, rfl, _, _, rfl, rfl, _, rfl, _, rfl, by show 2 ≤ sizeLine; decide, fun L hL => ⟨_, rfl, _, _, rfl, rfl, L, _, _, _, rfl, rfl, sq_of upd_same, ix, _, rfl, ?_⟩⟩
            have w4 := w3.new (o := .lst [V.str "three", V.str "two"]) hL
            have e4 := Ex.new (o := .lst [V.str "three", V.str "two"]) (w3.free hL)
            refine ⟨a, _, otherS s, n, 3, rfl, w4, hn, by cases s <;> (simp only [otherS, Srt.step]; omega), by decide, fun p rows R5 H5 er5 w5 tr5 io => ?_⟩
            have half := io.half
            refine ⟨s3, ?_⟩
            show NewT [V.int ((5 : Int) - (s.q : Int)), V.int (n : Int), V.ref p] _ _
            rw [oq]
            refine fin (otherS s).q p rows R5 H5 (er3.trans (e4.trans er5)) w5 tr5 ⟨by cases s <;> decide, by cases s <;> decide, by omega, by omega, io.red.ok⟩ ?_
            unfold ofSortB
            rw [decide_eq_false (by cases s <;> decide), Bool.false_and]
    · refine ⟨_, rfl, rfl, _, rfl, ?_⟩
      rw [dec_int]
      cases c0 : kd == 0 with
      | false => exact iteF (iteF (after _ _ ⟨R, _, _, Ex.refl _, w2, rfl⟩))
      | true =>
        refine iteT ⟨_, rfl, rfl, _, rfl, ?_⟩
        rw [dec_twice]
        by_cases ct : s = .twice
        · subst ct
          rw [decide_eq_true rfl]
          have hs' : n % 8 = 0 := hs
          refine iteT ⟨_, rfl, _, rfl, a, R, .two, n, 4, rfl, w2, hn, by show n % 2 = 0; omega, by decide, fun p rows R3 H3 er3 w3 tr3 io => ?_⟩
          obtain ⟨es, hes, lg⟩ := id tr3
          have el := lg.len
          have half := io.half
          have hesH := hes.ex w3.ex
          have lgH := lg.ex w3.ex
          refine ⟨_, rfl, p, true, _, rfl, sqb_t hesH, lcP (walk_seqB (xs := es.map V.ref)) (fun H' e => sqb_t (hesH.ex e)) (by rw [List.length_map]; omega) (fun _ => true) (fun i => V.bl (decide ((0 : Int) < ((weightF (rows.getD i []) : Nat) : Int) % 4))) (fun i H4 x H5 hi e y K1 K0 k1 k0 => ?_) (fun D H4 hD e4 h4 => ?_)⟩
          · obtain ⟨rfl, g⟩ := y
            obtain ⟨e1, one, rfl, ge, gr, te⟩ := (lgH.ex e).get g
            have rD : rows.getD i [] = one := by rw [List.getD_eq_getElem?_getD, gr]; rfl
            have kk := k1 rfl _ (Ex.refl _)
            rw [rD] at kk
            exact ⟨rfl, yes_go ⟨_, rfl, e1, one, rfl, te, .inl ⟨_, rfl, _, _, rfl, rfl, (show (0 : Int) < 4 by decide), _, _, rfl, rfl, kk⟩⟩⟩
          · have mb : (List.range (es.map V.ref).length).map (fun i => V.bl (decide ((0 : Int) < ((weightF (rows.getD i []) : Nat) : Int) % 4))) = (rows.map fun r => decide ((0 : Int) < ((weightF r : Nat) : Int) % 4)).map V.bl := by
              rw [List.map_map, List.length_map, el]
              exact range_map ([] : List Int) (fun r : List Int => V.bl (decide ((0 : Int) < ((weightF r : Nat) : Int) % 4))) rows
            rw [given_all, mb] at h4
            refine ⟨D, _, rfl, sq_of h4, _, rfl, ?_⟩
            have w4 := w3.keep e4
            cases ca : (rows.map fun r => decide ((0 : Int) < ((weightF r : Nat) : Int) % 4)).any id with
            | false => exact iteF (after _ _ ⟨R3, _, _, er3, w4, rfl⟩)
            | true =>
              refine iteT ⟨_, rfl, _, rfl, s3, ?_⟩
              refine fin 2 p rows R3 H4 er3 w4 tr3 ⟨by decide, by decide, by omega, by omega, io.red.ok⟩ ?_
              rw [List.any_map, List.any_eq_true] at ca
              obtain ⟨r, hr, hd⟩ := ca
              have hd' := of_decide_eq_true hd
              have f0 : fourB rows = false := by
                unfold fourB
                rw [List.all_eq_false]
                refine ⟨r, hr, ?_⟩
                rw [decide_eq_false (by omega)]
                exact Bool.false_ne_true
              unfold ofSortB twB twiceB
              simp [f0]
        · rw [decide_eq_false ct]
          exact iteF (after _ _ ⟨R, _, _, Ex.refl _, w2, rfl⟩)
end
end K47

namespace K47
open PySem PySem.Spec PyProof.Rows L2 Evl Own
theorem dp_codes {K : PySem.W.Frag} {H : Hp} {t : Addr} {q n : Nat} {cs : List (List (List Int))} (h : TpCs K H t q n cs) : Dp K H (.ref t) (codesD q n cs) := by
  obtain ⟨es, h1, h2⟩ := h
  exact .tup h1.sq (h2.dp fun e r h => dp_code h)
theorem with_more {q n : Nat} {rows rows' : List (List Int)} {row : List Int} (hq : 0 < q) (hR : Red q n rows) (hr : RowOk q n row) (h : WithR q rows row rows') : rows.length < rows'.length ↔ ¬ Sp q n rows row := by
  have wc := with_count hq hR hr h
  constructor
  · intro l s
    have := wc.mpr s
    omega
  · intro no
    rcases h with ⟨_, rfl⟩ | ⟨_, p, _⟩
    · exact absurd (wc.mp rfl) no
    · rw [p.length_eq, List.length_cons, List.length_map]
      omega
theorem nbs_own {s : Srt} {n : Nat} {rows r : List (List Int)} (io : IsOwn s n rows) (h : r ∈ nbsF s n rows) : ∃ row, RowOk s.q n row ∧ ¬ Sp s.q n rows row ∧ NbR s.q n rows row r ∧ IsOwn s n r := by
  obtain ⟨row, h1, h2, h3, h4⟩ := (nbs_mem io).mp h
  exact ⟨row, h1, h3, h4, h4.own io h1 h2 h3⟩
def spLot (K : PySem.W.Frag) : Sp := fun vs H Q _ => ∃ (a p t : Addr) (R : Hp) (s : Srt) (n : Nat) (rows : List (List Int)), vs = [.ref a, .str s.s, .ref p, .ref t] ∧ Bx a R H ∧ TpC K R p s.q n rows ∧ TpCs K R t s.q n (nbsF s n rows) ∧ IsOwn s n rows ∧ n ≤ 24 ∧ 8 < n ∧ s.q ^ rows.length ≤ 1000 ∧ ∀ (R1 H1 : Hp), Ex R R1 → Bx a R1 H1 → Q (.bl true) H1
section
variable {P : Program} {w : World} {K : PySem.W.Frag} {mg : Str → Option Value} {base : Heap} {f : Addr} {fd : FuncData}
theorem ok__law_lot (F : FnP K "_law_lot" s__law_lot f fd) (Z : Zs mg) (G__law_many : Fn P w K mg base CX0 2 "_law_many" s__law_many ["sort", "length"] spMany) (G__law_take : Fn P w K mg base CX0 1 "_law_take" s__law_take ["box", "many"] spTake) (G__law_is_one : Fn P w K mg base CX0 7 "_law_is_one" s__law_is_one ["sort", "length", "value"] (spIsOne K)) (G__law_apart : Fn P w K mg base CX0 4 "_law_apart" s__law_apart ["letters", "one", "other"] (spApart K))
    (G__law_fitting : Fn P w K mg base CX0 2 "_law_fitting" s__law_fitting ["sort", "row"] (spFit K)) (G__law_row : Fn P w K mg base CX0 2 "_law_row" s__law_row ["box", "letters", "length"] (spRow K)) (G__law_with : Fn P w K mg base CX0 2 "_law_with" s__law_with ["letters", "rows", "row"] (spWith K)) (G__law_led : Fn P w K mg base CX0 3 "_law_led" s__law_led ["letters", "rows", "row"] (spLed K)) :
    FnOk P w K mg base CX0 8 f fd ["box", "sort", "code", "told"] (spLot K) := by
  refine F.ok sc__law_lot (fun vs H Q E h => ?_) (fun cdv A outer s H vs Q E hr h => ⟨_, PSs.nox (pss_cons (ps_asg (pv 2) (pg_tup rfl (pgs_cons (pg_name (i := 4) sc__law_lot.nd rfl (by first | exact Or.inl rfl | exact Or.inr rfl)) (pgs_cons (pg_name (i := 5) sc__law_lot.nd rfl (by first | exact Or.inl rfl | exact Or.inr rfl)) (pgs_cons (pg_name (i := 6) sc__law_lot.nd rfl (by first | exact Or.inl rfl | exact Or.inr rfl)) pgs_nil)))))
  (pss_cons (ps_if (pt_cmpR op_ne (pe_callB (kc_len (K := K)) (by rfl) Z.len PySem.boot_len (pa_cons (pv 3) pa_nil)) (pe_callF G__law_many (hr.mono (by decide)) rfl pass0 (pa_cons (pv 1) (pa_cons (pv 5) pa_nil))) (nomark _)) (pss_one (ps_ret pe_bl)) pss_nil)
  (pss_cons (ps_for PassesOwn.never rfl (pi_range2 (by rfl) Z.range (pa_cons pe_int (pa_cons (pe_callB (kc_len (K := K)) (by rfl) Z.len PySem.boot_len (pa_cons (pv 3) pa_nil)) pa_nil))) (pg_name (i := 7) sc__law_lot.nd rfl (by first | exact Or.inl rfl | exact Or.inr rfl)) (pss_one (ps_if (pt_not (pt_cmpR (ko_ltD (K := K) hr.units) (pe_ix (kx_tup (K := K)) (pv 3) (pe_op op_sub (pv 7) pe_int) (fun _ _ => rfl)) (pe_ix (kx_tup (K := K)) (pv 3) (pv 7) (fun _ _ => rfl)) (nomark _))) (pss_one (ps_ret pe_bl)) pss_nil)))
  (pss_cons (ps_for PassesOwn.never rfl (pi_range1 (by rfl) Z.range (pa_cons pe_int pa_nil)) (pg_name (i := 8) sc__law_lot.nd rfl (by first | exact Or.inl rfl | exact Or.inr rfl)) (pss_cons (ps_set (i := 9) sc__law_lot.nd rfl (by first | exact Or.inl rfl | exact Or.inr rfl) (pe_ix (kx_tup (K := K)) (pv 3) (pe_ix (kx_list (K := K)) (pe_lst (pa_cons (pe_callF G__law_take (hr.mono (by decide)) rfl pass0 (pa_cons (pv 0) (pa_cons (pe_callB (kc_len (K := K)) (by rfl) Z.len PySem.boot_len (pa_cons (pv 3) pa_nil)) pa_nil))) (pa_cons (pe_op op_sub (pv 8) pe_int) pa_nil))) (pe_callTy call_int1 (by rfl) Z.int (by decide +kernel) (pa_cons (pe_cmpR op_lt (pv 8) pe_int (nomark _)) pa_nil)) (fun _ _ => rfl)) (fun _ _ => rfl)))
  (pss_cons (ps_if (PW.pt (pw_or (pt_not (pt_val (pe_callF G__law_is_one (hr.mono (by decide)) rfl pass0 (pa_cons (pv 1) (pa_cons (pv 5) (pa_cons (pv 9) pa_nil)))))) (pw_or1 (pt_cmpR op_ne (pe_callF G__law_apart (hr.mono (by decide)) rfl pass0 (pa_cons (pv 4) (pa_cons (pe_ix (kx_tup (K := K)) (pv 9) pe_int (fun _ _ => rfl)) (pa_cons (pv 6) pa_nil)))) pe_int (nomark _))))) (pss_one (ps_ret pe_bl)) pss_nil)
  (pss_cons (ps_set (i := 10) sc__law_lot.nd rfl (by first | exact Or.inl rfl | exact Or.inr rfl) (pe_callF G__law_fitting (hr.mono (by decide)) rfl pass0 (pa_cons (pv 1) (pa_cons (pe_callF G__law_row (hr.mono (by decide)) rfl pass0 (pa_cons (pv 0) (pa_cons (pv 4) (pa_cons (pv 5) pa_nil)))) pa_nil))))
  (pss_one (ps_if (PW.pt (pw_and (pt_cmpR op_gt (pe_callB (kc_len (K := K)) (by rfl) Z.len PySem.boot_len (pa_cons (pe_callF G__law_with (hr.mono (by decide)) rfl pass0 (pa_cons (pv 4) (pa_cons (pv 6) (pa_cons (pv 10) pa_nil)))) pa_nil)) (pe_callB (kc_len (K := K)) (by rfl) Z.len PySem.boot_len (pa_cons (pv 6) pa_nil)) (nomark _)) (pw_and1 (pt_cmpR (ko_notInT (K := K) (hu65 hr)) (pe_tupF (pa_cons (pv 4) (pa_cons (pv 5) (pa_cons (pe_callF G__law_led (hr.mono (by decide)) rfl pass0 (pa_cons (pv 4) (pa_cons (pv 6) (pa_cons (pv 10) pa_nil)))) pa_nil)))) (pv 3) (by rfl))))) (pss_one (ps_ret pe_bl)) pss_nil))))))
  (pss_one (ps_ret pe_bl)))))), ?_⟩)
  · obtain ⟨a, p, t, R, s, n, rows, rfl, _⟩ := h
    rfl
  · obtain ⟨a, p, t, R, s, n, rows, rfl, hw, ⟨r, hp, tr⟩, ⟨es, ht, lt⟩, io, hn, n8, few, k⟩ := h
    have q23 := s.q_le
    have qq : s.q = 2 ∨ s.q = 3 := by omega
    have q0 := s.q_pos
    have half := io.half
    have s1 : (4000 : Nat) ≤ sizeLine := by decide
    have tl : es.length = manyF s rows.length := by rw [lt.1, nbs_len io]
    have m2 := many_pos (s := s) (k := rows.length) (by omega)
    have ml := many_le io few
    have strict := List.pairwise_iff_getElem.mp (nbs_strict io)
    have mem := fun r => nbs_own (r := r) io
    have inn := fun r => nbs_mem (rows' := r) io
    refine ⟨_, rfl, p, _, rfl, (hp.ex hw.ex).sq, rfl, _, _, rfl, _, _, rfl, _, _, rfl, rfl, ?_⟩
    refine ⟨_, rfl, t, _, rfl, .inr (ht.ex hw.ex).sq, _, rfl, _, rfl, s, n, rfl, hn, by omega, fun H1 e1 => ⟨rfl, _, rfl, ?_⟩⟩
    rw [dec_int, List.length_map, tl, show n / 2 = rows.length by omega, beq_self_eq_true]
    have w1 := hw.keep e1
    refine iteF ⟨_, rfl, t, _, rfl, .inr (ht.ex w1.ex).sq, _, _, rfl, ⟨by omega, by omega, by omega, by rw [List.length_map]; omega⟩, ?_⟩
    rw [show (((es.map V.ref).length : Int) - 1).toNat = es.length - 1 by rw [List.length_map]; omega]
    refine for_range (lo := 1) (n := es.length - 1) (fun i σ H' => Ex H1 H' ∧ ∃ v7, σ = [some (.ref a), some (.str s.s), some (.ref p), some (.ref t), some (.int (s.q : Nat)), some (.int (n : Int)), some (.ref r), v7, none, none, none]) ⟨Ex.refl _, none, rfl⟩ (fun i σ H2 hi y => ?_) (fun σ H2 y => ?_)
    · obtain ⟨ex2, v7, rfl⟩ := y
      have e0 : (1 : Int) + (i : Int) = ((i + 1 : Nat) : Int) := by omega
      show gName _ (V.int ((1 : Int) + (i : Int))) _ _ _
      rw [e0]
      have w2 := w1.keep ex2
      have i1 : i < es.length := by omega
      have i2 : i + 1 < es.length := by omega
      have b1 : i < (nbsF s n rows).length := by rw [← lt.1]; exact i1
      have b2 : i + 1 < (nbsF s n rows).length := by rw [← lt.1]; exact i2
      have g1 : es[i]? = some es[i] := List.getElem?_eq_getElem i1
      have g2 : es[i + 1]? = some es[i + 1] := List.getElem?_eq_getElem i2
      have c1 := (lt.2 i _ _ g1 (List.getElem?_eq_getElem b1)).ex w2.ex
      have c2 := (lt.2 (i + 1) _ _ g2 (List.getElem?_eq_getElem b2)).ex w2.ex
      have st : PySem.W.dataLt (codeD s.q n (nbsF s n rows)[i]) (codeD s.q n (nbsF s n rows)[i + 1]) = true := strict i (i + 1) b1 b2 (by omega)
      have a1 : atI (es.map V.ref) (((i + 1 : Nat) : Int) - 1) = some (.ref es[i]) := by
        rw [show ((i + 1 : Nat) : Int) - 1 = (i : Int) by omega]
        exact atI_nat (by rw [List.getElem?_map, g1]; rfl)
      refine ⟨_, rfl, _, rfl, _, _, rfl, rfl, t, _, _, .ref es[i], rfl, rfl, (ht.ex w2.ex).sq, a1, _, rfl, _, rfl, t, _, _, .ref es[i + 1], rfl, rfl, (ht.ex w2.ex).sq, atI_nat (by rw [List.getElem?_map, g2]; rfl), codeD s.q n (nbsF s n rows)[i], codeD s.q n (nbsF s n rows)[i + 1], dp_code c1, dp_code c2, alike_codeD .., (fun z => by cases z), Nat.le_trans (lay_codeD _ _ _).2 (by decide), _, rfl, ?_⟩
      rw [st]
      exact iteF ⟨ex2, _, rfl⟩
    · obtain ⟨ex2, v7, rfl⟩ := y
      have w2 := w1.keep ex2
      refine ⟨9, rfl, by decide, by decide, ?_⟩
      refine for_range (lo := 0) (n := 9) (fun i σ H' => ∃ R' : Hp, Ex R R' ∧ Bx a R' H' ∧ ∃ v8 v9 v10, σ = [some (.ref a), some (.str s.s), some (.ref p), some (.ref t), some (.int (s.q : Nat)), some (.int (n : Int)), some (.ref r), v7, v8, v9, v10]) ⟨R, Ex.refl _, w2, none, none, none, rfl⟩ (fun i σ H3 hi y => ?_) (fun σ H3 y => ?_)
      · obtain ⟨R3, er3, w3, v8, v9, v10, rfl⟩ := y
        have e0 : (0 : Int) + (i : Int) = (i : Int) := by omega
        show gName _ (V.int ((0 : Int) + (i : Int))) _ _ _
        rw [e0]
        have x3 := er3.trans w3.ex
        refine ⟨_, rfl, _, rfl, _, rfl, t, _, rfl, .inr (ht.ex x3).sq, a, R3, _, rfl, w3, by rw [List.length_map]; omega, log_s (by rw [List.length_map]; omega) (by rw [List.length_map]; omega), fun m H4 m0 m1 w4 => ?_⟩
        rw [List.length_map] at m1
        refine ⟨_, rfl, _, _, rfl, rfl, by show 2 ≤ sizeLine; omega, fun L hL => ?_⟩
        have w5 := w4.new (o := .lst [V.int m, V.int ((i : Int) - 2)]) hL
        have er5 := er3.trans (Ex.new (o := .lst [V.int m, V.int ((i : Int) - 2)]) (w4.free hL))
        have hL5 : upd H4 L (.lst [V.int m, V.int ((i : Int) - 2)]) L = some (.lst [V.int m, V.int ((i : Int) - 2)]) := upd_same
        generalize upd R3 L (.lst [V.int m, V.int ((i : Int) - 2)]) = R5 at w5 er5
        generalize upd H4 L (.lst [V.int m, V.int ((i : Int) - 2)]) = H5 at w5 hL5 ⊢
        have x5 := er5.trans w5.ex
        obtain ⟨ix, hix, ib0, ib1⟩ : ∃ ix : Int, atI [V.int m, V.int ((i : Int) - 2)] (if decide ((i : Int) < 3) = true then 1 else 0) = some (V.int ix) ∧ -((es.map V.ref).length : Int) ≤ ix ∧ ix < (es.map V.ref).length := by
          rw [List.length_map]
          by_cases c : (i : Int) < 3
          · rw [decide_eq_true c, if_pos rfl]
            exact ⟨(i : Int) - 2, rfl, by omega, by omega⟩
          · rw [decide_eq_false c, if_neg Bool.false_ne_true]
            exact ⟨m, rfl, by omega, by omega⟩
        obtain ⟨j, v, av, gv⟩ := atI_ex ib0 ib1
        obtain ⟨e, one, rfl, ge, gr, tc⟩ := lt.get gv
        obtain ⟨row1, ro1, no1, nb1, io1⟩ := mem one (List.mem_of_getElem? gr)
        have tc5 := tc.ex x5
        obtain ⟨r1, hp1, tr1⟩ := id tc5
        refine ⟨_, rfl, _, _, rfl, rfl, .inr ⟨_, rfl, L, _, _, _, rfl, rfl, sq_of hL5, hix, t, _, _, .ref e, rfl, rfl, (ht.ex x5).sq, av, ?_⟩⟩
        refine ⟨_, rfl, _, rfl, _, rfl, s, n, e, r1, one, rfl, hn, io1.good, hp1, tr1, fun H6 e6 => ⟨_, rfl, iteF ?_⟩⟩
        have w6 := w5.keep e6
        refine ⟨_, rfl, _, rfl, e, _, 2, _, rfl, rfl, (hp1.ex e6).sq, rfl, _, rfl, s, n, r1, r, one, rows, row1, rfl, tr1.ex' e6, tr.ex' (er5.trans w6.ex), hn, io, io1, ro1, no1, nb1, fun H7 e7 => ⟨rfl, _, rfl, iteF ?_⟩⟩
        have w7 := w6.keep e7
        refine ⟨_, rfl, _, rfl, _, rfl, _, rfl, a, R5, s.q, n, rfl, w7, by omega, by omega, by omega, fun t8 row8 R8 H8 er8 w8 t8' o8 => ?_⟩
        refine ⟨s, n, t8, row8, rfl, t8'.ex w8.ex, by omega, o8, fun t9 row9 H9 e9 t9' o9 ft9 => ?_⟩
        have w9 := w8.keep e9
        have er8' := er5.trans er8
        have x9 := er8'.trans w9.ex
        refine ⟨_, rfl, _, rfl, _, rfl, s.q, n, true, r, t9, rows, row9, rfl, tr.ex' x9, t9', by omega, by omega, qq, io.red, o9, fun t10 rows10 H10 e10 tr10 wr => ?_⟩
        have wm := with_more q0 io.red o9 wr
        obtain ⟨es10, h10, l10⟩ := tr10
        have x10 := x9.trans e10
        have w10 := w9.keep e10
        obtain ⟨esr, hesr, lgr⟩ := id tr
        refine ⟨t10, _, rfl, .inr h10.sq, _, rfl, r, _, rfl, .inr (hesr.ex x10).sq, _, _, rfl, rfl, _, rfl, ?_⟩
        rw [List.length_map, List.length_map, l10.len, lgr.len]
        by_cases sp : Sp s.q n rows row9
        · rw [decide_eq_false (show ¬ ((rows.length : Nat) : Int) < ((rows10.length : Nat) : Int) from fun g => (wm.mp (by omega)) sp)]
          exact iteF (iteF ⟨R8, er8', w10, _, _, _, rfl⟩)
        · rw [decide_eq_true (show ((rows.length : Nat) : Int) < ((rows10.length : Nat) : Int) from by have := wm.mpr sp; omega)]
          refine iteT ⟨_, rfl, _, rfl, _, rfl, _, rfl, _, rfl, s.q, n, r, t9, rows, row9, rfl, tr.ex' x10, t9'.ex e10, by omega, by omega, qq, io.red, io.desc, o9, fun t11 rows11 H11 e11 tr11 led => ⟨by show 3 ≤ sizeLine; omega, fun c o hc ho => ?_⟩⟩
          have eC := Ex.new (o := .frz o (.tup [V.int (s.q : Nat), V.int (n : Int), V.ref t11])) hc
          have w12 := w10.keep (e11.trans eC)
          have tc12 : TpC K (upd H11 c (.frz o (.tup [V.int (s.q : Nat), V.int (n : Int), V.ref t11]))) c s.q n rows11 := ⟨t11, Tp.of ho upd_same, tr11.ex' eC⟩
          have inr : rows11 ∈ nbsF s n rows := (inn rows11).mpr ⟨row9, o9, ft9, sp, LedR.nb qq io.red io.desc o9 sp led⟩
          have tt : TpCs K R t s.q n (nbsF s n rows) := ⟨es, ht, lt⟩
          refine ⟨_, rfl, codeD s.q n rows11, (nbsF s n rows).map (codeD s.q n), dp_code tc12, dp_codes (tt.ex (er8'.trans w12.ex)), sh_codeD .., sh_codesD .., _, rfl, ?_⟩
          rw [any_codes _ _ inr]
          exact iteF ⟨R8, er8', w12, _, _, _, rfl⟩
      · obtain ⟨R3, er3, w3, v8, v9, v10, rfl⟩ := y
        exact k R3 H3 er3 w3
end
end K47

namespace K47
open PySem PySem.Spec PyProof.Rows L2 Evl Own
def lim : Srt → Int
  | .two => 10
  | .twice => 8
  | .three => 8
theorem few_of {s : Srt} {n : Nat} {rows : List (List Int)} (io : IsOwn s n rows) (hn : n ≤ nbnd s) : s.q ^ rows.length ≤ 1000 := by
  have half := io.half
  cases s
  · have : rows.length ≤ 7 := by
      have : n ≤ 14 := hn
      omega
    exact Nat.le_trans (Nat.pow_le_pow_right (by decide) this) (by decide)
  · have : rows.length ≤ 8 := by
      have : n ≤ 16 := hn
      omega
    exact Nat.le_trans (Nat.pow_le_pow_right (by decide) this) (by decide)
  · have : rows.length ≤ 6 := by
      have : n ≤ 12 := hn
      omega
    exact Nat.le_trans (Nat.pow_le_pow_right (by decide) this) (by decide)
theorem _root_.Own.IsOwn.code {s : Srt} {n : Nat} {rows : List (List Int)} (h : IsOwn s n rows) (hn : n ≤ 24) : CodeOk s.q n rows := by
  have := h.half
  have := s.q_le
  exact ⟨by omega, by omega, by omega, by omega, h.red.ok⟩
theorem tpcs_know {K : PySem.W.Frag} {a : Addr} {R H : Hp} {p : Addr} {q n : Nat} {cs : List (List (List Int))} (l : TpCs K H p q n cs) (w : Bx a R H) (m : ∀ b o, b ≠ a → H b = some o → R b = some o) : TpCs K R p q n cs := by
  obtain ⟨es, h1, h2⟩ := l
  refine ⟨es, w.know m h1, h2.imp fun e r h => ?_⟩
  obtain ⟨t, h3, h4⟩ := h
  exact ⟨t, w.know m h3, tpr_know h4 w m⟩
def spWhole (K : PySem.W.Frag) : Sp := fun vs H Q _ => ∃ (a p : Addr) (R : Hp) (s : Srt) (n : Nat) (rows : List (List Int)), vs = [.ref a, .str s.s, .ref p] ∧ Bx a R H ∧ TpC K R p s.q n rows ∧ IsOwn s n rows ∧ n ≤ nbnd s ∧ ∀ (R1 H1 : Hp), Ex R R1 → Bx a R1 H1 → Q (.bl true) H1
section
variable {P : Program} {w : World} {K : PySem.W.Frag} {mg : Str → Option Value} {base : Heap} {f : Addr} {fd : FuncData}
theorem ok__law_is_whole (F : FnP K "_law_is_whole" s__law_is_whole f fd) (Z : Zs mg) (G__law_asked : Fn P w K mg base CX0 7 "_law_asked" s__law_asked ["sort", "code"] (spAskedN K)) (G__law_plain : Fn P w K mg base CX0 6 "_law_plain" s__law_plain ["value"] (spPlain K 4)) (G__law_lot : Fn P w K mg base CX0 8 "_law_lot" s__law_lot ["box", "sort", "code", "told"] (spLot K)) (G__law_many : Fn P w K mg base CX0 2 "_law_many" s__law_many ["sort", "length"] spMany) (G__law_all : Fn P w K mg base CX0 4 "_law_all" s__law_all ["sort", "code"] (spAll K)) :
    FnOk P w K mg base CX0 9 f fd ["box", "sort", "code"] (spWhole K) := by
  refine F.ok sc__law_is_whole (fun vs H Q E h => ?_) (fun cdv A outer s H vs Q E hr h => ⟨_, PSs.nox (pss_cons (ps_set (i := 3) sc__law_is_whole.nd rfl (by first | exact Or.inl rfl | exact Or.inr rfl) (pe_callF G__law_asked (hr.mono (by decide)) rfl pass0 (pa_cons (pv 1) (pa_cons (pv 2) pa_nil))))
  (pss_cons (ps_if (PW.pt (pw_or (pt_cmpR op_ne (pe_ix (kx_tup (K := K)) (pv 3) pe_int (fun _ _ => rfl)) pe_str (nomark _)) (pw_or (pt_not (pt_val (pe_callB (kc_isi (K := K)) (by rfl) Z.isinstance (by decide +kernel) (pa_cons (pe_ix (kx_tup (K := K)) (pv 3) pe_int (fun _ _ => rfl)) (pa_cons (pe_bltn (v := .ty "tuple") (u := .type "tuple") (by rfl) Z.tuple (by decide +kernel) rfl) pa_nil))))) (pw_or1 (pt_not (pt_val (pe_callF G__law_plain (hr.mono (by decide)) rfl pass0 (pa_cons (pe_ix (kx_tup (K := K)) (pv 3) pe_int (fun _ _ => rfl)) pa_nil)))))))) (pss_one (ps_ret pe_bl)) pss_nil)
  (pss_cons (ps_if (pt_cmpR op_gt (pe_ix (kx_tup (K := K)) (pv 2) pe_int (fun _ _ => rfl)) (pe_dget (hu_of hr) (pe_disp (pps_cons pe_str pe_int (pps_cons pe_str pe_int (pps_cons pe_str pe_int pps_nil))) (by rfl) (by rfl) (fun z => by cases z) (by decide)) (pv 1) (fun _ _ => rfl)) (nomark _)) (pss_one (ps_ret (pe_callF G__law_lot (hr.mono (by decide)) rfl pass0 (pa_cons (pv 0) (pa_cons (pv 1) (pa_cons (pv 2) (pa_cons (pe_ix (kx_tup (K := K)) (pv 3) pe_int (fun _ _ => rfl)) pa_nil))))))) pss_nil)
  (pss_one (ps_ret (pe_and (pe_cmpR op_eq (pe_callB (kc_len (K := K)) (by rfl) Z.len PySem.boot_len (pa_cons (pe_ix (kx_tup (K := K)) (pv 3) pe_int (fun _ _ => rfl)) pa_nil)) (pe_callF G__law_many (hr.mono (by decide)) rfl pass0 (pa_cons (pv 1) (pa_cons (pe_ix (kx_tup (K := K)) (pv 2) pe_int (fun _ _ => rfl)) pa_nil))) (nomark _)) (pe_one (pe_cmpR (ko_eq (K := K) hr.units) (pe_ix (kx_tup (K := K)) (pv 3) pe_int (fun _ _ => rfl)) (pe_callF G__law_all (hr.mono (by decide)) rfl pass0 (pa_cons (pv 1) (pa_cons (pv 2) pa_nil))) (nomark _))))))))), ?_⟩)
  · obtain ⟨a, p, R, s, n, rows, rfl, _⟩ := h
    rfl
  · obtain ⟨a, p, R, s, n, rows, rfl, hw, tc, io, hb, k⟩ := h
    have few := few_of io hb
    have hn : n ≤ 24 := Nat.le_trans hb (by cases s <;> decide)
    have co := io.code hn
    have half := io.half
    have ml := many_le io few
    obtain ⟨r, hp, tr⟩ := id tc
    refine ⟨_, rfl, _, rfl, s.s, p, s.q, n, rows, rfl, tc.ex hw.ex, co, .inr ⟨s, rfl, rfl, io, hn, few, fun T t H1 e1 hT tt => ?_⟩⟩
    have hpn : Pn K H1 4 (.ref t) := pn_codes (m := 0) tt (by rw [nbs_len io]; exact ml) fun r hr => by
      obtain ⟨_, _, _, _, o⟩ := nbs_own io hr
      have h2 := o.half
      exact ⟨by omega, fun x hx => by have := (o.red.ok x hx).1; omega⟩
    obtain ⟨R1, er1, w1, m1⟩ := hw.more e1
    obtain ⟨es, ht, lt⟩ := id tt
    refine ⟨_, rfl, T, _, 0, _, rfl, rfl, hT.sq, rfl, rfl, _, rfl, iteF ?_⟩
    refine ⟨_, rfl, T, _, 1, _, rfl, rfl, hT.sq, rfl, _, .ty "tuple", _, .type "tuple", _, rfl, .ty _, ((Vk.tup ht : Vk K H1 _ _)).ty, kit_vk ((Vk.tup ht : Vk K H1 _ _)) "tuple", _, rfl, iteF ?_⟩
    refine ⟨_, rfl, T, _, 1, _, rfl, rfl, hT.sq, rfl, _, rfl, hpn, fun H2 e2 => ⟨_, rfl, iteF ?_⟩⟩
    have w2 := w1.keep e2
    have hT2 := hT.ex e2
    have x2 := er1.trans w2.ex
    refine ⟨_, rfl, p, _, 1, _, rfl, rfl, (hp.ex x2).sq, rfl, fun d hd => ⟨upd_same, [(Sum.inr "two", .int 10), (Sum.inr "twice", .int 8), (Sum.inr "three", .int 8)], rfl, by show 3 ≤ 15; decide, ?_⟩⟩
    rw [upd_upd]
    have eD := Ex.new (o := .dK (mergeK [] [(Sum.inr "two", .int 10), (Sum.inr "twice", .int 8), (Sum.inr "three", .int 8)])) hd
    have dg : DGet (upd H2 d (.dK (mergeK [] [(Sum.inr "two", .int 10), (Sum.inr "twice", .int 8), (Sum.inr "three", .int 8)]))) d (.str s.s) (some (.int (lim s))) := by
      have := get3 s (upd_same (H := H2) (a := d) (o := .dK (mergeK [] [(Sum.inr "two", .int 10), (Sum.inr "twice", .int 8), (Sum.inr "three", .int 8)])))
      cases s <;> exact this
    have w3 := w2.keep eD
    have hT3 := hT2.ex eD
    have e23 := e2.trans eD
    generalize upd H2 d (.dK (mergeK [] [(Sum.inr "two", .int 10), (Sum.inr "twice", .int 8), (Sum.inr "three", .int 8)])) = H3 at dg w3 hT3 e23 ⊢
    refine ⟨_, rfl, d, _, rfl, dg, _, _, rfl, rfl, _, rfl, ?_⟩
    by_cases c : lim s < (n : Int)
    · rw [decide_eq_true c]
      have n8 : 8 < n := by
        have : 8 ≤ lim s := by cases s <;> decide
        omega
      refine iteT ⟨_, rfl, _, rfl, _, rfl, _, rfl, T, _, 1, _, rfl, rfl, hT3.sq, rfl, a, p, t, R1, s, n, rows, rfl, w3, tc.ex er1, tpcs_know tt w1 m1, io, hn, n8, few, fun R4 H4 er4 w4 => k R4 H4 (er1.trans er4) w4⟩
    · rw [decide_eq_false c]
      refine iteF ?_
      have ht3 := ht.ex e23
      refine ⟨_, rfl, T, _, 1, _, rfl, rfl, hT3.sq, rfl, t, _, rfl, .inr ht3.sq, _, rfl, _, rfl, p, _, 1, _, rfl, rfl, (hp.ex (er1.trans w3.ex)).sq, rfl, s, n, rfl, hn, by omega, fun H4 e4 => ⟨rfl, ?_⟩⟩
      have w4 := w3.keep e4
      rw [List.length_map, lt.1, nbs_len io, show n / 2 = rows.length by omega, decide_eq_true rfl]
      refine ⟨_, rfl, iteT ?_⟩
      refine ⟨_, rfl, T, _, 1, _, rfl, rfl, (hT3.ex e4).sq, rfl, _, rfl, _, rfl, s, p, n, rows, rfl, tc.ex (er1.trans w4.ex), io, hn, few, fun t5 H5 e5 tt5 => ?_⟩
      refine ⟨_, _, dp_codes (tt.ex (e23.trans (e4.trans e5))), dp_codes tt5, sh_codesD .., sh_codesD .., ?_⟩
      rw [eqv_same (sh_codesD ..)]
      exact k R1 H5 er1 (w4.keep e5)
end
end K47

namespace K47
open PySem PySem.Spec PyProof.Rows L2 Evl Own
def spLaw (K : PySem.W.Frag) : Sp := fun vs H Q _ => ∃ (a : Addr) (ns : List Int), vs = [.ref a] ∧ SqL K H a (ns.map V.int) ∧ ns.length ≤ 1000 ∧ ∀ H', Q (.bl true) H'
section
variable {X : Cx} {K : PySem.W.Frag} {o e : Expr} {es : List Expr} {to : TE} {t : TA} {apos cpos : Pos}
theorem km_countD (hu : X.A.units + 65 < cLine) (ho : PE X o to) (ha : PA X (e :: es) t)
    (hbase : attributeBase o "count" X.env (eval o X.env) = eval o X.env := by rfl)
    (hfew : ((backTo cpos (starEach (e :: es) X.env)).all (fun x => !x.1) && (backToKw cpos (keywordEach [] X.env)).all (fun x => x.1.isSome)
      && decide ((e :: es).length + ([] : List Keyword).length + (if ([] : List Keyword).isEmpty then 0 else 1) < 30)) = true := by rfl)
    (hline : (apos.endLine == cpos.line) = true := by rfl) (hs : starEach (e :: es) X.env = (false, eval e X.env) :: starEach es X.env := by rfl) (hplain : (backTo cpos (starEach es X.env)).any (·.1) = false := by rfl) (h : X.K = K := by rfl) :
    PE X (.Call (.Attribute o "count" apos) (e :: es) [] cpos) (tTM K (rTCntD K) to t) := by
  subst h
  exact pe_tm PySem.F.plainAttrs_tuple PySem.F.slot_tuple_count PySem.F.type_tuple_count (mt_tcountD hu) ho ha hbase hfew hline hs hplain
end
theorem ne_ref {K : PySem.W.Frag} {H : Hp} {Q : VK} {T U : Addr} {x : Str} (hx : PyData.strOk x = true) (h1 : Tp K H T [.str "refused", .str x]) (h2 : Tp K H U [.str "refused", .str x]) (q : Q (.bl false) H) : rNeD K (.ref T) (.ref U) H Q := by
  have sh : SeqAt.shaped (toldD "refused" (.str x)) = true := sh_toldD "refused" (by decide +kernel) ⟨by simpa [PyData.canLay0] using hx, by simp [PyData.depth]⟩
  refine ⟨toldD "refused" (.str x), toldD "refused" (.str x), .tup h1.sq (.cons (.str _) (.cons (.str _) .nil)), .tup h2.sq (.cons (.str _) (.cons (.str _) .nil)), sh, sh, ?_⟩
  rw [eqv_same sh]
  exact q
theorem back_in {s : Srt} {n : Nat} {rows rows' : List (List Int)} {row : List Int} (io : IsOwn s n rows) (ro : RowOk s.q n row) (ft : fitW s row) (no : ¬ Sp s.q n rows row) (nb : NbR s.q n rows row rows') : rows ∈ nbsF s n rows' := by
  obtain ⟨b, hb, nz⟩ := io.some ro no
  have q0 := s.q_pos
  have ob := io.red.ok b hb
  have sb := Sp.mem q0 ob hb
  exact (nbs_mem (nb.own io ro ft no)).mpr ⟨b, ob, io.fit sb, back_no q0 ro (fit_self ft ro) nb ob nz, back_nb io ro nb sb nz⟩
section
variable {P : Program} {w : World} {K : PySem.W.Frag} {mg : Str → Option Value} {base : Heap} {f : Addr} {fd : FuncData}
theorem ok_law (F : FnP K "law" s_law f fd) (Z : Zs mg) (G__law_box : Fn P w K mg base CX0 1 "_law_box" s__law_box ["script", "k"] (spBox K)) (G__law_pick : Fn P w K mg base CX0 2 "_law_pick" s__law_pick ["box", "some"] (spPick K)) (G__law_near_room : Fn P w K mg base CX0 3 "_law_near_room" s__law_near_room ["box", "sort"] spRoom) (G__law_letters : Fn P w K mg base CX0 1 "_law_letters" s__law_letters ["sort"] (spSrt Srt.q))
    (G__law_own : Fn P w K mg base CX0 5 "_law_own" s__law_own ["box", "sort", "length", "turns"] (spOwn K)) (G__law_is_whole : Fn P w K mg base CX0 9 "_law_is_whole" s__law_is_whole ["box", "sort", "code"] (spWhole K)) (G__law_fitting : Fn P w K mg base CX0 2 "_law_fitting" s__law_fitting ["sort", "row"] (spFit K)) (G__law_row : Fn P w K mg base CX0 2 "_law_row" s__law_row ["box", "letters", "length"] (spRow K))
    (G__law_with : Fn P w K mg base CX0 2 "_law_with" s__law_with ["letters", "rows", "row"] (spWith K)) (G__law_led : Fn P w K mg base CX0 3 "_law_led" s__law_led ["letters", "rows", "row"] (spLed K)) (G__law_asked : Fn P w K mg base CX0 7 "_law_asked" s__law_asked ["sort", "code"] (spAskedN K)) (G__law_no_sort : Fn P w K mg base CX0 3 "_law_no_sort" s__law_no_sort ["box"] spNoSort) (G__law_stranger : Fn P w K mg base CX0 6 "_law_stranger" s__law_stranger ["box", "sort", "length"] (spStranger K)) : FnOk P w K mg base CX0 10 f fd ["script"] (spLaw K) := by
  refine F.ok sc_law (fun vs H Q E h => ?_) (fun cdv A outer s H vs Q E hr h => ⟨_, PSs.nox (pss_cons (ps_for PassesOwn.never rfl (pi_range1 (by rfl) Z.range (pa_cons pe_int pa_nil)) (pg_name (i := 1) sc_law.nd rfl (by first | exact Or.inl rfl | exact Or.inr rfl)) (pss_cons (ps_set (i := 2) sc_law.nd rfl (by first | exact Or.inl rfl | exact Or.inr rfl) (pe_callF G__law_box (hr.mono (by decide)) rfl pass0 (pa_cons (pv 0) (pa_cons (pv 1) pa_nil))))
  (pss_cons (ps_set (i := 3) sc_law.nd rfl (by first | exact Or.inl rfl | exact Or.inr rfl) (pe_callF G__law_pick (hr.mono (by decide)) rfl pass0 (pa_cons (pv 2) (pa_cons (pe_lst (pa_cons pe_str (pa_cons pe_str (pa_cons pe_str pa_nil)))) pa_nil))))
  (pss_cons (ps_set (i := 4) sc_law.nd rfl (by first | exact Or.inl rfl | exact Or.inr rfl) (pe_callF G__law_near_room (hr.mono (by decide)) rfl pass0 (pa_cons (pv 2) (pa_cons (pv 3) pa_nil))))
  (pss_cons (ps_set (i := 5) sc_law.nd rfl (by first | exact Or.inl rfl | exact Or.inr rfl) (pe_callF G__law_letters (hr.mono (by decide)) rfl pass0 (pa_cons (pv 3) pa_nil)))
  (pss_cons (ps_set (i := 6) sc_law.nd rfl (by first | exact Or.inl rfl | exact Or.inr rfl) (pe_tupF (pa_cons (pv 5) (pa_cons (pv 4) (pa_cons (pe_callF G__law_own (hr.mono (by decide)) rfl pass0 (pa_cons (pv 2) (pa_cons (pv 3) (pa_cons (pv 4) (pa_cons pe_int pa_nil))))) pa_nil)))))
  (pss_cons (ps_if (pt_not (pt_val (pe_callF G__law_is_whole (hr.mono (by decide)) rfl pass0 (pa_cons (pv 2) (pa_cons (pv 3) (pa_cons (pv 6) pa_nil)))))) (pss_one (ps_ret pe_bl)) pss_nil)
  (pss_cons (ps_set (i := 7) sc_law.nd rfl (by first | exact Or.inl rfl | exact Or.inr rfl) (pe_callF G__law_fitting (hr.mono (by decide)) rfl pass0 (pa_cons (pv 3) (pa_cons (pe_callF G__law_row (hr.mono (by decide)) rfl pass0 (pa_cons (pv 2) (pa_cons (pv 5) (pa_cons (pv 4) pa_nil)))) pa_nil))))
  (pss_cons (ps_if (PW.pt (pw_and (pt_cmpR op_lt (pv 4) pe_int (nomark _)) (pw_and1 (pt_cmpR op_gt (pe_callB (kc_len (K := K)) (by rfl) Z.len PySem.boot_len (pa_cons (pe_callF G__law_with (hr.mono (by decide)) rfl pass0 (pa_cons (pv 5) (pa_cons (pe_ix (kx_tup (K := K)) (pv 6) pe_int (fun _ _ => rfl)) (pa_cons (pv 7) pa_nil)))) pa_nil)) (pe_callB (kc_len (K := K)) (by rfl) Z.len PySem.boot_len (pa_cons (pe_ix (kx_tup (K := K)) (pv 6) pe_int (fun _ _ => rfl)) pa_nil)) (nomark _))))) (pss_cons (ps_set (i := 8) sc_law.nd rfl (by first | exact Or.inl rfl | exact Or.inr rfl) (pe_callF G__law_asked (hr.mono (by decide)) rfl pass0 (pa_cons (pv 3) (pa_cons (pe_tupF (pa_cons (pv 5) (pa_cons (pv 4) (pa_cons (pe_callF G__law_led (hr.mono (by decide)) rfl pass0 (pa_cons (pv 5) (pa_cons (pe_ix (kx_tup (K := K)) (pv 6) pe_int (fun _ _ => rfl)) (pa_cons (pv 7) pa_nil)))) pa_nil)))) pa_nil))))
  (pss_one (ps_if (PW.pt (pw_or (pt_cmpR op_ne (pe_ix (kx_tup (K := K)) (pv 8) pe_int (fun _ _ => rfl)) pe_str (nomark _)) (pw_or (pt_not (pt_val (pe_callB (kc_isi (K := K)) (by rfl) Z.isinstance (by decide +kernel) (pa_cons (pe_ix (kx_tup (K := K)) (pv 8) pe_int (fun _ _ => rfl)) (pa_cons (pe_bltn (v := .ty "tuple") (u := .type "tuple") (by rfl) Z.tuple (by decide +kernel) rfl) pa_nil))))) (pw_or1 (pt_cmpR op_ne (km_countD (K := K) (hu65 hr) (pe_ix (kx_tup (K := K)) (pv 8) pe_int (fun _ _ => rfl)) (pa_cons (pv 6) pa_nil)) pe_int (nomark _)))))) (pss_one (ps_ret pe_bl)) pss_nil))) pss_nil)
  (pss_cons (ps_if (pt_cmpR (ko_ne (K := K) hr.units) (pe_callF G__law_asked (hr.mono (by decide)) rfl pass0 (pa_cons (pe_callF G__law_no_sort (hr.mono (by decide)) rfl pass0 (pa_cons (pv 2) pa_nil)) (pa_cons (pv 6) pa_nil))) (pe_tupF (pa_cons pe_str (pa_cons pe_str pa_nil))) (nomark _)) (pss_one (ps_ret pe_bl)) pss_nil)
  (pss_one (ps_if (PW.pt (pw_and (pt_cmpR op_gt (pv 4) pe_int (nomark _)) (pw_and1 (pt_cmpR (ko_ne (K := K) hr.units) (pe_callF G__law_asked (hr.mono (by decide)) rfl pass0 (pa_cons (pv 3) (pa_cons (pe_callF G__law_stranger (hr.mono (by decide)) rfl pass0 (pa_cons (pv 2) (pa_cons (pv 3) (pa_cons (pv 4) pa_nil)))) pa_nil))) (pe_tupF (pa_cons pe_str (pa_cons pe_str pa_nil))) (nomark _))))) (pss_one (ps_ret pe_bl)) pss_nil))))))))))))
  (pss_one (ps_ret pe_bl))), ?_⟩)
  · obtain ⟨a, ns, rfl, _⟩ := h
    rfl
  · obtain ⟨a, ns, rfl, ha, hl, kf⟩ := h
    refine ⟨3, rfl, by decide, by decide, ?_⟩
    refine for_range (lo := 0) (n := 3) (fun i σ H' => Ex H H' ∧ ∃ v1 v2 v3 v4 v5 v6 v7 v8, σ = [some (.ref a), v1, v2, v3, v4, v5, v6, v7, v8]) ⟨Ex.refl _, none, none, none, none, none, none, none, none, rfl⟩ (fun i σ H' hi y => ?_) (fun σ H' y => kf _)
    obtain ⟨ex, v1, v2, v3, v4, v5, v6, v7, v8, rfl⟩ := y
    have e0 : (0 : Int) + (i : Int) = (i : Int) := by omega
    show gName _ (V.int ((0 : Int) + (i : Int))) _ _ _
    rw [e0]
    have s3 : (3 : Nat) ≤ sizeLine := by decide
    refine ⟨_, rfl, _, rfl, a, ns, i, rfl, ex_l ex ha, by omega, hl, fun d H1 w1 => ?_⟩
    refine ⟨_, rfl, by show 3 ≤ sizeLine; decide, fun L0 hL0 => ⟨d, L0, false, _, _, rfl, w1.new hL0, sqb_l upd_same, by simp, by decide, fun i0 v0 H0 hv0 w0 => ?_⟩⟩
    have er0 := Ex.new (o := .lst [V.str "two", V.str "twice", V.str "three"]) (w1.free hL0)
    generalize upd H' L0 (.lst [V.str "two", V.str "twice", V.str "three"]) = R0 at w0 er0
    obtain ⟨s, rfl⟩ := one_of_sorts hv0
    have q23 := s.q_le
    have qq : s.q = 2 ∨ s.q = 3 := by omega
    refine ⟨_, rfl, _, rfl, d, R0, s, rfl, w0, fun n H2 n1 n2 w2 => ?_⟩
    have hn : n ≤ 24 := Nat.le_trans n1 (by cases s <;> decide)
    refine ⟨_, rfl, s, rfl, fun H3 e3 => ?_⟩
    have w3 := w2.keep e3
    refine ⟨_, rfl, _, rfl, _, rfl, _, rfl, _, rfl, d, R0, s, n, 3, rfl, w3, hn, n2, by decide, fun t rows R4 H4 er4 w4 tr4 io => ⟨s3, fun c o hc ho => ?_⟩⟩
    have w5 := w4.new (o := .frz o (.tup [V.int (s.q : Nat), .int (n : Int), .ref t])) hc
    have e5 := Ex.new (o := .frz o (.tup [V.int (s.q : Nat), .int (n : Int), .ref t])) (w4.free hc)
    have hc5 : Tp K (upd R4 c (.frz o (.tup [V.int (s.q : Nat), .int (n : Int), .ref t]))) c [V.int (s.q : Nat), .int (n : Int), .ref t] := Tp.of ho upd_same
    have tr5 := tr4.ex' e5
    generalize upd R4 c (.frz o (.tup [V.int (s.q : Nat), .int (n : Int), .ref t])) = R5 at w5 e5 hc5 tr5
    generalize upd H4 c (.frz o (.tup [V.int (s.q : Nat), .int (n : Int), .ref t])) = H5 at w5 ⊢
    have tc5 : TpC K R5 c s.q n rows := ⟨t, hc5, tr5⟩
    have er5 := er0.trans (er4.trans e5)
    have co := io.code hn
    have few := few_of io n1
    have half := io.half
    have q0 := s.q_pos
    refine ⟨_, rfl, _, rfl, _, rfl, d, c, R5, s, n, rows, rfl, w5, tc5, io, n1, fun R6 H6 er6 w6 => ⟨_, rfl, iteF ?_⟩⟩
    refine ⟨_, rfl, _, rfl, _, rfl, _, rfl, d, R6, s.q, n, rfl, w6, by omega, by omega, by omega, fun t7 row7 R7 H7 er7 w7 t7' o7 => ?_⟩
    refine ⟨s, n, t7, row7, rfl, t7'.ex w7.ex, by omega, o7, fun t8 row H8 e8 t8' ro ft => ?_⟩
    obtain ⟨R8, er8, w8, m8⟩ := w7.more e8
    have t8r := w8.know m8 t8'
    have er58 := er6.trans (er7.trans er8)
    have tc8 := tc5.ex er58
    have hc8 := hc5.ex er58
    have tr8 := tr5.ex' er58
    have er8' := er5.trans er58
    obtain ⟨es8, hes8, lg8⟩ := id tr8
    clear w1 w2 w3 w4 w5 w6 w7 e8 e3 t8' t7'
    dsimp only [gName, tNext]
    refine if_join (fun σ' H'' => ∃ R9 v8, Ex R8 R9 ∧ Bx d R9 H'' ∧ σ' = [some (.ref a), some (.int (i : Int)), some (.ref d), some (.str s.s), some (.int (n : Int)), some (.int (s.q : Nat)), some (.ref c), some (.ref t8), v8]) (fun σ' H'' z => ?_) (fun nx after => ?_)
    · obtain ⟨R9, v8, er9, w9, rfl⟩ := z
      have s2 : (2 : Nat) ≤ sizeLine := by decide
      have tc9 := tc8.ex er9
      refine ⟨_, rfl, d, R9, rfl, w9, fun z H10 hz w10 => ?_⟩
      refine ⟨_, rfl, z, c, s.q, n, rows, rfl, tc9.ex w10.ex, co, .inl ⟨.inl hz, fun T H11 e11 h11 => ?_⟩⟩
      refine ⟨s2, fun U o hU ho => ne_ref (by decide +kernel) (h11.ex (Ex.new hU)) (Tp.of ho upd_same) ⟨_, rfl, iteF ?_⟩⟩
      have w11 := w10.keep (e11.trans (Ex.new (o := .frz o (.tup [V.str "refused", V.str "sort"])) hU))
      generalize upd H11 U (.frz o (.tup [V.str "refused", V.str "sort"])) = H12 at w11 ⊢
      dsimp only [tNext]
      refine ⟨_, rfl, _, _, rfl, rfl, _, rfl, ?_⟩
      by_cases n0 : 0 < n
      · rw [decide_eq_true (show (0 : Int) < (n : Int) by omega)]
        refine iteT ⟨_, rfl, _, rfl, _, rfl, _, rfl, d, R9, s, n, rfl, w11, hn, n2, n0, fun sp q' rows' R13 H13 er13 w13 tc13 co13 no13 => ?_⟩
        refine ⟨s.s, sp, q', n, rows', rfl, tc13.ex w13.ex, co13, .inl ⟨.inr ⟨s, rfl, no13⟩, fun T2 H14 e14 h14 => ?_⟩⟩
        refine ⟨s2, fun U2 o2 hU2 ho2 => ne_ref (by decide +kernel) (h14.ex (Ex.new hU2)) (Tp.of ho2 upd_same) ⟨_, rfl, iteF ?_⟩⟩
        have w15 := w13.keep (e14.trans (Ex.new (o := .frz o2 (.tup [V.str "refused", V.str "sort"])) hU2))
        exact ⟨ex.trans ((er8'.trans (er9.trans er13)).trans w15.ex), _, _, _, _, _, _, _, _, rfl⟩
      · rw [decide_eq_false (show ¬ (0 : Int) < (n : Int) by omega)]
        exact iteF (iteF ⟨ex.trans ((er8'.trans er9).trans w11.ex), _, _, _, _, _, _, _, _, rfl⟩)
    · have h8 := hc8.ex w8.ex
      have t88 := t8r.ex w8.ex
      have r88 := tr8.ex' w8.ex
      refine ⟨_, rfl, _, _, rfl, rfl, _, rfl, ?_⟩
      by_cases n13 : (n : Int) < 13
      · rw [decide_eq_true n13]
        refine iteT ⟨_, rfl, _, rfl, c, _, 2, _, rfl, rfl, h8.sq, rfl, _, rfl, s.q, n, true, t, t8, rows, row, rfl, r88, t88, by omega, by omega, qq, io.red, ro, fun t9 rows9 H9 e9 tr9 wr => ?_⟩
        have wm := with_more q0 io.red ro wr
        obtain ⟨es9, h9, l9⟩ := tr9
        have w9 := w8.keep e9
        refine ⟨t9, _, rfl, .inr h9.sq, _, rfl, c, _, 2, _, rfl, rfl, (h8.ex e9).sq, rfl, t, _, rfl, .inr (hes8.ex w9.ex).sq, _, _, rfl, rfl, _, rfl, ?_⟩
        rw [List.length_map, List.length_map, l9.len, lg8.len]
        by_cases sp : Sp s.q n rows row
        · rw [decide_eq_false (show ¬ ((rows.length : Nat) : Int) < ((rows9.length : Nat) : Int) from fun g => (wm.mp (by omega)) sp)]
          exact iteF (after _ _ ⟨R8, v8, Ex.refl _, w9, rfl⟩)
        · rw [decide_eq_true (show ((rows.length : Nat) : Int) < ((rows9.length : Nat) : Int) from by have := wm.mpr sp; omega)]
          refine iteT ⟨_, rfl, _, rfl, _, rfl, _, rfl, _, rfl, c, _, 2, _, rfl, rfl, (h8.ex e9).sq, rfl, _, rfl, s.q, n, t, t8, rows, row, rfl, r88.ex' e9, t88.ex e9, by omega, by omega, qq, io.red, io.desc, ro, fun t11 rows11 H11 e11 tr11 led => ⟨s3, fun c2 o2 hc2 ho2 => ?_⟩⟩
          have nb := LedR.nb qq io.red io.desc ro sp led
          have io11 := nb.own io ro ft sp
          have eC := Ex.new (o := .frz o2 (.tup [V.int (s.q : Nat), V.int (n : Int), V.ref t11])) hc2
          have tc12 : TpC K (upd H11 c2 (.frz o2 (.tup [V.int (s.q : Nat), V.int (n : Int), V.ref t11]))) c2 s.q n rows11 := ⟨t11, Tp.of ho2 upd_same, tr11.ex' eC⟩
          have w12 := w9.keep (e11.trans eC)
          generalize upd H11 c2 (.frz o2 (.tup [V.int (s.q : Nat), V.int (n : Int), V.ref t11])) = H12 at tc12 w12 ⊢
          refine ⟨s.s, c2, s.q, n, rows11, rfl, tc12, io11.code hn, .inr ⟨s, rfl, rfl, io11, hn, few_of io11 n1, fun T t13 H13 e13 hT tt => ?_⟩⟩
          have w13 := w12.keep e13
          obtain ⟨es13, h13, l13⟩ := id tt
          refine ⟨_, rfl, T, _, 0, _, rfl, rfl, hT.sq, rfl, rfl, _, rfl, iteF ?_⟩
          refine ⟨_, rfl, T, _, 1, _, rfl, rfl, hT.sq, rfl, _, .ty "tuple", _, .type "tuple", _, rfl, .ty _, ((Vk.tup h13 : Vk K H13 _ _)).ty, kit_vk ((Vk.tup h13 : Vk K H13 _ _)) "tuple", _, rfl, iteF ?_⟩
          refine ⟨_, rfl, T, _, 1, _, rfl, rfl, hT.sq, rfl, ⟨_, _, rfl, h13⟩, _, rfl, t13, _, codeD s.q n rows, (nbsF s n rows11).map (codeD s.q n), rfl, rfl, dp_codes tt, dp_code (tc8.ex w13.ex), plain_codes .., plain_code .., Nat.le_trans (lay_codeD _ _ _).2 (by decide), rfl, _, rfl, ?_⟩
          rw [count_codes _ _ (nbs_nodup io11) (back_in io ro ft sp nb)]
          exact iteF (after _ _ ⟨R8, _, Ex.refl _, w13, rfl⟩)
      · rw [decide_eq_false n13]
        exact iteF (iteF (after _ _ ⟨R8, v8, Ex.refl _, w8, rfl⟩))
end
end K47

set_option maxHeartbeats 0
namespace K47
open PySem PySem.Spec PyProof.Rows L2 Own
/-! ### the head: facts by names, the run -/
def d_added : He.DefD := ⟨("added", none), "added", "added", defArgs s_added, defBody s_added, defScope s_added, [], []⟩
def d_less : He.DefD := ⟨("less", none), "less", "less", defArgs s_less, defBody s_less, defScope s_less, [], []⟩
def d_times : He.DefD := ⟨("times", none), "times", "times", defArgs s_times, defBody s_times, defScope s_times, [], []⟩
def d_worth : He.DefD := ⟨("worth", none), "worth", "worth", defArgs s_worth, defBody s_worth, defScope s_worth, [], []⟩
def d_weight : He.DefD := ⟨("weight", none), "weight", "weight", defArgs s_weight, defBody s_weight, defScope s_weight, [], []⟩
def d_nought_row : He.DefD := ⟨("nought_row", none), "nought_row", "nought_row", defArgs s_nought_row, defBody s_nought_row, defScope s_nought_row, [], []⟩
def d_unit_row : He.DefD := ⟨("unit_row", none), "unit_row", "unit_row", defArgs s_unit_row, defBody s_unit_row, defScope s_unit_row, [], []⟩
def d_first_place : He.DefD := ⟨("first_place", none), "first_place", "first_place", defArgs s_first_place, defBody s_first_place, defScope s_first_place, [], []⟩
def d_lowered : He.DefD := ⟨("lowered", none), "lowered", "lowered", defArgs s_lowered, defBody s_lowered, defScope s_lowered, [], []⟩
def d_dimension : He.DefD := ⟨("dimension", none), "dimension", "dimension", defArgs s_dimension, defBody s_dimension, defScope s_dimension, [], []⟩
def d_whole_room : He.DefD := ⟨("whole_room", none), "whole_room", "whole_room", defArgs s_whole_room, defBody s_whole_room, defScope s_whole_room, [], []⟩
def d_walked : He.DefD := ⟨("walked", none), "walked", "walked", defArgs s_walked, defBody s_walked, defScope s_walked, [], []⟩
def d_words : He.DefD := ⟨("words", none), "words", "words", defArgs s_words, defBody s_words, defScope s_words, [], []⟩
def d_is_sort : He.DefD := ⟨("is_sort", none), "is_sort", "is_sort", defArgs s_is_sort, defBody s_is_sort, defScope s_is_sort, [], []⟩
def d_is_inside : He.DefD := ⟨("is_inside", none), "is_inside", "is_inside", defArgs s_is_inside, defBody s_is_inside, defScope s_is_inside, [], []⟩
def d_is_own : He.DefD := ⟨("is_own", none), "is_own", "is_own", defArgs s_is_own, defBody s_is_own, defScope s_is_own, [], []⟩
def d_is_twice : He.DefD := ⟨("is_twice", none), "is_twice", "is_twice", defArgs s_is_twice, defBody s_is_twice, defScope s_is_twice, [], []⟩
def d_is_of_sort : He.DefD := ⟨("is_of_sort", none), "is_of_sort", "is_of_sort", defArgs s_is_of_sort, defBody s_is_of_sort, defScope s_is_of_sort, [], []⟩
def d_plus_times : He.DefD := ⟨("plus_times", none), "plus_times", "plus_times", defArgs s_plus_times, defBody s_plus_times, defScope s_plus_times, [], []⟩
def d_need_sort : He.DefD := ⟨("need_sort", none), "need_sort", "need_sort", defArgs s_need_sort, defBody s_need_sort, defScope s_need_sort, [], []⟩
def d_with_row : He.DefD := ⟨("with_row", none), "with_row", "with_row", defArgs s_with_row, defBody s_with_row, defScope s_with_row, [], []⟩
def d_common_rows : He.DefD := ⟨("common_rows", none), "common_rows", "common_rows", defArgs s_common_rows, defBody s_common_rows, defScope s_common_rows, [], []⟩
def d_is_fitting : He.DefD := ⟨("is_fitting", none), "is_fitting", "is_fitting", defArgs s_is_fitting, defBody s_is_fitting, defScope s_is_fitting, [], []⟩
def d_leading_rows : He.DefD := ⟨("leading_rows", none), "leading_rows", "leading_rows", defArgs s_leading_rows, defBody s_leading_rows, defScope s_leading_rows, [], []⟩
def d_neighbours : He.DefD := ⟨("neighbours", none), "neighbours", "neighbours", defArgs s_neighbours, defBody s_neighbours, defScope s_neighbours, [], []⟩
def d__law_box : He.DefD := ⟨("_law_box", none), "_law_box", "_law_box", defArgs s__law_box, defBody s__law_box, defScope s__law_box, [], []⟩
def d__law_take : He.DefD := ⟨("_law_take", none), "_law_take", "_law_take", defArgs s__law_take, defBody s__law_take, defScope s__law_take, [], []⟩
def d__law_pick : He.DefD := ⟨("_law_pick", none), "_law_pick", "_law_pick", defArgs s__law_pick, defBody s__law_pick, defScope s__law_pick, [], []⟩
def d__law_plain : He.DefD := ⟨("_law_plain", none), "_law_plain", "_law_plain", defArgs s__law_plain, defBody s__law_plain, defScope s__law_plain, [], []⟩
def d__law_first : He.DefD := ⟨("_law_first", none), "_law_first", "_law_first", defArgs s__law_first, defBody s__law_first, defScope s__law_first, [], []⟩
def d__law_plus : He.DefD := ⟨("_law_plus", none), "_law_plus", "_law_plus", defArgs s__law_plus, defBody s__law_plus, defScope s__law_plus, [], []⟩
def d__law_worth : He.DefD := ⟨("_law_worth", none), "_law_worth", "_law_worth", defArgs s__law_worth, defBody s__law_worth, defScope s__law_worth, [], []⟩
def d__law_weight : He.DefD := ⟨("_law_weight", none), "_law_weight", "_law_weight", defArgs s__law_weight, defBody s__law_weight, defScope s__law_weight, [], []⟩
def d__law_with : He.DefD := ⟨("_law_with", none), "_law_with", "_law_with", defArgs s__law_with, defBody s__law_with, defScope s__law_with, [], []⟩
def d__law_steps : He.DefD := ⟨("_law_steps", none), "_law_steps", "_law_steps", defArgs s__law_steps, defBody s__law_steps, defScope s__law_steps, [], []⟩
def d__law_led : He.DefD := ⟨("_law_led", none), "_law_led", "_law_led", defArgs s__law_led, defBody s__law_led, defScope s__law_led, [], []⟩
def d__law_by : He.DefD := ⟨("_law_by", none), "_law_by", "_law_by", defArgs s__law_by, defBody s__law_by, defScope s__law_by, [], []⟩
def d__law_fitting : He.DefD := ⟨("_law_fitting", none), "_law_fitting", "_law_fitting", defArgs s__law_fitting, defBody s__law_fitting, defScope s__law_fitting, [], []⟩
def d__law_row : He.DefD := ⟨("_law_row", none), "_law_row", "_law_row", defArgs s__law_row, defBody s__law_row, defScope s__law_row, [], []⟩
def d__law_letters : He.DefD := ⟨("_law_letters", none), "_law_letters", "_law_letters", defArgs s__law_letters, defBody s__law_letters, defScope s__law_letters, [], []⟩
def d__law_pieces : He.DefD := ⟨("_law_pieces", none), "_law_pieces", "_law_pieces", defArgs s__law_pieces, defBody s__law_pieces, defScope s__law_pieces, [], []⟩
def d__law_begin : He.DefD := ⟨("_law_begin", none), "_law_begin", "_law_begin", defArgs s__law_begin, defBody s__law_begin, defScope s__law_begin, [], []⟩
def d__law_exchange : He.DefD := ⟨("_law_exchange", none), "_law_exchange", "_law_exchange", defArgs s__law_exchange, defBody s__law_exchange, defScope s__law_exchange, [], []⟩
def d__law_moved : He.DefD := ⟨("_law_moved", none), "_law_moved", "_law_moved", defArgs s__law_moved, defBody s__law_moved, defScope s__law_moved, [], []⟩
def d__law_own : He.DefD := ⟨("_law_own", none), "_law_own", "_law_own", defArgs s__law_own, defBody s__law_own, defScope s__law_own, [], []⟩
def d__law_walk : He.DefD := ⟨("_law_walk", none), "_law_walk", "_law_walk", defArgs s__law_walk, defBody s__law_walk, defScope s__law_walk, [], []⟩
def d__law_inside : He.DefD := ⟨("_law_inside", none), "_law_inside", "_law_inside", defArgs s__law_inside, defBody s__law_inside, defScope s__law_inside, [], []⟩
def d__law_is_one : He.DefD := ⟨("_law_is_one", none), "_law_is_one", "_law_is_one", defArgs s__law_is_one, defBody s__law_is_one, defScope s__law_is_one, [], []⟩
def d__law_no_sort : He.DefD := ⟨("_law_no_sort", none), "_law_no_sort", "_law_no_sort", defArgs s__law_no_sort, defBody s__law_no_sort, defScope s__law_no_sort, [], []⟩
def d__law_stranger : He.DefD := ⟨("_law_stranger", none), "_law_stranger", "_law_stranger", defArgs s__law_stranger, defBody s__law_stranger, defScope s__law_stranger, [], []⟩
def d__law_apart : He.DefD := ⟨("_law_apart", none), "_law_apart", "_law_apart", defArgs s__law_apart, defBody s__law_apart, defScope s__law_apart, [], []⟩
def d__law_near_room : He.DefD := ⟨("_law_near_room", none), "_law_near_room", "_law_near_room", defArgs s__law_near_room, defBody s__law_near_room, defScope s__law_near_room, [], []⟩
def d__law_many : He.DefD := ⟨("_law_many", none), "_law_many", "_law_many", defArgs s__law_many, defBody s__law_many, defScope s__law_many, [], []⟩
def d__law_asked : He.DefD := ⟨("_law_asked", none), "_law_asked", "_law_asked", defArgs s__law_asked, defBody s__law_asked, defScope s__law_asked, [], []⟩
def d__law_rows_of_worths : He.DefD := ⟨("_law_rows_of_worths", none), "_law_rows_of_worths", "_law_rows_of_worths", defArgs s__law_rows_of_worths, defBody s__law_rows_of_worths, defScope s__law_rows_of_worths, [], []⟩
def d__law_all : He.DefD := ⟨("_law_all", none), "_law_all", "_law_all", defArgs s__law_all, defBody s__law_all, defScope s__law_all, [], []⟩
def d__law_lot : He.DefD := ⟨("_law_lot", none), "_law_lot", "_law_lot", defArgs s__law_lot, defBody s__law_lot, defScope s__law_lot, [], []⟩
def d__law_is_whole : He.DefD := ⟨("_law_is_whole", none), "_law_is_whole", "_law_is_whole", defArgs s__law_is_whole, defBody s__law_is_whole, defScope s__law_is_whole, [], []⟩
def d_law : He.DefD := ⟨("law", none), "law", "law", defArgs s_law, defBody s_law, defScope s_law, [], []⟩
def fnL : List He.DefD := [d_added, d_less, d_times, d_worth, d_weight, d_nought_row, d_unit_row, d_first_place, d_lowered, d_dimension, d_whole_room, d_walked, d_words, d_is_sort, d_is_inside, d_is_own, d_is_twice, d_is_of_sort, d_plus_times, d_need_sort, d_with_row, d_common_rows, d_is_fitting, d_leading_rows, d_neighbours, d__law_box, d__law_take, d__law_pick, d__law_plain, d__law_first, d__law_plus, d__law_worth, d__law_weight, d__law_with, d__law_steps, d__law_led, d__law_by, d__law_fitting, d__law_row, d__law_letters, d__law_pieces, d__law_begin, d__law_exchange, d__law_moved, d__law_own, d__law_walk, d__law_inside, d__law_is_one, d__law_no_sort, d__law_stranger, d__law_apart, d__law_near_room, d__law_many, d__law_asked, d__law_rows_of_worths, d__law_all, d__law_lot, d__law_is_whole, d_law]
def faL : List He.Fa := [.glo "added", .glo "less", .glo "times", .glo "worth", .glo "weight", .glo "nought_row", .glo "unit_row", .glo "first_place", .glo "lowered", .glo "dimension", .glo "whole_room", .glo "walked", .glo "words", .glo "is_sort", .glo "is_inside", .glo "is_own", .glo "is_twice", .glo "is_of_sort", .glo "plus_times", .glo "need_sort", .glo "with_row", .glo "common_rows", .glo "is_fitting", .glo "leading_rows", .glo "neighbours", .glo "_law_box", .glo "_law_take", .glo "_law_pick", .glo "_law_plain", .glo "_law_first", .glo "_law_plus", .glo "_law_worth", .glo "_law_weight", .glo "_law_with", .glo "_law_steps", .glo "_law_led", .glo "_law_by", .glo "_law_fitting", .glo "_law_row", .glo "_law_letters", .glo "_law_pieces", .glo "_law_begin", .glo "_law_exchange", .glo "_law_moved", .glo "_law_own", .glo "_law_walk", .glo "_law_inside", .glo "_law_is_one", .glo "_law_no_sort", .glo "_law_stranger", .glo "_law_apart", .glo "_law_near_room", .glo "_law_many", .glo "_law_asked", .glo "_law_rows_of_worths", .glo "_law_all", .glo "_law_lot", .glo "_law_is_whole", .glo "law", .glo "Refused", .free "abs", .free "all", .free "any", .free "bool", .free "enumerate", .free "int", .free "isinstance", .free "len", .free "list", .free "max", .free "range", .free "reversed", .free "sorted", .free "str", .free "sum", .free "tuple", .free "zip"]
def exRefused : ExD := exWord "Refused" "MirrorError" "refused" "Refused.__init__" ⟨6, 17, 6, 21⟩ ⟨6, 23, 6, 27⟩ ⟨7, 8, 7, 13⟩ ⟨7, 8, 7, 15⟩ ⟨7, 8, 7, 24⟩ ⟨7, 25, 7, 34⟩ ⟨7, 8, 7, 35⟩ ⟨7, 8, 7, 35⟩ ⟨8, 8, 8, 12⟩ ⟨8, 8, 8, 17⟩ ⟨8, 20, 8, 24⟩ ⟨8, 8, 8, 24⟩
def exL : List ExD := [exRefused]
def koD : KoD := { dics := [("STEPS", dSTEPS), ("LETTERS", dLETTERS)] }
abbrev RR : PySem.W.OpenRow := PySem.W.OpenLaw.row PySem.Challenge.rw_ownmirrors_k47_whole_all_neighbours_and
abbrev PR : Program := PySem.Challenge.pw_ownmirrors_k47_whole_all_neighbours_and
abbrev fileS : Str := PR.main.file
abbrev hk : PySem.W.Hook := hookK fileS 6 koD faL fnL exL
def ob (s : PySem.W.SharedT) : AlK := obsKG fileS 6 koD faL fnL exL (HandSHeadRun.getT s)
theorem ob_eq (s : PySem.W.SharedT) : ob s = hk.obs s.abs := obsKG_eq (HandSHeadRun.getT_eq s)
def looseL : List Str := (["MirrorError", "Refused", "added", "less", "times", "worth", "weight", "nought_row", "unit_row", "first_place", "lowered", "dimension", "whole_room", "walked", "words", "STEPS", "LETTERS", "is_sort", "is_inside", "is_own", "is_twice", "is_of_sort", "plus_times", "need_sort", "with_row", "common_rows", "is_fitting", "leading_rows", "neighbours", "_law_box"] : List Str) ++ (["_law_take", "_law_pick", "_law_plain", "_law_first", "_law_plus", "_law_worth", "_law_weight", "_law_with", "_law_steps", "_law_led", "_law_by", "_law_fitting", "_law_row", "_law_letters", "_law_pieces", "_law_begin", "_law_exchange", "_law_moved", "_law_own", "_law_walk", "_law_inside", "_law_is_one", "_law_no_sort", "_law_stranger", "_law_apart", "_law_near_room", "_law_many", "_law_asked", "_law_rows_of_worths", "_law_all"] : List Str) ++ (["_law_lot", "_law_is_whole"] : List Str)
theorem run0 (w : World) : HandSHeadRun.RunEq RR (PySem.W.view RR.prog [68]) hk ob 4000 looseL (w.withFollow "special-get-raises" false) := by
  intro os
  kernel_rfl
theorem run1 (w : World) : HandSHeadRun.RunEq RR (PySem.W.view RR.prog [68]) hk ob 4000 looseL (w.withFollow "special-get-raises" true) := by
  intro os
  kernel_rfl
theorem run (w : World) : HandSHeadRun.RunEq RR (PySem.W.view RR.prog [68]) hk ob 4000 looseL w :=
  PySem.W.byRow2 "special-get-raises" (P := fun w => HandSHeadRun.RunEq RR (PySem.W.view RR.prog [68]) hk ob 4000 looseL w) run0 run1 w
theorem exRefused_ok {K : PySem.W.Frag} (c : SaysE fileS faL fnL exL K) : PySem.OwXword.OexT PR K (He.ga K "Refused") (He.ga K "MirrorError") (He.ma K (He.ga K "Refused") "__init__") :=
  oex_word c.st (c.ex_ 0 (e := exRefused) rfl) (by decide +kernel) (fun env => ⟨_, rfl⟩) (fun env => rfl) (fun env => rfl)
theorem facts {w : World} {K : PySem.W.Frag} {h : Heap} {mg : Str → Option Value} {f : Addr} (X : K.In h) (G : h.Ns mainGlobals mg) (hfa : mg ("law" : Str) = some (.ref f)) (c : SaysK fileS koD faL fnL exL w K) :
    ∃ fd : FuncData, (∀ (s : Shared) (v : Value), BindsTo s fd ⟨[v], []⟩ [("script", v)]) ∧ ∀ base : Heap, K.In base → base.Ns mainGlobals mg → FnOk PR w K mg base CX0 10 f fd ["script"] (spLaw K) := by
  obtain ⟨fd_added, F_added⟩ := c.saysD.def_ 0 (d := d_added) rfl
  have m_added : mg "added" = some (.ref (He.ga K "added")) := He.glo_ok X G (c.saysD.fact 0 (f := .glo "added") rfl)
  have b_added : Binds K fd_added ["letters", "one", "other"] [] := FunD.bindsN F_added fun _ _ _ _ _ _ us hl => match us, hl with | [_, _, _], _ => rfl
  obtain ⟨fd_less, F_less⟩ := c.saysD.def_ 1 (d := d_less) rfl
  have m_less : mg "less" = some (.ref (He.ga K "less")) := He.glo_ok X G (c.saysD.fact 1 (f := .glo "less") rfl)
  have b_less : Binds K fd_less ["letters", "one", "other"] [] := FunD.bindsN F_less fun _ _ _ _ _ _ us hl => match us, hl with | [_, _, _], _ => rfl
  obtain ⟨fd_times, F_times⟩ := c.saysD.def_ 2 (d := d_times) rfl
  have m_times : mg "times" = some (.ref (He.ga K "times")) := He.glo_ok X G (c.saysD.fact 2 (f := .glo "times") rfl)
  have b_times : Binds K fd_times ["letters", "row", "number"] [] := FunD.bindsN F_times fun _ _ _ _ _ _ us hl => match us, hl with | [_, _, _], _ => rfl
  obtain ⟨fd_worth, F_worth⟩ := c.saysD.def_ 3 (d := d_worth) rfl
  have m_worth : mg "worth" = some (.ref (He.ga K "worth")) := He.glo_ok X G (c.saysD.fact 3 (f := .glo "worth") rfl)
  have b_worth : Binds K fd_worth ["letters", "one", "other"] [] := FunD.bindsN F_worth fun _ _ _ _ _ _ us hl => match us, hl with | [_, _, _], _ => rfl
  obtain ⟨fd_weight, F_weight⟩ := c.saysD.def_ 4 (d := d_weight) rfl
  have m_weight : mg "weight" = some (.ref (He.ga K "weight")) := He.glo_ok X G (c.saysD.fact 4 (f := .glo "weight") rfl)
  have b_weight : Binds K fd_weight ["row"] [] := FunD.bindsN F_weight fun _ _ _ _ _ _ us hl => match us, hl with | [_], _ => rfl
  obtain ⟨fd_nought_row, F_nought_row⟩ := c.saysD.def_ 5 (d := d_nought_row) rfl
  have m_nought_row : mg "nought_row" = some (.ref (He.ga K "nought_row")) := He.glo_ok X G (c.saysD.fact 5 (f := .glo "nought_row") rfl)
  have b_nought_row : Binds K fd_nought_row ["length"] [] := FunD.bindsN F_nought_row fun _ _ _ _ _ _ us hl => match us, hl with | [_], _ => rfl
  obtain ⟨fd_unit_row, F_unit_row⟩ := c.saysD.def_ 6 (d := d_unit_row) rfl
  have m_unit_row : mg "unit_row" = some (.ref (He.ga K "unit_row")) := He.glo_ok X G (c.saysD.fact 6 (f := .glo "unit_row") rfl)
  have b_unit_row : Binds K fd_unit_row ["length", "place"] [] := FunD.bindsN F_unit_row fun _ _ _ _ _ _ us hl => match us, hl with | [_, _], _ => rfl
  obtain ⟨fd_first_place, F_first_place⟩ := c.saysD.def_ 7 (d := d_first_place) rfl
  have m_first_place : mg "first_place" = some (.ref (He.ga K "first_place")) := He.glo_ok X G (c.saysD.fact 7 (f := .glo "first_place") rfl)
  have b_first_place : Binds K fd_first_place ["row"] [] := FunD.bindsN F_first_place fun _ _ _ _ _ _ us hl => match us, hl with | [_], _ => rfl
  obtain ⟨fd_lowered, F_lowered⟩ := c.saysD.def_ 8 (d := d_lowered) rfl
  have m_lowered : mg "lowered" = some (.ref (He.ga K "lowered")) := He.glo_ok X G (c.saysD.fact 8 (f := .glo "lowered") rfl)
  have b_lowered : Binds K fd_lowered ["letters", "steps", "row"] [] := FunD.bindsN F_lowered fun _ _ _ _ _ _ us hl => match us, hl with | [_, _, _], _ => rfl
  obtain ⟨fd_dimension, F_dimension⟩ := c.saysD.def_ 9 (d := d_dimension) rfl
  have m_dimension : mg "dimension" = some (.ref (He.ga K "dimension")) := He.glo_ok X G (c.saysD.fact 9 (f := .glo "dimension") rfl)
  have b_dimension : Binds K fd_dimension ["code"] [] := FunD.bindsN F_dimension fun _ _ _ _ _ _ us hl => match us, hl with | [_], _ => rfl
  obtain ⟨fd_whole_room, F_whole_room⟩ := c.saysD.def_ 10 (d := d_whole_room) rfl
  have m_whole_room : mg "whole_room" = some (.ref (He.ga K "whole_room")) := He.glo_ok X G (c.saysD.fact 10 (f := .glo "whole_room") rfl)
  have b_whole_room : Binds K fd_whole_room ["letters", "length"] [] := FunD.bindsN F_whole_room fun _ _ _ _ _ _ us hl => match us, hl with | [_, _], _ => rfl
  obtain ⟨fd_walked, F_walked⟩ := c.saysD.def_ 11 (d := d_walked) rfl
  have m_walked : mg "walked" = some (.ref (He.ga K "walked")) := He.glo_ok X G (c.saysD.fact 11 (f := .glo "walked") rfl)
  have b_walked : Binds K fd_walked ["code"] [] := FunD.bindsN F_walked fun _ _ _ _ _ _ us hl => match us, hl with | [_], _ => rfl
  obtain ⟨fd_words, F_words⟩ := c.saysD.def_ 12 (d := d_words) rfl
  have m_words : mg "words" = some (.ref (He.ga K "words")) := He.glo_ok X G (c.saysD.fact 12 (f := .glo "words") rfl)
  have b_words : Binds K fd_words ["code"] [] := FunD.bindsN F_words fun _ _ _ _ _ _ us hl => match us, hl with | [_], _ => rfl
  obtain ⟨fd_is_sort, F_is_sort⟩ := c.saysD.def_ 13 (d := d_is_sort) rfl
  have m_is_sort : mg "is_sort" = some (.ref (He.ga K "is_sort")) := He.glo_ok X G (c.saysD.fact 13 (f := .glo "is_sort") rfl)
  have b_is_sort : Binds K fd_is_sort ["value"] [] := FunD.bindsN F_is_sort fun _ _ _ _ _ _ us hl => match us, hl with | [_], _ => rfl
  obtain ⟨fd_is_inside, F_is_inside⟩ := c.saysD.def_ 14 (d := d_is_inside) rfl
  have m_is_inside : mg "is_inside" = some (.ref (He.ga K "is_inside")) := He.glo_ok X G (c.saysD.fact 14 (f := .glo "is_inside") rfl)
  have b_is_inside : Binds K fd_is_inside ["code"] [] := FunD.bindsN F_is_inside fun _ _ _ _ _ _ us hl => match us, hl with | [_], _ => rfl
  obtain ⟨fd_is_own, F_is_own⟩ := c.saysD.def_ 15 (d := d_is_own) rfl
  have m_is_own : mg "is_own" = some (.ref (He.ga K "is_own")) := He.glo_ok X G (c.saysD.fact 15 (f := .glo "is_own") rfl)
  have b_is_own : Binds K fd_is_own ["code"] [] := FunD.bindsN F_is_own fun _ _ _ _ _ _ us hl => match us, hl with | [_], _ => rfl
  obtain ⟨fd_is_twice, F_is_twice⟩ := c.saysD.def_ 16 (d := d_is_twice) rfl
  have m_is_twice : mg "is_twice" = some (.ref (He.ga K "is_twice")) := He.glo_ok X G (c.saysD.fact 16 (f := .glo "is_twice") rfl)
  have b_is_twice : Binds K fd_is_twice ["code"] [] := FunD.bindsN F_is_twice fun _ _ _ _ _ _ us hl => match us, hl with | [_], _ => rfl
  obtain ⟨fd_is_of_sort, F_is_of_sort⟩ := c.saysD.def_ 17 (d := d_is_of_sort) rfl
  have m_is_of_sort : mg "is_of_sort" = some (.ref (He.ga K "is_of_sort")) := He.glo_ok X G (c.saysD.fact 17 (f := .glo "is_of_sort") rfl)
  have b_is_of_sort : Binds K fd_is_of_sort ["sort", "code"] [] := FunD.bindsN F_is_of_sort fun _ _ _ _ _ _ us hl => match us, hl with | [_, _], _ => rfl
  obtain ⟨fd_plus_times, F_plus_times⟩ := c.saysD.def_ 18 (d := d_plus_times) rfl
  have m_plus_times : mg "plus_times" = some (.ref (He.ga K "plus_times")) := He.glo_ok X G (c.saysD.fact 18 (f := .glo "plus_times") rfl)
  have b_plus_times : Binds K fd_plus_times ["letters", "one", "other", "many"] [] := FunD.bindsN F_plus_times fun _ _ _ _ _ _ us hl => match us, hl with | [_, _, _, _], _ => rfl
  obtain ⟨fd_need_sort, F_need_sort⟩ := c.saysD.def_ 19 (d := d_need_sort) rfl
  have m_need_sort : mg "need_sort" = some (.ref (He.ga K "need_sort")) := He.glo_ok X G (c.saysD.fact 19 (f := .glo "need_sort") rfl)
  have b_need_sort : Binds K fd_need_sort ["sort", "codes"] [] := FunD.bindsN F_need_sort fun _ _ _ _ _ _ us hl => match us, hl with | [_, _], _ => rfl
  obtain ⟨fd_with_row, F_with_row⟩ := c.saysD.def_ 20 (d := d_with_row) rfl
  have m_with_row : mg "with_row" = some (.ref (He.ga K "with_row")) := He.glo_ok X G (c.saysD.fact 20 (f := .glo "with_row") rfl)
  have b_with_row : Binds K fd_with_row ["letters", "length", "rows", "row"] [] := FunD.bindsN F_with_row fun _ _ _ _ _ _ us hl => match us, hl with | [_, _, _, _], _ => rfl
  obtain ⟨fd_common_rows, F_common_rows⟩ := c.saysD.def_ 21 (d := d_common_rows) rfl
  have m_common_rows : mg "common_rows" = some (.ref (He.ga K "common_rows")) := He.glo_ok X G (c.saysD.fact 21 (f := .glo "common_rows") rfl)
  have b_common_rows : Binds K fd_common_rows ["letters", "rows", "worths"] [] := FunD.bindsN F_common_rows fun _ _ _ _ _ _ us hl => match us, hl with | [_, _, _], _ => rfl
  obtain ⟨fd_is_fitting, F_is_fitting⟩ := c.saysD.def_ 22 (d := d_is_fitting) rfl
  have m_is_fitting : mg "is_fitting" = some (.ref (He.ga K "is_fitting")) := He.glo_ok X G (c.saysD.fact 22 (f := .glo "is_fitting") rfl)
  have b_is_fitting : Binds K fd_is_fitting ["sort", "row"] [] := FunD.bindsN F_is_fitting fun _ _ _ _ _ _ us hl => match us, hl with | [_, _], _ => rfl
  obtain ⟨fd_leading_rows, F_leading_rows⟩ := c.saysD.def_ 23 (d := d_leading_rows) rfl
  have m_leading_rows : mg "leading_rows" = some (.ref (He.ga K "leading_rows")) := He.glo_ok X G (c.saysD.fact 23 (f := .glo "leading_rows") rfl)
  have b_leading_rows : Binds K fd_leading_rows ["sort", "code", "worths"] [] := FunD.bindsN F_leading_rows fun _ _ _ _ _ _ us hl => match us, hl with | [_, _, _], _ => rfl
  obtain ⟨fd_neighbours, F_neighbours⟩ := c.saysD.def_ 24 (d := d_neighbours) rfl
  have m_neighbours : mg "neighbours" = some (.ref (He.ga K "neighbours")) := He.glo_ok X G (c.saysD.fact 24 (f := .glo "neighbours") rfl)
  have b_neighbours : Binds K fd_neighbours ["sort", "code"] [] := FunD.bindsN F_neighbours fun _ _ _ _ _ _ us hl => match us, hl with | [_, _], _ => rfl
  obtain ⟨fd__law_box, F__law_box⟩ := c.saysD.def_ 25 (d := d__law_box) rfl
  have m__law_box : mg "_law_box" = some (.ref (He.ga K "_law_box")) := He.glo_ok X G (c.saysD.fact 25 (f := .glo "_law_box") rfl)
  have b__law_box : Binds K fd__law_box ["script", "k"] [] := FunD.bindsN F__law_box fun _ _ _ _ _ _ us hl => match us, hl with | [_, _], _ => rfl
  obtain ⟨fd__law_take, F__law_take⟩ := c.saysD.def_ 26 (d := d__law_take) rfl
  have m__law_take : mg "_law_take" = some (.ref (He.ga K "_law_take")) := He.glo_ok X G (c.saysD.fact 26 (f := .glo "_law_take") rfl)
  have b__law_take : Binds K fd__law_take ["box", "many"] [] := FunD.bindsN F__law_take fun _ _ _ _ _ _ us hl => match us, hl with | [_, _], _ => rfl
  obtain ⟨fd__law_pick, F__law_pick⟩ := c.saysD.def_ 27 (d := d__law_pick) rfl
  have m__law_pick : mg "_law_pick" = some (.ref (He.ga K "_law_pick")) := He.glo_ok X G (c.saysD.fact 27 (f := .glo "_law_pick") rfl)
  have b__law_pick : Binds K fd__law_pick ["box", "some"] [] := FunD.bindsN F__law_pick fun _ _ _ _ _ _ us hl => match us, hl with | [_, _], _ => rfl
  obtain ⟨fd__law_plain, F__law_plain⟩ := c.saysD.def_ 28 (d := d__law_plain) rfl
  have m__law_plain : mg "_law_plain" = some (.ref (He.ga K "_law_plain")) := He.glo_ok X G (c.saysD.fact 28 (f := .glo "_law_plain") rfl)
  have b__law_plain : Binds K fd__law_plain ["value"] [] := FunD.bindsN F__law_plain fun _ _ _ _ _ _ us hl => match us, hl with | [_], _ => rfl
  obtain ⟨fd__law_first, F__law_first⟩ := c.saysD.def_ 29 (d := d__law_first) rfl
  have m__law_first : mg "_law_first" = some (.ref (He.ga K "_law_first")) := He.glo_ok X G (c.saysD.fact 29 (f := .glo "_law_first") rfl)
  have b__law_first : Binds K fd__law_first ["row"] [] := FunD.bindsN F__law_first fun _ _ _ _ _ _ us hl => match us, hl with | [_], _ => rfl
  obtain ⟨fd__law_plus, F__law_plus⟩ := c.saysD.def_ 30 (d := d__law_plus) rfl
  have m__law_plus : mg "_law_plus" = some (.ref (He.ga K "_law_plus")) := He.glo_ok X G (c.saysD.fact 30 (f := .glo "_law_plus") rfl)
  have b__law_plus : Binds K fd__law_plus ["letters", "one", "other", "many"] [] := FunD.bindsN F__law_plus fun _ _ _ _ _ _ us hl => match us, hl with | [_, _, _, _], _ => rfl
  obtain ⟨fd__law_worth, F__law_worth⟩ := c.saysD.def_ 31 (d := d__law_worth) rfl
  have m__law_worth : mg "_law_worth" = some (.ref (He.ga K "_law_worth")) := He.glo_ok X G (c.saysD.fact 31 (f := .glo "_law_worth") rfl)
  have b__law_worth : Binds K fd__law_worth ["letters", "one", "other"] [] := FunD.bindsN F__law_worth fun _ _ _ _ _ _ us hl => match us, hl with | [_, _, _], _ => rfl
  obtain ⟨fd__law_weight, F__law_weight⟩ := c.saysD.def_ 32 (d := d__law_weight) rfl
  have m__law_weight : mg "_law_weight" = some (.ref (He.ga K "_law_weight")) := He.glo_ok X G (c.saysD.fact 32 (f := .glo "_law_weight") rfl)
  have b__law_weight : Binds K fd__law_weight ["row"] [] := FunD.bindsN F__law_weight fun _ _ _ _ _ _ us hl => match us, hl with | [_], _ => rfl
  obtain ⟨fd__law_with, F__law_with⟩ := c.saysD.def_ 33 (d := d__law_with) rfl
  have m__law_with : mg "_law_with" = some (.ref (He.ga K "_law_with")) := He.glo_ok X G (c.saysD.fact 33 (f := .glo "_law_with") rfl)
  have b__law_with : Binds K fd__law_with ["letters", "rows", "row"] [] := FunD.bindsN F__law_with fun _ _ _ _ _ _ us hl => match us, hl with | [_, _, _], _ => rfl
  obtain ⟨fd__law_steps, F__law_steps⟩ := c.saysD.def_ 34 (d := d__law_steps) rfl
  have m__law_steps : mg "_law_steps" = some (.ref (He.ga K "_law_steps")) := He.glo_ok X G (c.saysD.fact 34 (f := .glo "_law_steps") rfl)
  have b__law_steps : Binds K fd__law_steps ["letters", "rows"] [] := FunD.bindsN F__law_steps fun _ _ _ _ _ _ us hl => match us, hl with | [_, _], _ => rfl
  obtain ⟨fd__law_led, F__law_led⟩ := c.saysD.def_ 35 (d := d__law_led) rfl
  have m__law_led : mg "_law_led" = some (.ref (He.ga K "_law_led")) := He.glo_ok X G (c.saysD.fact 35 (f := .glo "_law_led") rfl)
  have b__law_led : Binds K fd__law_led ["letters", "rows", "row"] [] := FunD.bindsN F__law_led fun _ _ _ _ _ _ us hl => match us, hl with | [_, _, _], _ => rfl
  obtain ⟨fd__law_by, F__law_by⟩ := c.saysD.def_ 36 (d := d__law_by) rfl
  have m__law_by : mg "_law_by" = some (.ref (He.ga K "_law_by")) := He.glo_ok X G (c.saysD.fact 36 (f := .glo "_law_by") rfl)
  have b__law_by : Binds K fd__law_by ["sort"] [] := FunD.bindsN F__law_by fun _ _ _ _ _ _ us hl => match us, hl with | [_], _ => rfl
  obtain ⟨fd__law_fitting, F__law_fitting⟩ := c.saysD.def_ 37 (d := d__law_fitting) rfl
  have m__law_fitting : mg "_law_fitting" = some (.ref (He.ga K "_law_fitting")) := He.glo_ok X G (c.saysD.fact 37 (f := .glo "_law_fitting") rfl)
  have b__law_fitting : Binds K fd__law_fitting ["sort", "row"] [] := FunD.bindsN F__law_fitting fun _ _ _ _ _ _ us hl => match us, hl with | [_, _], _ => rfl
  obtain ⟨fd__law_row, F__law_row⟩ := c.saysD.def_ 38 (d := d__law_row) rfl
  have m__law_row : mg "_law_row" = some (.ref (He.ga K "_law_row")) := He.glo_ok X G (c.saysD.fact 38 (f := .glo "_law_row") rfl)
  have b__law_row : Binds K fd__law_row ["box", "letters", "length"] [] := FunD.bindsN F__law_row fun _ _ _ _ _ _ us hl => match us, hl with | [_, _, _], _ => rfl
  obtain ⟨fd__law_letters, F__law_letters⟩ := c.saysD.def_ 39 (d := d__law_letters) rfl
  have m__law_letters : mg "_law_letters" = some (.ref (He.ga K "_law_letters")) := He.glo_ok X G (c.saysD.fact 39 (f := .glo "_law_letters") rfl)
  have b__law_letters : Binds K fd__law_letters ["sort"] [] := FunD.bindsN F__law_letters fun _ _ _ _ _ _ us hl => match us, hl with | [_], _ => rfl
  obtain ⟨fd__law_pieces, F__law_pieces⟩ := c.saysD.def_ 40 (d := d__law_pieces) rfl
  have m__law_pieces : mg "_law_pieces" = some (.ref (He.ga K "_law_pieces")) := He.glo_ok X G (c.saysD.fact 40 (f := .glo "_law_pieces") rfl)
  have b__law_pieces : Binds K fd__law_pieces ["sort", "room"] [] := FunD.bindsN F__law_pieces fun _ _ _ _ _ _ us hl => match us, hl with | [_, _], _ => rfl
  obtain ⟨fd__law_begin, F__law_begin⟩ := c.saysD.def_ 41 (d := d__law_begin) rfl
  have m__law_begin : mg "_law_begin" = some (.ref (He.ga K "_law_begin")) := He.glo_ok X G (c.saysD.fact 41 (f := .glo "_law_begin") rfl)
  have b__law_begin : Binds K fd__law_begin ["box", "sort", "length"] [] := FunD.bindsN F__law_begin fun _ _ _ _ _ _ us hl => match us, hl with | [_, _, _], _ => rfl
  obtain ⟨fd__law_exchange, F__law_exchange⟩ := c.saysD.def_ 42 (d := d__law_exchange) rfl
  have m__law_exchange : mg "_law_exchange" = some (.ref (He.ga K "_law_exchange")) := He.glo_ok X G (c.saysD.fact 42 (f := .glo "_law_exchange") rfl)
  have b__law_exchange : Binds K fd__law_exchange ["box", "letters", "length"] [] := FunD.bindsN F__law_exchange fun _ _ _ _ _ _ us hl => match us, hl with | [_, _, _], _ => rfl
  obtain ⟨fd__law_moved, F__law_moved⟩ := c.saysD.def_ 43 (d := d__law_moved) rfl
  have m__law_moved : mg "_law_moved" = some (.ref (He.ga K "_law_moved")) := He.glo_ok X G (c.saysD.fact 43 (f := .glo "_law_moved") rfl)
  have b__law_moved : Binds K fd__law_moved ["letters", "row", "exchange"] [] := FunD.bindsN F__law_moved fun _ _ _ _ _ _ us hl => match us, hl with | [_, _, _], _ => rfl
  obtain ⟨fd__law_own, F__law_own⟩ := c.saysD.def_ 44 (d := d__law_own) rfl
  have m__law_own : mg "_law_own" = some (.ref (He.ga K "_law_own")) := He.glo_ok X G (c.saysD.fact 44 (f := .glo "_law_own") rfl)
  have b__law_own : Binds K fd__law_own ["box", "sort", "length", "turns"] [] := FunD.bindsN F__law_own fun _ _ _ _ _ _ us hl => match us, hl with | [_, _, _, _], _ => rfl
  obtain ⟨fd__law_walk, F__law_walk⟩ := c.saysD.def_ 45 (d := d__law_walk) rfl
  have m__law_walk : mg "_law_walk" = some (.ref (He.ga K "_law_walk")) := He.glo_ok X G (c.saysD.fact 45 (f := .glo "_law_walk") rfl)
  have b__law_walk : Binds K fd__law_walk ["box", "sort", "length", "rows", "turns"] [] := FunD.bindsN F__law_walk fun _ _ _ _ _ _ us hl => match us, hl with | [_, _, _, _, _], _ => rfl
  obtain ⟨fd__law_inside, F__law_inside⟩ := c.saysD.def_ 46 (d := d__law_inside) rfl
  have m__law_inside : mg "_law_inside" = some (.ref (He.ga K "_law_inside")) := He.glo_ok X G (c.saysD.fact 46 (f := .glo "_law_inside") rfl)
  have b__law_inside : Binds K fd__law_inside ["letters", "rows"] [] := FunD.bindsN F__law_inside fun _ _ _ _ _ _ us hl => match us, hl with | [_, _], _ => rfl
  obtain ⟨fd__law_is_one, F__law_is_one⟩ := c.saysD.def_ 47 (d := d__law_is_one) rfl
  have m__law_is_one : mg "_law_is_one" = some (.ref (He.ga K "_law_is_one")) := He.glo_ok X G (c.saysD.fact 47 (f := .glo "_law_is_one") rfl)
  have b__law_is_one : Binds K fd__law_is_one ["sort", "length", "value"] [] := FunD.bindsN F__law_is_one fun _ _ _ _ _ _ us hl => match us, hl with | [_, _, _], _ => rfl
  obtain ⟨fd__law_no_sort, F__law_no_sort⟩ := c.saysD.def_ 48 (d := d__law_no_sort) rfl
  have m__law_no_sort : mg "_law_no_sort" = some (.ref (He.ga K "_law_no_sort")) := He.glo_ok X G (c.saysD.fact 48 (f := .glo "_law_no_sort") rfl)
  have b__law_no_sort : Binds K fd__law_no_sort ["box"] [] := FunD.bindsN F__law_no_sort fun _ _ _ _ _ _ us hl => match us, hl with | [_], _ => rfl
  obtain ⟨fd__law_stranger, F__law_stranger⟩ := c.saysD.def_ 49 (d := d__law_stranger) rfl
  have m__law_stranger : mg "_law_stranger" = some (.ref (He.ga K "_law_stranger")) := He.glo_ok X G (c.saysD.fact 49 (f := .glo "_law_stranger") rfl)
  have b__law_stranger : Binds K fd__law_stranger ["box", "sort", "length"] [] := FunD.bindsN F__law_stranger fun _ _ _ _ _ _ us hl => match us, hl with | [_, _, _], _ => rfl
  obtain ⟨fd__law_apart, F__law_apart⟩ := c.saysD.def_ 50 (d := d__law_apart) rfl
  have m__law_apart : mg "_law_apart" = some (.ref (He.ga K "_law_apart")) := He.glo_ok X G (c.saysD.fact 50 (f := .glo "_law_apart") rfl)
  have b__law_apart : Binds K fd__law_apart ["letters", "one", "other"] [] := FunD.bindsN F__law_apart fun _ _ _ _ _ _ us hl => match us, hl with | [_, _, _], _ => rfl
  obtain ⟨fd__law_near_room, F__law_near_room⟩ := c.saysD.def_ 51 (d := d__law_near_room) rfl
  have m__law_near_room : mg "_law_near_room" = some (.ref (He.ga K "_law_near_room")) := He.glo_ok X G (c.saysD.fact 51 (f := .glo "_law_near_room") rfl)
  have b__law_near_room : Binds K fd__law_near_room ["box", "sort"] [] := FunD.bindsN F__law_near_room fun _ _ _ _ _ _ us hl => match us, hl with | [_, _], _ => rfl
  obtain ⟨fd__law_many, F__law_many⟩ := c.saysD.def_ 52 (d := d__law_many) rfl
  have m__law_many : mg "_law_many" = some (.ref (He.ga K "_law_many")) := He.glo_ok X G (c.saysD.fact 52 (f := .glo "_law_many") rfl)
  have b__law_many : Binds K fd__law_many ["sort", "length"] [] := FunD.bindsN F__law_many fun _ _ _ _ _ _ us hl => match us, hl with | [_, _], _ => rfl
  obtain ⟨fd__law_asked, F__law_asked⟩ := c.saysD.def_ 53 (d := d__law_asked) rfl
  have m__law_asked : mg "_law_asked" = some (.ref (He.ga K "_law_asked")) := He.glo_ok X G (c.saysD.fact 53 (f := .glo "_law_asked") rfl)
  have b__law_asked : Binds K fd__law_asked ["sort", "code"] [] := FunD.bindsN F__law_asked fun _ _ _ _ _ _ us hl => match us, hl with | [_, _], _ => rfl
  obtain ⟨fd__law_rows_of_worths, F__law_rows_of_worths⟩ := c.saysD.def_ 54 (d := d__law_rows_of_worths) rfl
  have m__law_rows_of_worths : mg "_law_rows_of_worths" = some (.ref (He.ga K "_law_rows_of_worths")) := He.glo_ok X G (c.saysD.fact 54 (f := .glo "_law_rows_of_worths") rfl)
  have b__law_rows_of_worths : Binds K fd__law_rows_of_worths ["letters", "many"] [] := FunD.bindsN F__law_rows_of_worths fun _ _ _ _ _ _ us hl => match us, hl with | [_, _], _ => rfl
  obtain ⟨fd__law_all, F__law_all⟩ := c.saysD.def_ 55 (d := d__law_all) rfl
  have m__law_all : mg "_law_all" = some (.ref (He.ga K "_law_all")) := He.glo_ok X G (c.saysD.fact 55 (f := .glo "_law_all") rfl)
  have b__law_all : Binds K fd__law_all ["sort", "code"] [] := FunD.bindsN F__law_all fun _ _ _ _ _ _ us hl => match us, hl with | [_, _], _ => rfl
  obtain ⟨fd__law_lot, F__law_lot⟩ := c.saysD.def_ 56 (d := d__law_lot) rfl
  have m__law_lot : mg "_law_lot" = some (.ref (He.ga K "_law_lot")) := He.glo_ok X G (c.saysD.fact 56 (f := .glo "_law_lot") rfl)
  have b__law_lot : Binds K fd__law_lot ["box", "sort", "code", "told"] [] := FunD.bindsN F__law_lot fun _ _ _ _ _ _ us hl => match us, hl with | [_, _, _, _], _ => rfl
  obtain ⟨fd__law_is_whole, F__law_is_whole⟩ := c.saysD.def_ 57 (d := d__law_is_whole) rfl
  have m__law_is_whole : mg "_law_is_whole" = some (.ref (He.ga K "_law_is_whole")) := He.glo_ok X G (c.saysD.fact 57 (f := .glo "_law_is_whole") rfl)
  have b__law_is_whole : Binds K fd__law_is_whole ["box", "sort", "code"] [] := FunD.bindsN F__law_is_whole fun _ _ _ _ _ _ us hl => match us, hl with | [_, _, _], _ => rfl
  obtain ⟨fd_law, F_law⟩ := c.saysD.def_ 58 (d := d_law) rfl
  have m_law : mg "law" = some (.ref (He.ga K "law")) := He.glo_ok X G (c.saysD.fact 58 (f := .glo "law") rfl)
  have b_law : Binds K fd_law ["script"] [] := FunD.bindsN F_law fun _ _ _ _ _ _ us hl => match us, hl with | [_], _ => rfl
  have g_Refused : mg "Refused" = some (.ref (He.ga K "Refused")) := He.glo_ok X G (c.saysD.fact 59 (f := .glo "Refused") rfl)
  have Z : Zs mg := ⟨He.free_ok X G (c.saysD.fact 60 (f := .free "abs") rfl), He.free_ok X G (c.saysD.fact 61 (f := .free "all") rfl), He.free_ok X G (c.saysD.fact 62 (f := .free "any") rfl), He.free_ok X G (c.saysD.fact 63 (f := .free "bool") rfl), He.free_ok X G (c.saysD.fact 64 (f := .free "enumerate") rfl), He.free_ok X G (c.saysD.fact 65 (f := .free "int") rfl), He.free_ok X G (c.saysD.fact 66 (f := .free "isinstance") rfl), He.free_ok X G (c.saysD.fact 67 (f := .free "len") rfl), He.free_ok X G (c.saysD.fact 68 (f := .free "list") rfl), He.free_ok X G (c.saysD.fact 69 (f := .free "max") rfl), He.free_ok X G (c.saysD.fact 70 (f := .free "range") rfl), He.free_ok X G (c.saysD.fact 71 (f := .free "reversed") rfl), He.free_ok X G (c.saysD.fact 72 (f := .free "sorted") rfl), He.free_ok X G (c.saysD.fact 73 (f := .free "str") rfl), He.free_ok X G (c.saysD.fact 74 (f := .free "sum") rfl), He.free_ok X G (c.saysD.fact 75 (f := .free "tuple") rfl), He.free_ok X G (c.saysD.fact 76 (f := .free "zip") rfl)⟩
  have C : Cs K w mg := ⟨c.dicN X G 0, c.dic X G 1⟩
  have e := hfa.symm.trans m_law
  cases e
  have b := FunD.bindsA (ps := ["script"]) F_law fun _ _ _ _ _ _ us hl => match us, hl with | [_], _ => rfl
  have X_Refused := exRefused_ok c.e
  obtain ⟨CRef, hCR⟩ : ∃ C, C = He.ga K "Refused" := ⟨_, rfl⟩
  rw [← hCR] at X_Refused g_Refused
  refine ⟨fd_law, fun s v => b s [v] rfl, fun base _ _ => ?_⟩
  have G__law_box : Fn PR w K mg base CX0 1 "_law_box" s__law_box ["script", "k"] (spBox K) := ⟨_, _, m__law_box, F__law_box, b__law_box, ok__law_box F__law_box Z⟩
  have G__law_take : Fn PR w K mg base CX0 1 "_law_take" s__law_take ["box", "many"] spTake := ⟨_, _, m__law_take, F__law_take, b__law_take, ok__law_take F__law_take Z⟩
  have G__law_pick : Fn PR w K mg base CX0 2 "_law_pick" s__law_pick ["box", "some"] (spPick K) := ⟨_, _, m__law_pick, F__law_pick, b__law_pick, ok__law_pick F__law_pick Z G__law_take⟩
  have G__law_near_room : Fn PR w K mg base CX0 3 "_law_near_room" s__law_near_room ["box", "sort"] spRoom := ⟨_, _, m__law_near_room, F__law_near_room, b__law_near_room, ok__law_near_room F__law_near_room Z G__law_take G__law_pick⟩
  have G__law_letters : Fn PR w K mg base CX0 1 "_law_letters" s__law_letters ["sort"] (spSrt Srt.q) := ⟨_, _, m__law_letters, F__law_letters, b__law_letters, ok__law_letters F__law_letters Z⟩
  have G__law_exchange : Fn PR w K mg base CX0 2 "_law_exchange" s__law_exchange ["box", "letters", "length"] (spExch K) := ⟨_, _, m__law_exchange, F__law_exchange, b__law_exchange, ok__law_exchange F__law_exchange Z G__law_take⟩
  have G__law_moved : Fn PR w K mg base CX0 1 "_law_moved" s__law_moved ["letters", "row", "exchange"] (spMoved K) := ⟨_, _, m__law_moved, F__law_moved, b__law_moved, ok__law_moved F__law_moved Z⟩
  have G__law_pieces : Fn PR w K mg base CX0 1 "_law_pieces" s__law_pieces ["sort", "room"] (spPieces K) := ⟨_, _, m__law_pieces, F__law_pieces, b__law_pieces, ok__law_pieces F__law_pieces Z⟩
  have G__law_begin : Fn PR w K mg base CX0 3 "_law_begin" s__law_begin ["box", "sort", "length"] (spBegin K) := ⟨_, _, m__law_begin, F__law_begin, b__law_begin, ok__law_begin F__law_begin Z G__law_pieces G__law_pick⟩
  have G__law_first : Fn PR w K mg base CX0 1 "_law_first" s__law_first ["row"] (spFirst K) := ⟨_, _, m__law_first, F__law_first, b__law_first, ok__law_first F__law_first Z⟩
  have G__law_plus : Fn PR w K mg base CX0 1 "_law_plus" s__law_plus ["letters", "one", "other", "many"] (spPlus K) := ⟨_, _, m__law_plus, F__law_plus, b__law_plus, ok__law_plus F__law_plus Z⟩
  have G__law_with : Fn PR w K mg base CX0 2 "_law_with" s__law_with ["letters", "rows", "row"] (spWith K) := ⟨_, _, m__law_with, F__law_with, b__law_with, ok__law_with F__law_with Z G__law_first G__law_plus⟩
  have G__law_steps : Fn PR w K mg base CX0 3 "_law_steps" s__law_steps ["letters", "rows"] (spSteps K) := ⟨_, _, m__law_steps, F__law_steps, b__law_steps, ok__law_steps F__law_steps Z G__law_with⟩
  have G__law_row : Fn PR w K mg base CX0 2 "_law_row" s__law_row ["box", "letters", "length"] (spRow K) := ⟨_, _, m__law_row, F__law_row, b__law_row, ok__law_row F__law_row Z G__law_take⟩
  have G__law_weight : Fn PR w K mg base CX0 1 "_law_weight" s__law_weight ["row"] (spWeight K) := ⟨_, _, m__law_weight, F__law_weight, b__law_weight, ok__law_weight F__law_weight Z⟩
  have G__law_by : Fn PR w K mg base CX0 1 "_law_by" s__law_by ["sort"] (spSrt Srt.by_) := ⟨_, _, m__law_by, F__law_by, b__law_by, ok__law_by F__law_by Z⟩
  have G__law_fitting : Fn PR w K mg base CX0 2 "_law_fitting" s__law_fitting ["sort", "row"] (spFit K) := ⟨_, _, m__law_fitting, F__law_fitting, b__law_fitting, ok__law_fitting F__law_fitting Z G__law_weight G__law_by⟩
  have G__law_worth : Fn PR w K mg base CX0 1 "_law_worth" s__law_worth ["letters", "one", "other"] (spWorth K) := ⟨_, _, m__law_worth, F__law_worth, b__law_worth, ok__law_worth F__law_worth Z⟩
  have G__law_led : Fn PR w K mg base CX0 3 "_law_led" s__law_led ["letters", "rows", "row"] (spLed K) := ⟨_, _, m__law_led, F__law_led, b__law_led, ok__law_led F__law_led Z G__law_worth G__law_plus G__law_with⟩
  have G__law_walk : Fn PR w K mg base CX0 4 "_law_walk" s__law_walk ["box", "sort", "length", "rows", "turns"] (spWalk K) := ⟨_, _, m__law_walk, F__law_walk, b__law_walk, ok__law_walk F__law_walk Z G__law_letters G__law_row G__law_fitting G__law_with G__law_led⟩
  have G__law_own : Fn PR w K mg base CX0 5 "_law_own" s__law_own ["box", "sort", "length", "turns"] (spOwn K) := ⟨_, _, m__law_own, F__law_own, b__law_own, ok__law_own F__law_own Z G__law_letters G__law_exchange G__law_moved G__law_begin G__law_steps G__law_take G__law_walk⟩
  have G_is_sort : Fn PR w K mg base CX0 1 "is_sort" s_is_sort ["value"] spIsSort := ⟨_, _, m_is_sort, F_is_sort, b_is_sort, ok_is_sort F_is_sort Z C⟩
  have G_dimension : Fn PR w K mg base CX0 1 "dimension" s_dimension ["code"] (spCode K fun _ _ rows => .int (rows.length : Nat)) := ⟨_, _, m_dimension, F_dimension, b_dimension, ok_dimension F_dimension Z⟩
  have G_worth : Fn PR w K mg base CX0 1 "worth" s_worth ["letters", "one", "other"] (spWorth K) := ⟨_, _, m_worth, F_worth, b_worth, ok_worth F_worth Z⟩
  have G_is_inside : Fn PR w K mg base CX0 2 "is_inside" s_is_inside ["code"] (spCode K fun q _ rows => .bl (insideB q rows)) := ⟨_, _, m_is_inside, F_is_inside, b_is_inside, ok_is_inside F_is_inside Z G_worth⟩
  have G_is_own : Fn PR w K mg base CX0 3 "is_own" s_is_own ["code"] (spCode K fun q n rows => .bl (ownB q n rows)) := ⟨_, _, m_is_own, F_is_own, b_is_own, ok_is_own F_is_own Z G_dimension G_is_inside⟩
  have G_weight : Fn PR w K mg base CX0 1 "weight" s_weight ["row"] (spWeight K) := ⟨_, _, m_weight, F_weight, b_weight, ok_weight F_weight Z⟩
  have G_is_twice : Fn PR w K mg base CX0 3 "is_twice" s_is_twice ["code"] (spCode K fun q _ rows => .bl (twiceB q rows)) := ⟨_, _, m_is_twice, F_is_twice, b_is_twice, ok_is_twice F_is_twice Z G_weight G_is_inside⟩
  have G_is_of_sort : Fn PR w K mg base CX0 4 "is_of_sort" s_is_of_sort ["sort", "code"] (spOfSort K) := ⟨_, _, m_is_of_sort, F_is_of_sort, b_is_of_sort, ok_is_of_sort F_is_of_sort Z C G_is_own G_is_twice⟩
  have G_need_sort : Fn PR w K mg base (L2.CX PR w) 5 "need_sort" s_need_sort ["sort", "codes"] (spNeed K CRef) := ⟨_, _, m_need_sort, F_need_sort, b_need_sort, ok_need_sort F_need_sort Z X_Refused g_Refused G_is_sort G_is_of_sort⟩
  have G_nought_row : Fn PR w K mg base CX0 1 "nought_row" s_nought_row ["length"] (spNought K) := ⟨_, _, m_nought_row, F_nought_row, b_nought_row, ok_nought_row F_nought_row Z⟩
  have G_unit_row : Fn PR w K mg base CX0 2 "unit_row" s_unit_row ["length", "place"] (spUnitR K) := ⟨_, _, m_unit_row, F_unit_row, b_unit_row, ok_unit_row F_unit_row Z G_nought_row⟩
  have G_whole_room : Fn PR w K mg base CX0 3 "whole_room" s_whole_room ["letters", "length"] (spRoomW K) := ⟨_, _, m_whole_room, F_whole_room, b_whole_room, ok_whole_room F_whole_room Z G_unit_row⟩
  have G_added : Fn PR w K mg base CX0 1 "added" s_added ["letters", "one", "other"] (spComb K 1) := ⟨_, _, m_added, F_added, b_added, ok_added F_added Z⟩
  have G_walked : Fn PR w K mg base CX0 2 "walked" s_walked ["code"] (spWalked K) := ⟨_, _, m_walked, F_walked, b_walked, ok_walked F_walked Z G_nought_row G_added⟩
  have G_words : Fn PR w K mg base CX0 3 "words" s_words ["code"] (spWords K) := ⟨_, _, m_words, F_words, b_words, ok_words F_words Z G_walked⟩
  have G_plus_times : Fn PR w K mg base CX0 1 "plus_times" s_plus_times ["letters", "one", "other", "many"] (spPlus K) := ⟨_, _, m_plus_times, F_plus_times, b_plus_times, ok_plus_times F_plus_times Z⟩
  have G_common_rows : Fn PR w K mg base CX0 2 "common_rows" s_common_rows ["letters", "rows", "worths"] (spCommon K) := ⟨_, _, m_common_rows, F_common_rows, b_common_rows, ok_common_rows F_common_rows Z G_plus_times⟩
  have G_first_place : Fn PR w K mg base CX0 1 "first_place" s_first_place ["row"] (spFirst K) := ⟨_, _, m_first_place, F_first_place, b_first_place, ok_first_place F_first_place Z⟩
  have G_is_fitting : Fn PR w K mg base CX0 2 "is_fitting" s_is_fitting ["sort", "row"] (spIsFit K) := ⟨_, _, m_is_fitting, F_is_fitting, b_is_fitting, ok_is_fitting F_is_fitting Z G_weight⟩
  have G_leading_rows : Fn PR w K mg base CX0 3 "leading_rows" s_leading_rows ["sort", "code", "worths"] (spLeading K) := ⟨_, _, m_leading_rows, F_leading_rows, b_leading_rows, ok_leading_rows F_leading_rows Z G_first_place G_plus_times G_weight G_is_fitting⟩
  have G_less : Fn PR w K mg base CX0 1 "less" s_less ["letters", "one", "other"] (spComb K (-1)) := ⟨_, _, m_less, F_less, b_less, ok_less F_less Z⟩
  have G_times : Fn PR w K mg base CX0 1 "times" s_times ["letters", "row", "number"] (spTimes K) := ⟨_, _, m_times, F_times, b_times, ok_times F_times Z⟩
  have G_lowered : Fn PR w K mg base CX0 2 "lowered" s_lowered ["letters", "steps", "row"] (spLowered K) := ⟨_, _, m_lowered, F_lowered, b_lowered, ok_lowered F_lowered Z G_first_place G_less G_times⟩
  have G_with_row : Fn PR w K mg base CX0 3 "with_row" s_with_row ["letters", "length", "rows", "row"] (spWithRow K) := ⟨_, _, m_with_row, F_with_row, b_with_row, ok_with_row F_with_row Z G_lowered G_first_place G_times G_plus_times⟩
  have G_neighbours : Fn PR w K mg base (L2.CX PR w) 6 "neighbours" s_neighbours ["sort", "code"] (spNeighs K CRef) := ⟨_, _, m_neighbours, F_neighbours, b_neighbours, ok_neighbours F_neighbours Z X_Refused g_Refused G_need_sort G_dimension G_whole_room G_words G_common_rows G_leading_rows G_with_row⟩
  have G__law_asked : Fn PR w K mg base CX0 7 "_law_asked" s__law_asked ["sort", "code"] (spAskedN K) := ⟨_, _, m__law_asked, F__law_asked, b__law_asked, ok__law_asked F__law_asked Z X_Refused g_Refused G_neighbours⟩
  have G__law_plain : Fn PR w K mg base CX0 6 "_law_plain" s__law_plain ["value"] (spPlain K 4) := ⟨_, _, m__law_plain, F__law_plain, b__law_plain, ok__law_plain F__law_plain b__law_plain m__law_plain Z 4⟩
  have G__law_many : Fn PR w K mg base CX0 2 "_law_many" s__law_many ["sort", "length"] spMany := ⟨_, _, m__law_many, F__law_many, b__law_many, ok__law_many F__law_many Z G__law_letters⟩
  have G__law_inside : Fn PR w K mg base CX0 2 "_law_inside" s__law_inside ["letters", "rows"] (spInside K) := ⟨_, _, m__law_inside, F__law_inside, b__law_inside, ok__law_inside F__law_inside Z G__law_worth⟩
  have G__law_is_one : Fn PR w K mg base CX0 7 "_law_is_one" s__law_is_one ["sort", "length", "value"] (spIsOne K) := ⟨_, _, m__law_is_one, F__law_is_one, b__law_is_one, ok__law_is_one F__law_is_one Z G__law_plain G__law_letters G__law_by G__law_first G__law_inside G__law_weight⟩
  have G__law_apart : Fn PR w K mg base CX0 4 "_law_apart" s__law_apart ["letters", "one", "other"] (spApart K) := ⟨_, _, m__law_apart, F__law_apart, b__law_apart, ok__law_apart F__law_apart Z G__law_first G__law_plus G__law_steps⟩
  have G__law_lot : Fn PR w K mg base CX0 8 "_law_lot" s__law_lot ["box", "sort", "code", "told"] (spLot K) := ⟨_, _, m__law_lot, F__law_lot, b__law_lot, ok__law_lot F__law_lot Z G__law_many G__law_take G__law_is_one G__law_apart G__law_fitting G__law_row G__law_with G__law_led⟩
  have G__law_rows_of_worths : Fn PR w K mg base CX0 1 "_law_rows_of_worths" s__law_rows_of_worths ["letters", "many"] (spRowsOf K) := ⟨_, _, m__law_rows_of_worths, F__law_rows_of_worths, b__law_rows_of_worths, ok__law_rows_of_worths F__law_rows_of_worths Z⟩
  have G__law_all : Fn PR w K mg base CX0 4 "_law_all" s__law_all ["sort", "code"] (spAll K) := ⟨_, _, m__law_all, F__law_all, b__law_all, ok__law_all F__law_all Z G__law_rows_of_worths G__law_first G__law_plus G__law_weight G__law_by G__law_led⟩
  have G__law_is_whole : Fn PR w K mg base CX0 9 "_law_is_whole" s__law_is_whole ["box", "sort", "code"] (spWhole K) := ⟨_, _, m__law_is_whole, F__law_is_whole, b__law_is_whole, ok__law_is_whole F__law_is_whole Z G__law_asked G__law_plain G__law_lot G__law_many G__law_all⟩
  have G__law_no_sort : Fn PR w K mg base CX0 3 "_law_no_sort" s__law_no_sort ["box"] spNoSort := ⟨_, _, m__law_no_sort, F__law_no_sort, b__law_no_sort, ok__law_no_sort F__law_no_sort Z G__law_pick⟩
  have G__law_stranger : Fn PR w K mg base CX0 6 "_law_stranger" s__law_stranger ["box", "sort", "length"] (spStranger K) := ⟨_, _, m__law_stranger, F__law_stranger, b__law_stranger, ok__law_stranger F__law_stranger Z G__law_letters G__law_take G__law_own G__law_weight G__law_steps⟩
  exact ok_law F_law Z G__law_box G__law_pick G__law_near_room G__law_letters G__law_own G__law_is_whole G__law_fitting G__law_row G__law_with G__law_led G__law_asked G__law_no_sort G__law_stranger
end K47
open PySem PySem.W PySem.Calls PyProof.Rows
theorem PySem.Challenge.cw_ownmirrors_k47_whole_all_neighbours_and_holds : PySem.Challenge.rw_ownmirrors_k47_whole_all_neighbours_and.Holds := by
  w_on; o_law
  refine HandSHeadRun.head_any (r := OpenLaw.row PySem.Challenge.rw_ownmirrors_k47_whole_all_neighbours_and) (q := view (OpenLaw.row PySem.Challenge.rw_ownmirrors_k47_whole_all_neighbours_and).prog [68]) (H := K47.hk) (ob := K47.ob) (M := 4000) (loose := K47.looseL) (d := HandSHeadRun.topDef (OpenLaw.row PySem.Challenge.rw_ownmirrors_k47_whole_all_neighbours_and).prog 68) (kwd := []) K47.ob_eq
    (by kernel_rfl) (fun s => by kernel_rfl) K47.run (by kernel_rfl) (by kernel_rfl) (by kernel_rfl) (by rfl) (by first | assumption | decide +kernel) (by decide +kernel) ⟨rfl, rfl, rfl, rfl, rfl, by decide +kernel⟩ ?hw ?hc
  case hw => w_witness2
  case hc =>
    refine L2.walk_ofE (l := PySem.Challenge.rw_ownmirrors_k47_whole_all_neighbours_and) (n := 63) (k := 10) (x := "script") (CX := L2.CX0) rfl (by decide) (by kernel_rfl) ⟨rfl, by decide, by decide⟩ ?F (fun _ _ _ _ z => z)
    intro w mg fa h Y G hmg0
    obtain ⟨K, KX, c⟩ := Y
    have hmg : mg ("law" : PySem.Str) = some (.ref fa) := by
      have e : (HandSHeadRun.topDef (OpenLaw.row PySem.Challenge.rw_ownmirrors_k47_whole_all_neighbours_and).prog 68).name = ("law" : PySem.Str) := by kernel_rfl
      rw [← e]
      exact hmg0
    obtain ⟨fd, hb, hF⟩ := K47.facts (w := w) KX G hmg c
    exact ⟨K, fd, K47.spLaw K, KX, hb, fun H a ns hl _ hS => ⟨a, ns, rfl, hS, by omega, fun _ => rfl⟩, hF⟩
