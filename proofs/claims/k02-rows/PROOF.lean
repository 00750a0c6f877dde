import PyProof.Rows.All
import Wide.All
import OpenK.AllK
import Wide.FinOn
import HandS.Base
import HandS.Call
import HandS.List
import HandS.Comp
import HandS.Words
import HandS.TupMul
import HandS.TupAny
import PyProof.ListMulRoad
import PyProof.FactsAll.tuple_2
import HandS.SetFor
import HandS.More
import PyProof.EqAt
import OpenK.KMore
import HandS.ExcSuper
import HandS.Exc
import KE.KSuper
import KE.KExcSuper
import HandS.Defaults
import HandS.Walk
import HandS.Evl
import HandS.Zip
import HandS.Style
import HandS.IsInst
import HandS.Text
import HandS.TupLe
import HandS.TryOnly
import HandS.Conv
import HandS.RevTup
import HandS.HeadHook2
import HandS.HeadEnd
import HandS.Head0
import HandS.Head1
import HandS.Head2
import KE.KIntText
import KE.IntTextLaws
import PyProof.Conv_int
import PyProof.StrOps2
import HandS.Wide
import KE.KEqSeq
import HandS.ExcOwn
import HandS.WordsExc
import HandS.HeadHook1
import PySem.Challenge.RW_ownmirrors_k02_rows_place_by_place
set_option Elab.async false
set_option linter.all false
set_option maxRecDepth 100000
set_option maxHeartbeats 2000000
/-! Tuples tracked together with their very object, so that their methods can be called. -/
namespace Own
open PySem PySem.Spec PyProof.Rows L2

def Tp (K : PySem.W.Frag) (H : Hp) (p : Addr) (xs : List V) : Prop :=
  (∃ o : Obj, o.dict = none ∧ H p = some (.frz o (.tup xs))) ∨
    ∃ (o : Obj) (its : Array Value) (n : Nat), K.lookup p = some o ∧ o.cls = .type "tuple" ∧ o.dict = none ∧ o.data = .seq its n ∧ its.size ≤ sizeLine ∧ Vals xs its.toList
theorem Tp.sq {K : PySem.W.Frag} {H : Hp} {p : Addr} {xs : List V} (h : Tp K H p xs) : SqT K H p xs := by
  rcases h with ⟨o, _, h⟩ | ⟨o, its, n, h1, h2, _, h4, h5, h6⟩
  · exact .inl (.inr ⟨o, h⟩)
  · exact .inr ⟨o, its, n, h1, h2, h4, h5, h6⟩
theorem Tp.of {K : PySem.W.Frag} {H : Hp} {p : Addr} {o : Obj} {xs : List V} (hd : o.dict = none) (h : H p = some (.frz o (.tup xs))) : Tp K H p xs := .inl ⟨o, hd, h⟩
/-- a new tuple: what is wanted of it -/
def NewT (xs : List V) (H : Hp) (Q : VK) : Prop := ∀ (p : Addr) (o : Obj), H p = none → o.dict = none → Q (.ref p) (upd H p (.frz o (.tup xs)))
section
variable {X : Cx} {pins : List (Addr × Obj)} {σ : L2.St} {H : Hp} {s : Shared} {Q : VK}
theorem newT_end {xs : List V} {its : List Value} {tk : Nat} (I : Inv X pins σ H s) (r : Vals xs its) (z : xs.length ≤ sizeLine) (q : NewT xs H Q) :
    EP X pins σ Q (.ref s.heap.objs.size) { s with heap := s.heap.push { cls := .type "tuple", data := .seq its.toArray }, toks := tk } := by
  have hf : H s.heap.objs.size = none := I.hok.fresh (Nat.le_refl _)
  refine ⟨.ref s.heap.objs.size, _, I.laid (t' := tk) (o := .frz { cls := .type "tuple", data := .seq its.toArray } (.tup xs)) (fun b u e => Heap.get?_push_of_some _ e) (Nat.le_refl _) ⟨Heap.get?_push_size _ rfl, z, its, r, IsTup.new _ _⟩, rfl, q _ _ hf rfl⟩
end
def tTupF (t : TA) : TE := fun σ H Q => t σ H fun xs H1 => xs.length ≤ sizeLine ∧ NewT xs H1 Q
section
variable {X : Cx} {es : List Expr} {t : TA} {pos : Pos}
/-- (a, b, ..) -/
theorem pe_tupF {x1} (h : PA X es t) : PE X (.Tuple es x1 pos) (tTupF t) := by
  refine ⟨fun pins s σ H Q I hq => ?_⟩
  refine wpAny_Tuple_spliced (thn (h.run pos pins s σ H _ I hq) fun us s1 ⟨xs, H1, I1, r, z, q⟩ => ⟨by rw [← r.length]; exact z, ?_⟩)
  exact newT_end I1 r z q
/-- tuple(list), tuple(tuple) -/
def rTupF (K : PySem.W.Frag) : List V → Hp → VK → Prop := fun xs H Q => ∃ p ys, xs = [.ref p] ∧ ((SqL K H p ys ∧ NewT ys H Q) ∨ (SqT K H p ys ∧ Q (.ref p) H))
theorem call_tupF : CallR X (.type "tuple") (rTupF X.K) := by
  intro pins s σ H xs us Q I r h
  obtain ⟨p, ys, rfl, h⟩ := h
  obtain ⟨u, rfl, rx⟩ := vals1 r
  cases rx
  rcases h with ⟨hq, q⟩ | ⟨hq, q⟩
  · obtain ⟨its, r', pl, hz⟩ := I.list hq
    have hlen := r'.length
    refine call_tuple_list pl.isList (fun h' kp => ?_) (by simp only [List.size_toArray] <;> omega)
    have I1 : Inv X pins σ H { s with heap := h' } := I.kept (t' := s.toks) kp
    exact newT_end (tk := s.toks) I1 r' hz q
  · obtain ⟨its, r', pl, hz⟩ := I.tuple hq
    exact call_tuple_same pl ⟨.ref p, H, I, rfl, q⟩
/-- t + u -/
def rCatF (K : PySem.W.Frag) : R2 := fun x y H Q => ∃ a b xs ys, x = .ref a ∧ y = .ref b ∧ SqT K H a xs ∧ SqT K H b ys ∧ xs.length + ys.length ≤ sizeLine ∧
  (xs = [] → Q (.ref b) H) ∧ (xs ≠ [] → ys = [] → Q (.ref a) H) ∧ (xs ≠ [] → ys ≠ [] → NewT (xs ++ ys) H Q)
theorem op_catF : OpR X (binaryOp .Add) (rCatF X.K) := by
  intro pins s σ H x y v u Q I rx ry h
  obtain ⟨a, b, xs, ys, rfl, rfl, ha, hb, hz, q0, q1, q2⟩ := h
  cases rx
  cases ry
  obtain ⟨its, r1, p1, _⟩ := I.tuple ha
  obtain ⟨its2, r2, p2, _⟩ := I.tuple hb
  by_cases hx : xs = []
  · subst hx
    cases r1
    exact L2.cat_tup0 p1 p2 ⟨.ref b, H, I, rfl, q0 rfl⟩
  · refine HT.cat_tup p1 p2 (fun z => hx (r1.nil_iff.mp z)) (fun z => ⟨.ref a, H, I, rfl, q1 hx (r2.nil_iff.mp z)⟩) (fun z => ?_) (by rw [← r1.length, ← r2.length]; exact hz)
    exact newT_end (tk := s.toks) I (r1.append r2) (by rw [List.length_append]; exact hz) (q2 hx fun w => z (r2.nil_iff.mpr w))
/-- t[lo:hi] -/
def rSlF (K : PySem.W.Frag) : V → Option Int → Option Int → Hp → VK → Prop := fun x lo hi H Q => ∃ a xs, x = .ref a ∧ SqT K H a xs ∧
  (HT.sIx xs.length 0 lo = 0 ∧ HT.sIx xs.length xs.length hi = xs.length → Q (.ref a) H) ∧ (¬ (HT.sIx xs.length 0 lo = 0 ∧ HT.sIx xs.length xs.length hi = xs.length) → NewT (cutV xs lo hi) H Q)
theorem sl_tupF : SlR X (rSlF X.K) := by
  intro pins s σ H x v vl vu lo hi sl Q I rx hs pl pu h
  obtain ⟨a, xs, rfl, hx, q1, q2⟩ := h
  cases rx
  obtain ⟨its, r, ht, hz⟩ := I.tuple hx
  have hlen : its.toArray.size = xs.length := by rw [List.size_toArray]; exact r.length.symm
  refine ⟨"tuple", _, PyProof.Rows.slot_tuple_getitem.lookup, ht.typeIs, ?_⟩
  by_cases hw : HT.sIx xs.length 0 lo = 0 ∧ HT.sIx xs.length xs.length hi = xs.length
  · exact L2.getItem_tuple_whole ht hs pl pu (by rw [hlen]; exact hw) ⟨.ref a, H, I, rfl, q1 hw⟩
  · refine HT.getItem_tuple_cut ht hs pl pu (by rw [hlen]; exact hw) ?_ (by rw [hlen]; exact hz)
    rw [hlen]
    exact newT_end (tk := s.toks) I ((r.drop (HT.sIx xs.length 0 lo)).take (HT.sIx xs.length xs.length hi - HT.sIx xs.length 0 lo)) (Nat.le_trans (cutV_length xs lo hi) hz) (q2 hw)
end
end Own

namespace Own
open PySem PySem.Spec PyProof.Rows L2
/-- t * 1 (or an empty t): t itself; t * 0 .. : a new empty one -/
theorem tuple_mul_same (l : Addr) (items : Array Value) (n : Nat) (dd : Option Addr) (sl : Array (Option Value)) (x : Int) (u : Tok) (c0 : (decide (x < -(2 ^ 63)) || decide (x ≥ 2 ^ 63)) = false) (c1 : (items.isEmpty || x == 1) = true) :
    Meets (Builtin.«tuple.__mul__» ⟨[.ref l, .int x u], []⟩) (fun _ R s => s.heap.get? l = some { cls := .type "tuple", dict := dd, data := .seq items n, slots := sl } ∧ R (.ok (.ret (Value.ref l))) s) :=
  .of_wp fun prog w A R s h => by
    obtain ⟨hp, g, d, tk, os⟩ := s
    obtain ⟨hl, h⟩ := h
    have f1 := AutoSeq1.idx_int
    wp_walk using wpAny_loadPart' hl
    refine wpAny_ite_false (decide_eq_false (by rw [c0]; exact Bool.false_ne_true)) ?_
    wp_walk using wpAny_loadPart' hl
    exact ⟨_, rfl, h⟩
theorem tuple_mul_none (l : Addr) (items : Array Value) (n : Nat) (dd : Option Addr) (sl : Array (Option Value)) (x : Int) (u : Tok) (c0 : (decide (x < -(2 ^ 63)) || decide (x ≥ 2 ^ 63)) = false) (c1 : (items.isEmpty || x == 1) = false) (c2 : (decide (x ≤ 0) || items.isEmpty) = true) :
    Meets (Builtin.«tuple.__mul__» ⟨[.ref l, .int x u], []⟩) (fun _ R s => s.heap.get? l = some { cls := .type "tuple", dict := dd, data := .seq items n, slots := sl } ∧ R (.ok (.ret (Value.ref s.heap.objs.size))) { s with heap := s.heap.push { cls := .type "tuple", data := .seq #[] } }) :=
  .of_wp fun prog w A R s h => by
    obtain ⟨hp, g, d, tk, os⟩ := s
    obtain ⟨hl, h⟩ := h
    have f1 := AutoSeq1.idx_int
    wp_walk using wpAny_loadPart' hl
    refine wpAny_ite_false (decide_eq_false (by rw [c0]; exact Bool.false_ne_true)) ?_
    wp_walk using wpAny_loadPart' hl
    exact ⟨_, rfl, h⟩
/-- t * k, k from below 0 to 1000 -/
def rRepF (K : PySem.W.Frag) : R2 := fun x y H Q => ∃ l k xs, x = .ref l ∧ y = .int k ∧ SqT K H l xs ∧ -1000 ≤ k ∧ k ≤ 1000 ∧ xs.length ≤ 1000 ∧
  ((xs = [] ∨ k = 1) → Q (.ref l) H) ∧ (xs ≠ [] → k ≠ 1 → NewT (List.replicate k.toNat xs).flatten H Q)
section
variable {X : Cx}
theorem op_repF : OpR X (binaryOp .Mult) (rRepF X.K) := by
  intro pins s σ H x y v u Q I rx ry h
  obtain ⟨l, k, xs, rfl, rfl, hT, h1, h2, hz, q0, q1⟩ := h
  cases rx
  obtain ⟨t, rfl⟩ := ry
  obtain ⟨its, r, ⟨⟨cls, dd, data, sl⟩, ho, hc, n, hd⟩, hs⟩ := I.tuple hT
  simp only at hc hd
  subst hc hd
  have hle : its.length = xs.length := r.length.symm
  have hsz0 : its.toArray.size = xs.length := by rw [List.size_toArray, hle]
  have c0 : (decide (k < -(2 ^ 63)) || decide (k ≥ 2 ^ 63)) = false := by
    rw [decide_eq_false (by omega), decide_eq_false (by omega)] <;> rfl
  have mul : ∀ Q' : Value → Shared → Prop, wpAny (model X.prog X.w) X.A (call (.builtin "tuple.__mul__") [.ref l, .int k t]) Q' X.xe s → wpAny (model X.prog X.w) X.A (binaryOp .Mult (.ref l) (.int k t)) Q' X.xe s := fun Q' hc =>
    wpAny_binaryOp_repeat_ref (T := "tuple") (U := "int") (by decide) ⟨_, ho, rfl⟩ (fun s' => typeIs_int s' k t) noFill_tuple_mul F.fills_int_mul F.slot_int_rmul repeat_tuple F.slot_int_index.lookup
      (call_meets F.slot_int_rmul (typeIs_int s k t) F.entry_int_rmul (F.args_int_rmul_2 _ _) (int_rmul_tuple k t l its.toArray n dd sl) ⟨ho, rfl, ⟨_, ho, rfl⟩, hc⟩)
  refine mul _ ?_
  by_cases hs1 : xs = [] ∨ k = 1
  · have c1 : (its.toArray.isEmpty || k == 1) = true := by
      rcases hs1 with e | e
      · rw [show its = [] from List.eq_nil_of_length_eq_zero (by rw [hle, e] <;> rfl)]
        rfl
      · rw [e, beq_self_eq_true, Bool.or_true]
    exact call_meets F.slot_tuple_mul ⟨_, ho, rfl⟩ F.entry_tuple_mul (F.args_tuple_mul_2 _ _) (tuple_mul_same l its.toArray n dd sl k t c0 c1) ⟨ho, .ref l, H, I, rfl, q0 hs1⟩
  · have hne : xs ≠ [] := fun e => hs1 (.inl e)
    have hk1 : k ≠ 1 := fun e => hs1 (.inr e)
    have hn : its ≠ [] := fun e => hne (List.eq_nil_of_length_eq_zero (by rw [← hle, e] <;> rfl))
    have hi : its.toArray.isEmpty = false := by
      cases its with
      | nil => exact absurd rfl hn
      | cons a b => rfl
    have c1 : (its.toArray.isEmpty || k == 1) = false := by
      rw [hi, Bool.false_or]
      exact beq_eq_false_iff_ne.mpr hk1
    by_cases hk0 : k ≤ 0
    · have c2 : (decide (k ≤ 0) || its.toArray.isEmpty) = true := by rw [decide_eq_true hk0, Bool.true_or]
      refine call_meets F.slot_tuple_mul ⟨_, ho, rfl⟩ F.entry_tuple_mul (F.args_tuple_mul_2 _ _) (tuple_mul_none l its.toArray n dd sl k t c0 c1 c2) ⟨ho, ?_⟩
      have z : k.toNat = 0 := by omega
      have q := q1 hne hk1
      rw [z] at q
      exact newT_end (tk := s.toks) (xs := []) (its := []) I .nil (Nat.zero_le _) q
    · have hm : ((its.toArray.size : Nat) : Int) * k ≤ 1000000 := by
        rw [hsz0]
        have a1 : ((xs.length : Nat) : Int) * k ≤ 1000 * k := Int.mul_le_mul_of_nonneg_right (by omega) (by omega)
        omega
      have flen : k.toNat * xs.length ≤ sizeLine := by
        rw [sizeLine_eq]
        have a1 : k.toNat * xs.length ≤ 1000 * 1000 := Nat.mul_le_mul (by omega) hz
        omega
      have c2 : (decide (k ≤ 0) || its.toArray.isEmpty) = false := by
        rw [hi, Bool.or_false]
        exact decide_eq_false hk0
      have c4 : Builtin.Tuple.tupleTooMany (((its.toArray.size : Nat) : Int) * k) = false := by
        unfold Builtin.Tuple.tupleTooMany
        rw [sizeLine_eq]
        exact decide_eq_false (by omega)
      refine call_meets F.slot_tuple_mul ⟨_, ho, rfl⟩ F.entry_tuple_mul (F.args_tuple_mul_2 _ _) (tuple_mulW l its.toArray n dd sl k t c0 c1 c2 (by omega) c4 (by rw [size_rep, List.size_toArray, PyProof.Rows.lm_len_rep_flat, hle]; exact flen)) ⟨ho, ?_⟩
      rw [size_rep]
      exact newT_end (tk := s.toks) I (r.rep k.toNat) (by rw [PyProof.Rows.lm_len_rep_flat]; exact flen) (q1 hne hk1)
end
end Own

namespace Own
open PySem PySem.Spec PyProof.Rows L2
/-! ### t.count(k) -/
theorem Tp.at {K : PySem.W.Frag} {X : Cx} {pins : List (Addr × Obj)} {σ : L2.St} {H : Hp} {s : Shared} {p : Addr} {xs : List V} (I : Inv X pins σ H s) (h : Tp X.K H p xs) :
    ∃ (its : List Value) (o : Obj) (n : Nat), Vals xs its ∧ s.heap.get? p = some o ∧ o.cls = .type "tuple" ∧ o.dict = none ∧ o.data = .seq its.toArray n := by
  rcases h with ⟨o, hd, h⟩ | ⟨o, its, n, h1, h2, h3, h4, h5, h6⟩
  · obtain ⟨e, _, its, r, ob, e2, c, n, d⟩ := I.hok p _ h
    rw [e] at e2
    cases e2
    exact ⟨its, o, n, r, e, c, hd, d⟩
  · exact ⟨its.toList, o, n, h6, I.kIn p o h1, h2, h3, h4⟩
def rTCnt (K : PySem.W.Frag) : V → List V → Hp → VK → Prop := fun x xs H Q => ∃ (p : Addr) (ns : List Int) (k : Int), x = .ref p ∧ xs = [.int k] ∧ Tp K H p (ns.map V.int) ∧ Q (.int (ns.count k : Nat)) H
/-- t.m(e, ..) of a tuple that is tracked with its object -/
def tTM (K : PySem.W.Frag) (r : V → List V → Hp → VK → Prop) (to : TE) (t : TA) : TE := fun σ H Q => to σ H fun x H1 => (∃ p xs, x = .ref p ∧ Tp K H1 p xs) ∧ t σ H1 fun xs H2 => r x xs H2 Q
section
variable {X : Cx} {o e : Expr} {es : List Expr} {to : TE} {t : TA} {name : Str} {apos cpos : Pos} {id : String} {r : V → List V → Hp → VK → Prop}
theorem mt_tcount : MtR X "tuple.count" (rTCnt X.K) := by
  intro pins s σ H x xs v us Q I rx rxs h
  obtain ⟨p, ns, k, rfl, rfl, hs, q⟩ := h
  cases rx
  obtain ⟨u, rfl, ru⟩ := rxs.one
  obtain ⟨t, rfl⟩ := ru
  obtain ⟨its, ⟨cls, dd, data, sl⟩, n, rv, ho, hc, hdn, hd⟩ := Tp.at (K := X.K) I hs
  simp only at hc hd
  subst hc hd
  have hi := ints_of_vals rv
  refine call_meets PySem.F.slot_tuple_count ⟨_, ho, rfl⟩ PySem.F.entry_tuple_count (PySem.F.args_tuple_count_2 _ _)
    (SeqAt.tuple_countAt p its.toArray n dd sl (.int k t) (eqk k)) ⟨ho, fun y hy => (eqk_gives hi y (by simpa using hy)).at _ _, ?_⟩
  have ec : its.toArray.toList.countP (eqk k) = ns.count k := eqk_count hi
  refine ⟨.int (ns.count k : Nat), H, I.tok _, ⟨s.toks, ?_⟩, q⟩
  show Value.int ((its.toArray.toList.countP (eqk k) : Nat) : Int) s.toks = Value.int ((ns.count k : Nat) : Int) s.toks
  rw [ec]
theorem pe_tm (pa : PlainAttrs "tuple") (slot : Slot "tuple" name id) (hty : typeOf (.builtin id) = pure (.type "method_descriptor")) (hm : MtR X id r) (ho : PE X o to) (ha : PA X (e :: es) t)
    (hbase : attributeBase o name X.env (eval o X.env) = eval o X.env := by rfl)
    (hfew : ((backTo cpos (starEach (e :: es) X.env)).all (fun x => !x.1) && (backToKw cpos (keywordEach [] X.env)).all (fun x => x.1.isSome)
      && decide ((e :: es).length + ([] : List Keyword).length + (if ([] : List Keyword).isEmpty then 0 else 1) < 30)) = true := by rfl)
    (hline : (apos.endLine == cpos.line) = true := by rfl) (hs : starEach (e :: es) X.env = (false, eval e X.env) :: starEach es X.env := by rfl) (hplain : (backTo cpos (starEach es X.env)).any (·.1) = false := by rfl) :
    PE X (.Call (.Attribute o name apos) (e :: es) [] cpos) (tTM X.K r to t) := by
  refine ⟨fun pins s σ H Q I h => ?_⟩
  refine wpAny_Call_method_late hbase hfew hline rfl (thn (ho.run pins s σ H _ I h) fun v s1 ⟨x, H1, I1, r1, ⟨p, xs, ex, ty⟩, q1⟩ => ?_)
  subst ex
  obtain rfl : v = Value.ref p := r1
  obtain ⟨its, ob, n, _, g1, g2, g3, _⟩ := Tp.at (K := X.K) I1 ty
  refine ⟨"tuple", id, pa, slot, hty, ⟨ob, g1, g2⟩, fun a ea => ?_, ?_⟩
  · cases ea
    exact ⟨ob, g1, g3⟩
  have hA := ha.run cpos pins s1 σ H1 _ I1 q1
  rw [hs] at hA ⊢
  refine Calls.callWith_builtin (by show (false || (backTo cpos (starEach es X.env)).any (·.1)) = false; rw [hplain] <;> rfl) (Calls.evalArgs_plain ?_)
  exact thn hA fun us s2 ⟨vs, H2, I2, r2, q2⟩ => hm pins s2 σ H2 (.ref p) vs _ us Q I2 (show RelV (V.ref p) (Value.ref p) from rfl) r2 q2
/-- f(k = v, ..): every argument by its name -/
def tCall0K (sp : Sp) (gV : List V → List V → List V) (E : XK) (tk : TA) : TE := fun σ H Q => tk σ H fun zs H2 => sp (gV [] zs) H2 Q E
theorem pe_call0K {CX : CXT} {k : Nat} {f : Addr} {fd : FuncData} {ps ks : List Str} {sp : Sp} {E : XK} {x : Str} {p pos : Pos} {kws : List Keyword} {tk : TA} {g : List Value → List Value → List Value} {gV : List V → List V → List V}
    (F : FnOk X.prog X.w X.K X.mg X.base CX k f fd ps sp) (hr : Room k X.A) (hg : Gl X x) (hm : X.mg x = some (.ref f)) (hk : PySem.W.keepIn X.K (.ref f) = true) (hb : KBinds X.K fd ps ks g gV) (hx : Passes CX X E)
    (hkw : PK X kws tk) (hall : (backToKw pos (keywordEach kws X.env)).all (·.1.isSome) = true := by rfl) (hks : (backToKw pos (keywordEach kws X.env)).filterMap (·.1) = ks := by rfl)
    (hdb : (x == ("__debug__" : Str)) = false := by decide) (hpl : ((backTo pos (starEach [] X.env)).any (·.1) || (backToKw pos (keywordEach kws X.env)).any (·.1.isNone)) = false := by rfl) : PE X (.Call (.Name x p) [] kws pos) (tCall0K sp gV E tk) := by
  refine ⟨fun pins s σ H Q I h => ?_⟩
  refine wpAny_Call_Name_kw (ld_glob I hg hm ?_ hdb)
  refine PySem.W.callWith_KW0 (h₀ := X.base) I.ok.mod.kin hk hall (thn (hkw.run pos pins s σ H _ I h) fun ws s2 ⟨zs, H2, I2, rz, q2⟩ => ⟨I2.kIn, ?_⟩) hpl
  rw [hks]
  exact run_fnk (us := []) F hr hb hx I2 .nil rz q2
end
end Own

set_option maxHeartbeats 4000000
/-! Own errors two classes below Exception, whose __init__ says super().__init__(text) and then stores its arguments. -/
namespace PySem
namespace OwX
open PySem.W PySem.Calls PyProof.Rows PySem.HandSPX
abbrev exT : List Value := [.type "Exception", .type "BaseException", .type "object"]
section
open Builtin Builtin.ObjectAttr
variable {prog : Program} {w : World} {A : Around} {E : Value → Shared → Prop} {R : Result → Shared → Prop} {hp : Heap} {g : Array GenState} {d : Drawn} {t : Nat} {os : OsState}
theorem tail2_has {C M : Addr} (X : String) (hX : exT.contains (.type X) = true) : (Value.ref C :: .ref M :: exT).contains (.type X) = true := by
  rw [List.contains_cons, List.contains_cons, hX, Bool.or_true, Bool.or_true]
theorem mro2_has {K : W.Frag} {C M : Addr} {cd : ClassData} (hcd : W.clsIn K C = some cd) (hm : cd.mro = .ref C :: .ref M :: exT) {b : Value} (hb : (Value.ref C :: .ref M :: exT).contains b = true) : W.mroIn K C b = some true := by
  unfold W.mroIn
  rw [hcd, Option.bind_some, hm, if_neg (show ¬ (List.isEmpty (Value.ref C :: .ref M :: exT) = true) from Bool.false_ne_true), hb]
/-- up to the object's own dict -/
theorem osa_two {K : W.Frag} {name : Str} {tk : Tok} {v : Value} {x C M : Addr} {ox : Obj} {od : Option Obj} {cd : ClassData}
    (X : K.In hp) (I : W.InstAt hp x ox C od) (hcd : W.clsIn K C = some cd) (hm : cd.mro = .ref C :: .ref M :: exT) (ha : W.findIn K (.ref C) name = some none)
    (hq : wpAny (model prog w) A.in1 (storeInOwnDict (.ref x) (.ref C) (.str name tk) name v false)
      (fun fin s' => match fin with | .done f => R (.ok f) s' | .again c' => c'.quiet = true ∧ codeAny (model prog w) A c' R s') (fun e s' => R (.error e) s') ⟨hp, g, d, t, os⟩) :
    codeAny (model prog w) A (.call (.builtin "object.__setattr__") ⟨[.ref x, .str name tk, v], []⟩) R ⟨hp, g, d, t, os⟩ := by
  have SF := F.store_object
  have sub : W.Looks (model prog w) hp (isInstance (.ref x) (.type "object")) true := I.type.andThen (W.looks_mroIn X (mro2_has hcd hm (tail2_has "object" (by decide +kernel))))
  refine codeAny_call_builtin SF.slot.plain SF.entry (@W.check_slot (model prog w) _ _ ⟨hp, g, d, t, os⟩ "object.__setattr__" "object" "__setattr__" (.ref x) [.str name tk, v] [] _ SF.kind SF.split sub (SF.args (.ref x) (.str name tk) v) ?_)
  have hmr : W.Looks (model prog w) hp (mroOf (.ref C)) cd.mro := (W.looks_clsIn X hcd).andThen .now
  have L3 : W.Looks (model prog w) hp (storeTaker? none) none := .now
  have hpass : refuseLoop (.ref x) "__setattr__" cd.mro = pure () := by
    rw [hm, refuseLoop_ref, refuseLoop_ref]
    exact F.store_Exception.passes _
  rw [W.osa_eq, refuse_eq]
  refine wpAny_bind (wpAny_bind (I.type.at (wpAny_bind (hmr.at ?_))))
  rw [hpass]
  refine wpAny_pure (wpAny_bind (I.type.at (wpAny_bind ((W.looks_findIn X ha).at (wpAny_bind (L3.at ?_))))))
  exact hq
theorem osa_two_new {K : W.Frag} {name : Str} {tk : Tok} {v : Value} {x C M : Addr} {fv : Array Value} {cd : ClassData}
    (X : K.In hp) (hx : hp.get? x = some { cls := .ref C, data := .fields fv }) (hcd : W.clsIn K C = some cd) (hm : cd.mro = .ref C :: .ref M :: exT) (hh : cd.hasDict = true) (ha : W.findIn K (.ref C) name = some none)
    (hq : ∀ h' tk' dx, (∀ b o, b ≠ x → hp.get? b = some o → h'.get? b = some o) → hp.objs.size ≤ dx → dx ≠ x → h'.get? x = some { cls := .ref C, dict := some dx, data := .fields fv } →
      h'.Ns1 dx (fun y => if y = name then some v else none) → R (.ok (.ret .none)) ⟨h', g, d, tk', os⟩) :
    codeAny (model prog w) A (.call (.builtin "object.__setattr__") ⟨[.ref x, .str name tk, v], []⟩) R ⟨hp, g, d, t, os⟩ := by
  have I : W.InstAt hp x { cls := .ref C, data := .fields fv } C none := ⟨hx, rfl, rfl, trivial⟩
  have hxs : x ≠ hp.objs.size := Nat.ne_of_lt (Heap.lt_size hx)
  refine osa_two X I hcd hm ha ?_
  have hcls : W.Looks (model prog w) hp (classData C) cd := W.looks_clsIn X hcd
  obtain ⟨nm, bs, mro, ns, qn, hd, sn, sb, ab, col, del⟩ := cd
  dsimp only at hh
  subst hh
  unfold storeInOwnDict ownDictForStores
  repeat (first | with_reducible refine HandSPX.store_in_new ?_ ?_ | with_reducible refine wpAny_loadPart_at hx ?_ | with_reducible refine hcls.at ?_ | wp_step)
  · exact ⟨_, #[], _, (Heap.get?_update_ne _ _ _ _ hxs.symm).trans (Heap.get?_push_at rfl rfl), rfl, fun e he => absurd he (by simp), fun _ => rfl⟩
  · intro h' tk' hn' hs
    have hx1 : (hp.push { cls := .type "dict", data := .dict #[] }).get? x = some { cls := .ref C, data := .fields fv } := Heap.get?_push_of_some _ hx
    refine hq h' tk' hp.objs.size (fun b o hb ho => ?_) (Nat.le_refl _) hxs.symm ?_ hn'
    · exact (hs.2 b (Nat.ne_of_lt (Heap.lt_size ho))).trans ((Heap.get?_update_ne _ _ _ _ hb).trans (Heap.get?_push_of_some _ ho))
    · exact (hs.2 x hxs).trans (Heap.get?_update_self _ hx1 rfl)
end
end OwX
end PySem

namespace PySem
namespace OwXat
open PySem.W PySem.Calls PyProof.Rows PySem.HandSPX PySem.OwX
/-! ### the text of __init__, for one field -/
def iA (p1 p2 : Pos) : Arguments := { posonlyargs := [], args := [{ arg := "self", annotation := none, pos := p1 }, { arg := "at", annotation := none, pos := p2 }], vararg := none, kwonlyargs := [], kw_defaults := [], kwarg := none, defaults := [] }
def iS : Scope := { kind := .function, names := [(PySem.Str.ofString "self", .local), (PySem.Str.ofString "at", .local), (PySem.Str.ofString "__class__", .free), (PySem.Str.ofString "super", .globalImplicit)], isGenerator := false, isCoroutine := false, more := [] }
def sSup (msg : Str) (p0 p1 p2 p3 p4 p5 : Pos) : Stmt := .Expr (.Call (.Attribute (.Call (.Name "super" p0) [] [] p1) "__init__" p2) [.Constant (.str msg) 0 p3] [] p4) p5
def sStore (q1 q2 q3 q4 : Pos) : Stmt := .Assign [.Attribute (.Name "self" q1) "at" q2] (.Name "at" q3) q4
/-- what the written part says of such a class at C, over the one at M, and of its __init__ at fI -/
structure OexT (P : Program) (K : Frag) (C M fI : Addr) : Prop where
  cls : ∃ nm q N bs sn sub ab col dd k0 k1 k2 k3 k5, K.lookup C = some (excClassObj nm q C N bs (.ref M :: exT) true sn sub ab col dd k0 k1 k2 k3 k5 "Exception.__new__")
  sa : findIn K (.ref C) "__setattr__" = some (some (.builtin "object.__setattr__"))
  ga : findIn K (.ref C) "__getattribute__" = some (some (.builtin "BaseException.__getattribute__"))
  gg : findIn K (.ref C) "__getattr__" = some none
  noN : findIn K (.ref C) "at" = some none
  iC : findIn K (.ref C) "__init__" = some (some (.ref fI))
  tC : typeIn K (.ref fI) = some (.type "function")
  kC : keepIn K (.ref C) = true
  exC : subIn K (.ref C) (.type "BaseException") = some true
  exE : subIn K (.ref C) (.type "Exception") = some true
  tyC : typeIn K (.ref C) = some (.type "type")
  hdC : hasDictIn K C = true
  te : exmOne K (.ref C) (.ref C) = some true
  sI : alongIn K "__init__" (.ref M :: exT) = some (some (.builtin "Exception.__init__"))
  op : nsIn K cStatics "thirdparty.any" = some none
  sup : nsIn K mainGlobals "super" = some none
  top : (P.main.scope.names.lookup ("super" : Str)).isSome = false
  fn : ∃ (qual : Str) (oc : Value) (od : Option Addr) (doc pm : Value) (an : Option Addr) (cda cc : Addr) (ct : Value) (osl : Array (Option Value)) (msg : Str) (p1 p2 r0 r1 r2 r3 r4 r5 q1 q2 q3 q4 : Pos) (ccl cl : Value) (cdd cld : Option Addr) (ccs csl : Array (Option Value)) (vs : Array Value) (tf : Tok),
    K.lookup fI = some ⟨oc, od, .func (ksFn "__init__" qual (iA p1 p2) [sSup msg r0 r1 r2 r3 r4 r5, sStore q1 q2 q3 q4] iS .none .none doc pm an (.ref cda) ct cc), osl⟩ ∧ codeIn K (.ref cda) qual = true ∧
      K.lookup cda = some ⟨ccl, cdd, .fields vs, ccs⟩ ∧ vs[2]? = some (.str P.main.file tf) ∧ K.lookup cc = some ⟨cl, cld, .cell (some (.ref C)), csl⟩ ∧
      (∀ env : Env, ∃ pl : Sem Bool, eval (.Call (.Attribute (.Call (.Name "super" r0) [] [] r1) "__init__" r2) [.Constant (.str msg) 0 r3] [] r4) env = (do
        let ov ← attributeBase (.Call (.Name "super" r0) [] [] r1) "__init__" env (eval (.Call (.Name "super" r0) [] [] r1) env)
        standAt r2.atName
        let (f, first) ← holding [ov] (getMethod ov "__init__" pl)
        callWith r4 f first (backTo r4 (starEach [.Constant (.str msg) 0 r3] env)) [])) ∧
      (∀ env : Env, swapsWith (.Call (.Attribute (.Call (.Name "super" r0) [] [] r1) "__init__" r2) [.Constant (.str msg) 0 r3] [] r4) none r5.line env = pure false) ∧
      (∀ env : Env, swapsWith (.Name "at" q3) (some (.Attribute (.Name "self" q1) "at" q2)) q4.line env = pure false)
/-- what __init__ leaves of a fresh exception at x -/
structure InitEnd (h h' : Heap) (x C dx t1 : Addr) (v : Value) : Prop where
  keep : ∀ b o, b ≠ x → h.get? b = some o → h'.get? b = some o
  obj : h'.get? x = some { cls := .ref C, dict := some dx, data := .fields #[.ref t1, .none, .none, .none, .bool false, .none] }
  dbig : h.objs.size ≤ dx
  dne : dx ≠ x
  ns : h'.Ns1 dx (fun y => if y = "at" then some v else none)
section
variable {prog : Program} {w : World} {A : Around} {E : Value → Shared → Prop} {R : Result → Shared → Prop} {s : Shared} {K : Frag} {mg mb : Str → Option Value} {C M fI : Addr}
theorem inv_init (T : OexT prog K C M fI) {x t0 : Addr} {v : Value} (X : K.In s.heap) (hlim : s.heap.NoLimit) (hg : s.heap.Ns mainGlobals mg) (hb : s.heap.Ns builtinsNs mb) (hbb : ∀ y : Str, y ≠ "__name__" → mb y = bootBuiltins y)
    (hx : s.heap.get? x = some (excO C t0)) (hnx : K.lookup x = none) (hroom : A.depth < recursionLimit)
    (hq : ∀ h' tk dx t1, InitEnd s.heap h' x C dx t1 v → R (.ok (.ret .none)) { s with heap := h', toks := tk }) :
    codeAny (model prog w) A (.call (.ref fI) ⟨[.ref x, v], []⟩) R s := by
  obtain ⟨qual, oc, od, doc, pm, an, cda, cc, ct, osl, msg, p1, p2, r0, r1, r2, r3, r4, r5, q1, q2, q3, q4, ccl, cl, cdd, cld, ccs, csl, vs, tf, ho, hcd, hcda, hvs, hcc, hev, hsw, hsw2⟩ := T.fn
  obtain ⟨nm, q, N, bs, sn, sub, ab, col, dd, k0, k1, k2, k3, k5, hC⟩ := T.cls
  have hcl : clsIn K C = some { name := nm, bases := bs, mro := .ref C :: .ref M :: exT, ns := N, qualname := q, hasDict := true, slotNames := sn, subclasses := sub, abstract := ab, collection := col, hasDel := false } := by unfold clsIn; rw [hC] <;> rfl
  refine ks_codeAny_call_defAt (fd := ksFn "__init__" qual (iA p1 p2) [sSup msg r0 r1 r2 r3 r4 r5, sStore q1 q2 q3 q4] iS .none .none doc pm an (.ref cda) ct cc) (body := [sSup msg r0 r1 r2 r3 r4 r5, sStore q1 q2 q3 q4]) (binds := [("self", .ref x), ("at", v)])
    hroom (X _ _ ho) rfl hlim (codeRec_of X hcd) rfl (BindsTo.of_eq (by first | rfl | with_unfolding_all rfl)) (show ∀ y ∈ iS.names, y.2 ≠ .cell by decide +kernel) (by simp only [List.mem_cons, List.not_mem_nil, or_false]; rintro y (rfl | rfl) <;> rfl) (fun h1 hns hk => ?_) rfl rfl rfl
  have X1 : K.In h1 := X.keeps hk
  have hx1 := hk _ _ hx
  have hD1 : h1.get? C = some (excClassObj nm q C N bs (.ref M :: exT) true sn sub ab col dd k0 k1 k2 k3 k5 "Exception.__new__") := X1 _ _ hC
  have hxC : x ≠ C := fun e => by
    rw [e, hD1] at hx1
    cases hx1
  have hmC : Looks (model prog w) h1 (isSubtype (.ref C) (.ref C)) true := looks_mroIn X1 (OwX.mro2_has hcl rfl (by simp))
  have hmg : mg "super" = none := mg_none_of X hg T.sup
  generalize hen : callEnv (ksFn "__init__" qual (iA p1 p2) [sSup msg r0 r1 r2 r3 r4 r5, sStore q1 q2 q3 q4] iS .none .none doc pm an (.ref cda) ct cc) s.heap.objs.size fI = en
  have en1 : en.scope = iS := by rw [← hen] <;> rfl
  have en2 : en.func = some fI := by rw [← hen] <;> rfl
  have en3 : en.code = .ref cda := by rw [← hen] <;> rfl
  have en4 : en.globals = mainGlobals := by rw [← hen] <;> rfl
  have en5 : en.builtins = builtinsNs := by rw [← hen] <;> rfl
  have en6 : en.cells = [(PySem.Str.ofString "__class__", cc)] := by rw [← hen] <;> rfl
  have en7 : en.locals = s.heap.objs.size := by rw [← hen] <;> rfl
  have kd : ∀ y : Str, en.kindOf y = iS.names.lookup y := fun y => by
    show en.scope.names.lookup y = _
    rw [en1]
  obtain ⟨pl, hev1⟩ := hev en
  -- super()
  refine ks_wpAt_execs_cons (ks_wpAt_Expr_any (ks_wpAt_MethodCall (pl := pl) (ks_wpAt_super_base (hks := by rw [kd]; decide +kernel) (hkc := by rw [kd]; decide +kernel) (hat := by decide) (hfu := en2) (hf := X1 _ _ ho) (hfd := rfl) (hp := rfl) (hco := en3) (hcc := X1 _ _ hcda) (hoc := rfl) (hvs := hvs) (hfile := by simp) (htop := T.top) ?_) hev1) (by unfold interactive; rw [en1]; rfl) (hsw en))
  have kf : en.scope.kind = .function := by rw [en1] <;> rfl
  refine ks_loadName_global kf (by rw [kd]; decide +kernel) (loadGlobal_builtin (by rw [en4]; exact hg.keeps hk) hmg (by rw [en5]; exact hb.keeps hk) ((hbb _ (by decide +kernel)).trans (by decide +kernel)) ⟨rfl, ?_⟩)
  refine wpAny_loadName_free kf (by rw [kd]; decide +kernel) (by rw [en6]; rfl) ⟨_, X1 _ _ hcc, rfl⟩ ?_
  refine wpAny_loadName_local (v := .ref x) kf (show en.kindOf "self" = some .local by rw [kd]; decide +kernel) (by rw [en7]; exact hns) (by rfl) ?_
  refine ks_wpAny_isType_cls hD1 rfl ⟨rfl, ?_⟩
  refine ks_wpAny_call_super hD1 rfl hx1 rfl (fun c e => by cases e) hmC (fun h2 hso k2 => ?_)
  have X2 : K.In h2 := X1.keeps k2
  have hx2 := k2 _ _ hx1
  have I2 : InstAt h2 x (excO C t0) C none := ⟨hx2, rfl, rfl, trivial⟩
  refine ESX.getMethod_super hso (looks_opaque X2 T.op) (l₀ := .ref C :: .ref M :: exT) (l := .ref M :: exT) ?_ (by simp [List.dropWhile_cons]) X2 T.sI hxC (by decide) (I2.type.andThen (looks_subIn X2 T.exE)) ?_
  · exact (looks_clsIn X2 hcl).andThen .now
  refine ESX.callWith_bound (x := x) (first := []) ?_
  refine Calls.spliced_cons (Calls.Constant_str (pos := r3) (k := 0) (Calls.spliced_nil ?_))
  have k3 : ∀ b o, h2.get? b = some o → (h2.push (ESX.bw x)).get? b = some o := fun b o e => Heap.get?_push_of_some _ e
  refine ⟨Heap.get?_push_size _ rfl, ?_⟩
  refine ESX.call_bw (C := C) (e := x) (t0 := t0) (k3 _ _ (k2 _ _ hD1)) (k3 _ _ hx2) (Heap.get?_push_size _ rfl) (by rw [sizeLine_eq]; show (1 : Nat) ≤ 16777216; decide) (fun h4 t1 k4 hx4 => ?_)
  have kk : ∀ b o, b ≠ x → s.heap.get? b = some o → h4.get? b = some o := fun b o hb e => k4 b o hb (k3 b o (k2 b o (hk b o e)))
  have X4 : K.In h4 := fun a o e => kk a o (fun z => by
    rw [z, hnx] at e
    cases e) (X a o e)
  have hns4 : h4.Ns en.locals (fun y => [(PySem.Str.ofString "self", Value.ref x), (PySem.Str.ofString "at", v)].reverse.lookup y) := by
    rw [en7]
    obtain ⟨o, es, ep, e1, e2⟩ := id hns
    exact ⟨o, es, ep, k4 _ _ (fun z => absurd (Heap.lt_size hx) (by rw [← z]; exact Nat.lt_irrefl _)) (k3 _ _ (k2 _ _ e1)), e2⟩
  show wpAt _ _ _ _ _ _ _
  refine wpAt_of_wpAny ?_
  -- self."at" = "at"
  show wpAny _ _ (execs _ _) _ _ _
  refine wpAny_execs_cons (plainObj_wpAny_Assign_Attribute ?_ (hsw2 en))
  refine wpAny_Name (wpAny_loadName_local (v := v) kf (by rw [kd]; decide +kernel) hns4 (by rfl) ?_) (by decide)
  refine wpAny_Name (wpAny_loadName_local (v := .ref x) kf (by rw [kd]; decide +kernel) hns4 (by rfl) ?_) (by decide)
  refine set_plain X4 (ox := excO C t1) (od := none) ⟨hx4, rfl, rfl, trivial⟩ T.sa ?_
  refine OwX.osa_two_new X4 hx4 hcl rfl rfl T.noN (fun h5 tk5 dx k5 dn dne hx5 hn5 => ?_)
  show wpAny _ _ (execs _ _) _ _ _
  refine wpAny_execs_nil (hq h5 tk5 dx t1 ⟨fun b o hb e => k5 b o hb (kk b o hb e), hx5, ?_, dne, hn5⟩)
  obtain ⟨o, es, ep, e1, e2⟩ := hns4
  rw [en7] at e1
  exact Nat.le_trans (Nat.le_of_lt (Heap.lt_size e1)) dn
/-- a made error: what stands at e (its dict at d) -/
structure Made (h h' : Heap) (e C d : Addr) (v : Value) : Prop where
  keep : ∀ b o, h.get? b = some o → h'.get? b = some o
  new : h.objs.size ≤ e
  obj : ∃ oe vs, h'.get? e = some oe ∧ oe.cls = .ref C ∧ oe.dict = some d ∧ oe.data = .fields vs ∧ vs[1]? = some .none
  dbig : h.objs.size ≤ d
  dne : d ≠ e
  ns : h'.Ns1 d (fun y => if y = "at" then some v else none)
theorem inv_made (T : OexT prog K C M fI) {v : Value} (X : K.In s.heap) (hlim : s.heap.NoLimit) (hg : s.heap.Ns mainGlobals mg) (hb : s.heap.Ns builtinsNs mb) (hbb : ∀ y : Str, y ≠ "__name__" → mb y = bootBuiltins y) (hroom : A.depth + 1 < recursionLimit)
    (hq : ∀ h' tk e d, Made s.heap h' e C d v → R (.ok (.ret (.ref e))) { s with heap := h', toks := tk }) :
    codeAny (model prog w) A (.call (.ref C) ⟨[v], []⟩) R s := by
  obtain ⟨nm, q, N, bs, sn, sub, ab, col, dd, k0, k1, k2, k3, k5, hC⟩ := T.cls
  obtain ⟨hp, g, dr, tk, os⟩ := s
  have k : ∀ b o, hp.get? b = some o → ((hp.push (kdv_tup [v])).push (excO C hp.objs.size)).get? b = some o := fun b o e => Heap.get?_push_of_some _ (Heap.get?_push_of_some _ e)
  have hget : ((hp.push (kdv_tup [v])).push (excO C hp.objs.size)).get? (hp.objs.size + 1) = some (excO C hp.objs.size) := by heap_get
  have hnx : K.lookup (hp.objs.size + 1) = none := by
    cases e : K.lookup (hp.objs.size + 1) with
    | none => rfl
    | some o =>
      have z : hp.get? (hp.objs.size + 1) = some o := X _ _ e
      exact absurd (Nat.lt_of_succ_lt (Heap.lt_size z)) (Nat.lt_irrefl _)
  refine call_own F.excBase_Exception (bm := .ref M :: exT) (fun Y => by rw [List.contains_cons]; rfl) (X _ _ hC) (looks_findIn X T.iC) (fun self => bind_fn X self T.tC) (by rw [sizeLine_eq]; show (1 : Nat) ≤ 16777216; decide) ?_
  refine inv_init (s := ⟨(hp.push (kdv_tup [v])).push (excO C hp.objs.size), g, dr, tk, os⟩) T (X.keeps k) (hlim.keeps k) (hg.keeps k) (hb.keeps k) hbb hget hnx ?_ fun h' tk' dx t1 ⟨k', hx, dn, dne, hns⟩ => ?_
  · show A.depth + 1 < recursionLimit
    exact hroom
  · have old : ∀ b o, hp.get? b = some o → h'.get? b = some o := fun b o e => k' b o (Nat.ne_of_lt (Nat.lt_succ_of_lt (Heap.lt_size e))) (k b o e)
    have z : hp.objs.size + 1 + 1 ≤ dx := by
      have q := dn
      rw [Heap.size_push, Heap.size_push] at q
      exact q
    exact ⟨rfl, hq h' tk' (hp.objs.size + 1) dx ⟨old, Nat.le_succ _, ⟨_, _, hx, rfl, rfl, rfl, rfl⟩, Nat.le_trans (Nat.le_trans (Nat.le_succ _) (Nat.le_succ _)) z, dne, hns⟩⟩
end
end OwXat
end PySem

namespace Own
open PySem PySem.Spec PyProof.Rows L2
theorem relO_at {v : V} {v' : Value} (r : RelV v v') (f : Str) : RelO (List.lookup f [(("at" : Str), v)]) (if f = "at" then some v' else none) := by
  by_cases hw : f = "at"
  · subst hw
    rw [if_pos rfl]
    have q : List.lookup ("at" : Str) [(("at" : Str), v)] = some v := by simp [List.lookup]
    rw [q]
    exact r
  · rw [if_neg hw]
    have qw : (f == ("at" : Str)) = false := by simpa using hw
    have q2 : List.lookup f [(("at" : Str), v)] = none := by simp [List.lookup, qw]
    rw [q2]
    trivial
/-- C(e) -/
def tMk_at (C : Addr) (ta : TA) : L2.St → Hp → XK → Prop := fun σ H Q => ta σ H fun vs H1 => ∃ v, vs = [v] ∧ ∀ d, H1 d = none → Q (.ref C) (some d) (upd H1 d (.xd [(("at" : Str), v)]))
section
variable {X : Cx} {C M fI : Addr} {nm : Str}
theorem pmk_at {a : Expr} {ta : TA} {p pos : Pos} {k : Nat} (T : PySem.OwXat.OexT X.prog X.K C M fI) (gC : X.mg nm = some (.ref C)) (hr : Room k X.A) (ha : PA X [a] ta) (hg : Gl X nm) (hdb : (nm == ("__debug__" : Str)) = false := by decide)
    (he : starEach (a :: []) X.env = (false, eval a X.env) :: starEach [] X.env := by rfl) (hpl : (backTo pos (starEach [] X.env)).any (·.1) = false := by rfl) :
    PMk X (.Call (.Name nm p) [a] [] pos) (tMk_at C ta) := by
  intro pins s σ H Q I h
  refine wpAny_Call_Name_kw (ld_glob I hg gC ?_ hdb)
  refine PySem.W.callWith_K (h₀ := X.base) I.ok.mod.kin T.kC (thn (ha.run pos pins s σ H _ I h) fun us s1 hh => ?_) he hpl
  obtain ⟨vs, H1, I1, r1, v, ev, q1⟩ := hh
  subst ev
  refine ⟨I1.kIn, ?_⟩
  cases r1 with
  | cons rv rn =>
    rename_i v' us'
    cases rn
    show wpAny _ _ (call (.ref C) [v']) _ _ _
    have hlim := I1.nolimit
    obtain ⟨mb, hb, hbb⟩ := I1.ok.mod.blt
    have hg1 := I1.ok.mod.glob.keeps I1.bk
    have hb1 := hb.keeps I1.bk
    obtain ⟨hp, g, dr, tk, os⟩ := s1
    refine wpAny_call (PySem.OwXat.inv_made T I1.kIn hlim hg1 hb1 hbb (by have := hr.dp; omega) fun h' tk' e d M => ?_)
    show MkP X pins σ Q (.ref e) ⟨h', g, dr, tk', os⟩
    obtain ⟨oe, fv, hoe, hc, hd, hdat, h1⟩ := M.obj
    have hns := M.ns
    obtain ⟨G', g1, g2⟩ := restrict h' fun b => decide (b ≠ e)
    have gk : ∀ b, b ≠ e → G'.get? b = h'.get? b := fun b hb => g1 b (decide_eq_true hb)
    have ge : G'.get? e = none := g2 e (by simp)
    have old : ∀ b o, hp.get? b = some o → G'.get? b = some o := fun b o q => (gk b (Nat.ne_of_lt (Nat.lt_of_lt_of_le (Heap.lt_size q) M.new))).trans (M.keep b o q)
    have ob : ObjOk X.prog X.w (upd H1 d (.xd [(("at" : Str), v)])) G' d (.xd [(("at" : Str), v)]) :=
      ⟨_, hns.at (fun o q => (gk d M.dne).trans q), fun f => relO_at rv f⟩
    have J : Inv X pins σ (upd H1 d (.xd [(("at" : Str), v)])) ⟨G', g, dr, tk', os⟩ := I1.laid (t' := tk') old M.dbig ob
    refine ⟨e, oe, fv, ⟨G', g, dr, tk', os⟩, _, .ref C, some d, rfl, J, fun b o q => ?_, ge, hoe, ⟨hc, hd⟩, hdat, h1, ?_, rfl, I1.bare, raises_own T.exC T.tyC, q1 d (I1.hok.fresh M.dbig)⟩
    · by_cases hb : b = e
      · have q' : G'.get? b = some o := q
        rw [hb, ge] at q'
        cases q'
      · exact (gk b hb).symm.trans q
    · rw [upd_ne (Ne.symm M.dne)]
      exact I1.hok.fresh M.new
/-- e."at" of the exception that the suite holds -/
def tBy_at (C : Addr) (a : Addr) (cls : Value) (d : Option Addr) (te : TE) : TE := fun σ H Q => te σ H fun x H1 => x = .ref a ∧ cls = .ref C ∧ ∃ (dd : Addr) (v : V), d = some dd ∧ H1 dd = some (.xd [(("at" : Str), v)]) ∧ Q v H1
theorem pe_by_at {a : Addr} {oe : Obj} {cls : Value} {d : Option Addr} {pn : List (Addr × Obj)} {e : Expr} {te : TE} {pos : Pos} (T : PySem.OwXat.OexT X.prog X.K C M fI) (hz : Zc cls d oe) (hf : ∃ vs, oe.data = .fields vs) (he : PE (X.suite a ((a, oe) :: pn)) e te)
    (hb : attributeBase e "at" X.env (eval e X.env) = eval e X.env := by rfl) :
    PE (X.suite a ((a, oe) :: pn)) (.Attribute e "at" pos) (tBy_at C a cls d te) := by
  refine ⟨fun pins s σ H Q I h => ?_⟩
  refine attr_of hb (thn (he.run pins s σ H _ I h) fun u s1 hh => ?_)
  obtain ⟨x, H1, I1, rx, ex, ec, dd, v, ed, ea, q⟩ := hh
  subst ex
  obtain rfl : u = Value.ref a := rx
  subst ec
  subst ed
  obtain ⟨ha, _⟩ := I1.pin (a, oe) (List.mem_append_left _ List.mem_cons_self)
  obtain ⟨vs, hd⟩ := hf
  have hx : ObjOk X.prog X.w H1 s1.heap dd (.xd [(("at" : Str), v)]) := I1.hok dd _ ea
  obtain ⟨mA, hns, hr⟩ := hx
  obtain ⟨od, ho, hl⟩ := lookIn_ns hns
  have l : List.lookup ("at" : Str) [(("at" : Str), v)] = some v := by simp [List.lookup]
  obtain ⟨u, hu, ru⟩ := RelO.some_of (v := v) (o := mA "at") (by rw [← l]; exact hr "at")
  have J : PySem.W.InstAt s1.heap a oe C (some od) := ⟨ha, hz.1, by unfold PySem.W.notCls; rw [hd] <;> rfl, by rw [hz.2]; exact ho⟩
  exact PySem.HandSPX.exc_get I1.kIn J T.ga T.gg T.exC (PySem.W.findObj_own T.hdC T.noN rfl (by rw [hl, hu])) (handed_of ru) ⟨v, H1, I1.tok _, ru, q⟩
end
end Own

namespace Own
open PySem PySem.Spec PyProof.Rows L2 Evl
/-! ### a def of the text and its promise, by its name -/
def Fn (P : Program) (w : World) (K : PySem.W.Frag) (mg : Str → Option Value) (base : Heap) (CX : CXT) (k : Nat) (x : Str) (st : Stmt) (ps : List Str) (sp : Sp) : Prop :=
  ∃ f fd, mg x = some (.ref f) ∧ FunD K x x (defArgs st) (defBody st) (defScope st) [] [] f fd ∧ Binds K fd ps [] ∧ FnOk P w K mg base CX k f fd ps sp
section
variable {X : Cx} {CX : CXT} {k : Nat} {ps ks : List Str} {sp : Sp} {E : XK} {x : Str} {st : Stmt} {p pos : Pos} {e : Expr} {es : List Expr} {t tk : TA}
theorem Fn.imp {P : Program} {w : World} {K : PySem.W.Frag} {mg : Str → Option Value} {base : Heap} {sp' : Sp} (F : Fn P w K mg base CX k x st ps sp) (h : ∀ vs H Q E, sp' vs H Q E → sp vs H Q E) : Fn P w K mg base CX k x st ps sp' := by
  obtain ⟨f, fd, h1, h2, h3, h4⟩ := F
  exact ⟨f, fd, h1, h2, h3, h4.imp h⟩
theorem Fn.mono {P : Program} {w : World} {K : PySem.W.Frag} {mg : Str → Option Value} {base : Heap} {j : Nat} (F : Fn P w K mg base CX j x st ps sp) (h : j ≤ k) : Fn P w K mg base CX k x st ps sp := by
  obtain ⟨f, fd, h1, h2, h3, h4⟩ := F
  exact ⟨f, fd, h1, h2, h3, h4.mono h⟩
theorem pe_callF (F : Fn X.prog X.w X.K X.mg X.base CX k x st ps sp) (hr : Room k X.A) (hg : Gl X x) (hx : Passes CX X E) (ha : PA X (e :: es) t) (hdb : (x == ("__debug__" : Str)) = false := by decide)
    (he : starEach (e :: es) X.env = (false, eval e X.env) :: starEach es X.env := by rfl) (hpl : (backTo pos (starEach es X.env)).any (·.1) = false := by rfl) :
    PE X (.Call (.Name x p) (e :: es) [] pos) (tCall sp [] E t) := by
  obtain ⟨f, fd, h1, h2, h3, h4⟩ := F
  exact pe_call h4 hr hg h1 h2.kp h3 .nil hx ha hdb he hpl
theorem pe_call0F (F : Fn X.prog X.w X.K X.mg X.base CX k x st ps sp) (hr : Room k X.A) (hg : Gl X x) (hx : Passes CX X E) (hdb : (x == ("__debug__" : Str)) = false := by decide) : PE X (.Call (.Name x p) [] [] pos) (tCall sp [] E tNil) := by
  obtain ⟨f, fd, h1, h2, h3, h4⟩ := F
  exact pe_call0 h4 hr hg h1 h2.kp h3 .nil hx hdb
/-- the values in the parameters' order -/
def pick {α : Type} (n : Nat) (ix : List Nat) (us ws : List α) : List α := match us with
  | [] => if ws.length = n then ix.filterMap fun i => ws[i]? else []
  | _ :: _ => []
theorem pick_rel {n : Nat} {ix : List Nat} {vs : List V} {us : List Value} {zs : List V} {ws : List Value} (r1 : Vals vs us) (r2 : Vals zs ws) : Vals (pick n ix vs zs) (pick n ix us ws) := by
  cases r1 with
  | cons a b => exact .nil
  | nil =>
    show Vals (if zs.length = n then ix.filterMap fun i => zs[i]? else []) (if ws.length = n then ix.filterMap fun i => ws[i]? else [])
    rw [← r2.length]
    by_cases h : zs.length = n
    · rw [if_pos h, if_pos h]
      clear h
      induction ix with
      | nil => exact .nil
      | cons i r ih =>
        rw [List.filterMap_cons, List.filterMap_cons]
        cases e : zs[i]? with
        | none =>
          rw [r2.none_of e]
          exact ih
        | some v =>
          obtain ⟨u, hu, ru⟩ := r2.get e
          rw [hu]
          exact .cons ru ih
    · rw [if_neg h, if_neg h]
      exact .nil
theorem kb_of {K : PySem.W.Frag} {qual : Str} {params : Arguments} {body : List Stmt} {scope : Scope} {f : Addr} {fd : FuncData} (n : Nat) (ix : List Nat) (F : FunD K x qual params body scope [] [] f fd) (hps : ps ≠ [])
    (h : ∀ (kV doc pm : Value) (an : Option Addr) (cdv ct : Value) (ws : List Value), ws.length = n → bindArgs (PySem.W.fnOf x qual params body scope .none kV doc pm an cdv ct) ⟨[], ks.zip ws⟩ = pure (ps.zip (ix.filterMap fun i => ws[i]?))) :
    KBinds K fd ps ks (pick n ix) (pick n ix) := by
  refine ⟨fun s us ws _ hl => ?_, fun r1 r2 => pick_rel r1 r2⟩
  obtain ⟨oc, od, dV, kV, doc, pm, an, cdv, ct, osl, rfl, lk, hcd, hD, hK⟩ := F.ex
  have no : ¬ (([] : List Value).length = ps.length) := fun e => hps (List.eq_nil_of_length_eq_zero e.symm)
  rcases hD with ⟨_, rfl⟩ | ⟨e, _⟩
  · cases us with
    | cons a b => exact absurd hl no
    | nil =>
      by_cases hw : ws.length = n
      · have e : pick n ix ([] : List Value) ws = ix.filterMap fun i => ws[i]? := if_pos hw
        rw [e]
        exact .of_eq (h kV doc pm an cdv ct ws hw)
      · have e : pick n ix ([] : List Value) ws = [] := if_neg hw
        rw [e] at hl
        exact absurd hl no
  · exact absurd rfl e
theorem pe_call0KF {n : Nat} {ix : List Nat} {kws : List Keyword} (F : Fn X.prog X.w X.K X.mg X.base CX k x st ps sp) (hr : Room k X.A) (hb : ∀ {f : Addr} {fd : FuncData}, FunD X.K x x (defArgs st) (defBody st) (defScope st) [] [] f fd → KBinds X.K fd ps ks (pick n ix) (pick n ix)) (hx : Passes CX X E)
    (hkw : PK X kws tk) (hg : Gl X x := by rfl) (hall : (backToKw pos (keywordEach kws X.env)).all (·.1.isSome) = true := by rfl) (hks : (backToKw pos (keywordEach kws X.env)).filterMap (·.1) = ks := by rfl)
    (hdb : (x == ("__debug__" : Str)) = false := by decide) (hpl : ((backTo pos (starEach [] X.env)).any (·.1) || (backToKw pos (keywordEach kws X.env)).any (·.1.isNone)) = false := by rfl) : PE X (.Call (.Name x p) [] kws pos) (tCall0K sp (pick n ix) E tk) := by
  obtain ⟨f, fd, h1, h2, h3, h4⟩ := F
  exact pe_call0K h4 hr hg h1 h2.kp (hb h2) hx hkw hall hks hdb hpl
end
/-! ### promises that leave all that was known -/
/-- a new tuple -/
def RetU (K : PySem.W.Frag) (xs : List V) (H : Hp) (Q : VK) : Prop := ∀ p H2, Ex H H2 → Tp K H2 p xs → Q (.ref p) H2
theorem RetU.new {K : PySem.W.Frag} {xs : List V} {H H1 : Hp} {Q : VK} (k : RetU K xs H Q) (e : Ex H H1) : NewT xs H1 Q := fun p o hp ho => k p _ (e.trans (Ex.new hp)) (Tp.of ho upd_same)
theorem Tp.ex {K : PySem.W.Frag} {H H1 : Hp} {p : Addr} {xs : List V} (h : Tp K H p xs) (e : Ex H H1) : Tp K H1 p xs := by
  rcases h with ⟨o, h1, h2⟩ | h
  · exact .inl ⟨o, h1, e _ _ h2⟩
  · exact .inr h
theorem NewT.any {xs ys : List V} {H : Hp} {Q : VK} (h : NewT xs H Q) (e : xs = ys) : NewT ys H Q := e ▸ h
/-! ### comprehensions that change nothing that was known -/
section
variable {K : PySem.W.Frag} {J : It} {n : Nat} {G : Hp → Prop} {Y : Nat → Hp → V → Hp → Prop} {g : TG} {tt : TT} {te : TE} {vs : List Nat} {σ : L2.St} {H : Hp}
/-- what a comprehension gives, from the list it walks -/
theorem lcP {Q : Addr → Hp → Prop} (w : Walk J n G Y) (hG : ∀ H', Ex H H' → G H') (hn : n ≤ 40000) (f : Nat → Bool) (v : Nat → V)
    (turn : ∀ i H1 x H2, i < n → Ex H H1 → Y i H1 x H2 → ∀ (K1 : VK) (K0 : Hp → Prop), (f i = true → ∀ H5, Ex H1 H5 → K1 (v i) H5) → (f i = false → ∀ H5, Ex H1 H5 → K0 H5) →
      g x (wipe σ vs) H2 fun σ2 H3 => wipe σ2 vs = wipe σ vs ∧ tt σ2 H3 fun b H4 => if b = true then te σ2 H4 K1 else K0 H4)
    (q : ∀ p H2, H p = none → Ex H H2 → H2 p = some (.lst (given n f v)) → Q p H2) :
    ∀ D, H D = none → ∃ W : Nat → Nat → Hp → Prop, (∃ m, W 0 m (upd H D (.lst []))) ∧ ∀ i m H, W i m H →
      (J.stop i H ∧ Q D H) ∨ (J.go i H ∧ ∃ Nx : Hp → Prop, (∀ H', Nx H' → ∃ m', m' < m ∧ W (i + 1) m' H') ∧ ∀ x H', J.yld i H x H' → g x (wipe σ vs) H' fun σ2 H2 => wipe σ2 vs = wipe σ vs ∧ tt σ2 H2 fun b H3 =>
        if b = true then te σ2 H3 fun y H4 => ∃ acc, H4 D = some (.lst acc) ∧ acc.length < sizeLine ∧ Nx (upd H4 D (.lst (acc ++ [y]))) else Nx H3) := fun D hD =>
  lc_it w (Cw H f v D) ⟨hD, Ex.new hD, upd_same⟩ (fun i H' _ p => hG H' p.2.1) (fun i x H1 H2 hi p y => by
    obtain ⟨p1, p2, p3⟩ := p
    refine turn i H1 x H2 hi p2 y _ _ (fun hf H5 e5 => ?_) (fun hf H5 e5 => ?_)
    · refine ⟨given i f v, e5 D _ p3, sz_lt (by have := given_len i f v; omega), p1, Ex.mut (p2.trans e5) p1, ?_⟩
      rw [given_yes hf]
      exact upd_same
    · refine ⟨p1, p2.trans e5, ?_⟩
      rw [given_no hf]
      exact e5 D _ p3) (fun H' p => q D H' p.1 p.2.1 p.2.2)
end
theorem yes_go {te : TE} {σ : L2.St} {H : Hp} {K1 : VK} {K0 : Hp → Prop} (h : te σ H K1) : tYes σ H (fun b H4 => if b = true then te σ H4 K1 else K0 H4) := by
  show (if true = true then te σ H K1 else K0 H)
  rw [if_pos rfl]
  exact h
theorem given_all (n : Nat) (v : Nat → V) : given n (fun _ => true) v = (List.range n).map v := by
  unfold given
  rw [List.filter_eq_self.mpr (by simp)]
end Own

/-! More rules: int(long text), text * int, list(range(n)), tuple(reversed(list)). -/
namespace PySem
namespace OwI
open PySem PySem.W PySem.Calls PySem.NumText PyProof.Rows
theorem wp_long {M : Model} {A : Around} {E : Value → Shared → Prop} {s : Shared} {Q : Value → Shared → Prop} {v : Value} {text : List Nat} {n : Int}
    (hs : ¬ (text.takeWhile (· != 0)).length ≤ 640) (hr : (int_private% "readNumeral") 4300 10 (text.takeWhile (· != 0)) = (int_private% "Numeral.value") n)
    (ha : ((text.takeWhile (· != 0)).length == text.length) = true) (hk : Looks M s.heap (nsGet cStatics "sys.int_max_str_digits") none) (h : Q (.int n s.toks) { s with toks := s.toks + 1 }) :
    wpAny M A ((int_private% "intFromText") v text 10) Q E s := by
  have hlim : ∀ {Q' : Nat → Shared → Prop}, Q' 4300 s → wpAny M A Builtin.intMaxStrDigits Q' E s := fun {Q'} q => by
    unfold Builtin.intMaxStrDigits
    exact wpAny_bind (hk.at (wpAny_pure q))
  obtain ⟨hp, g, d, tk, os⟩ := s
  repeat (any_goals (first
    | assumption
    | (with_reducible refine wpAny_ite_false (decide_eq_false hs) ?_)
    | (with_reducible refine wpAny_ite_true (decide_eq_true ha) ?_)
    | (with_reducible refine hlim ?_)
    | wp_step))
  all_goals (try rw [hr])
  all_goals (try dsimp only)
  repeat (any_goals (first
    | assumption
    | (with_reducible refine wpAny_ite_false (decide_eq_false hs) ?_)
    | (with_reducible refine wpAny_ite_true (decide_eq_true ha) ?_)
    | wp_step))
structure Hid (p : Prop) : Prop where
  out : p
theorem meets_long {x : PySem.Str} {u : Tok} {n : Int} (hl : x.length ≤ sizeLine) (hl2 : ¬ (numSeenOf x).length ≤ 640) (hn : PySem.intText? x = some n) :
    Meets (Builtin.«int.__new__» ⟨[.type "int", .str x u], []⟩) (fun _ R s => (∀ M : Model, Looks M s.heap (nsGet cStatics "sys.int_max_str_digits") none) ∧ R (.ok (.ret (.int n s.toks))) { s with toks := s.toks + 1 }) :=
  .of_wp fun prog w A R s h => by
    obtain ⟨hk, h⟩ := h
    obtain ⟨hp, g, d, tk, os⟩ := s
    have f1 := F.conv_sub_int
    have f2 := F.madeHere_int
    have f3 := KIN.str_int
    have f4 := KIN.str_idx
    have f5 := KIN.str_trunc
    have f6 : typeOf (.str x u) = pure (.type "str") := rfl
    have hr : (int_private% "readNumeral") 4300 10 (numSeenOf x) = (int_private% "Numeral.value") n ∧ ((numSeenOf x).length == (numTextOf x).length) = true := by
      rcases read4300 x hl with ⟨m, h1, h2, h3⟩ | ⟨h1, _⟩
      · rw [hn] at h1
        injection h1 with h1
        subst h1
        exact ⟨h3, h2⟩
      · rw [hn] at h1
        cases h1
    have hd := Hid.mk (And.intro hl2 hr)
    have hk' := Hid.mk hk
    clear hr hl hl2 hn hk
    repeat (any_goals (first
      | assumption
      | ((with_reducible show wpAny _ _ ((int_private% "intFromText") _ _ _) _ _ _); refine wp_long hd.out.1 hd.out.2.1 hd.out.2.2 (hk'.out _) ?_)
      | wp_step))
    all_goals first | exact ⟨_, rfl, h⟩ | skip
end OwI
end PySem
namespace Own
open PySem PySem.Spec PyProof.Rows L2 Evl
section
variable {X : Cx}
/-- int(text), up to 4,300 figures -/
def rIntS : List V → Hp → VK → Prop := fun xs H Q => ∃ a n, xs = [.str a] ∧ PySem.intText? a = some n ∧ a.length ≤ 4300 ∧ (numSeenOf a).length = a.length ∧ Q (.int n) H
theorem call_intS (hk : PySem.W.nsIn X.K cStatics "sys.int_max_str_digits" = some none) : CallR X (.type "int") rIntS := by
  intro pins s σ H xs us Q I rs h
  obtain ⟨a, n, rfl, hn, hl, hse, h⟩ := h
  cases rs with
  | cons r1 rs =>
    cases rs
    obtain ⟨t, rfl⟩ := r1
    by_cases h6 : (numSeenOf a).length ≤ 640
    · exact PySem.W.KIN.call_text hn (by omega) ⟨.int n, H, I.tok _, ⟨_, rfl⟩, h⟩
    · exact PySem.call_int_1 (PySem.OwI.meets_long (by rw [sizeLine_eq]; omega) h6 hn) ⟨fun M => PySem.W.looks_nsIn I.kIn hk, ⟨rfl, .int n, H, I.tok _, ⟨_, rfl⟩, h⟩⟩
/-- text * k -/
def repS (a : Str) (n : Nat) : Str := ⟨(List.replicate n a.cps).foldl (· ++ ·) #[]⟩
theorem repS_len (a : Str) : ∀ (n : Nat) (acc : Array Nat), ((List.replicate n a.cps).foldl (· ++ ·) acc).size = acc.size + n * a.cps.size
  | 0, acc => by simp
  | n + 1, acc => by
    rw [List.replicate_succ, List.foldl_cons, repS_len a n, Array.size_append, Nat.succ_mul]
    omega
theorem repS_length (a : Str) (n : Nat) : (repS a n).length = n * a.length := by
  show ((List.replicate n a.cps).foldl (· ++ ·) #[]).size = n * a.cps.size
  rw [repS_len]
  simp
theorem repS_mem {a : Str} {c : Nat} : ∀ (n : Nat) (acc : Array Nat), c ∈ ((List.replicate n a.cps).foldl (· ++ ·) acc).toList → c ∈ acc.toList ∨ c ∈ a.cps.toList
  | 0, acc, h => .inl h
  | n + 1, acc, h => by
    rw [List.replicate_succ, List.foldl_cons] at h
    rcases repS_mem n _ h with h | h
    · rw [Array.toList_append, List.mem_append] at h
      exact h
    · exact .inr h
def rRepS : R2 := fun x y H Q => ∃ a k, x = .str a ∧ y = .int k ∧ 0 ≤ k ∧ k ≤ 10000 ∧ a.length ≤ 1000 ∧ Q (.str (repS a k.toNat)) H
theorem op_repS : OpR X (binaryOp .Mult) rRepS := by
  intro pins s σ H x y v u Q I rx ry h
  obtain ⟨a, k, rfl, rfl, h0, h1, hz, q⟩ := h
  obtain ⟨t, rfl⟩ := rx
  obtain ⟨t2, rfl⟩ := ry
  have hm : a.length * k.toNat ≤ 1000 * 10000 := Nat.mul_le_mul hz (by omega)
  refine PySem.P.mul_str (by rw [decide_eq_false (by omega), decide_eq_false (by omega)] <;> rfl) (fun _ _ => ?_) (fun _ _ => ?_) ?_
  · have : (a.length : Int) ≤ 1000 := by omega
    have : (1000 : Int) ≤ (2 ^ 63 - 1) / k := by
      by_cases hk : k = 0
      · omega
      · exact Int.le_ediv_of_mul_le (by omega) (by omega)
    omega
  · unfold Builtin.Str.tooLong
    first
      | exact decide_eq_false (by rw [sizeLine_eq]; omega)
      | exact decide_eq_false (by omega)
  · by_cases h1' : k < 1
    · rw [if_pos h1']
      have e0 : repS a k.toNat = Str.empty := by
        rw [show k.toNat = 0 by omega]
        rfl
      rw [e0] at q
      exact ⟨by decide, .str Str.empty, H, I.tok _, ⟨_, rfl⟩, q⟩
    · rw [if_neg h1']
      by_cases h2 : (k == 1 || a.length == 0) = true
      · rw [if_pos h2]
        have e0 : repS a k.toNat = a := by
          rcases Bool.or_eq_true_iff.mp h2 with h3 | h3
          · have : k.toNat = 1 := by
              have := eq_of_beq h3
              omega
            rw [this]
            show (⟨#[] ++ a.cps⟩ : Str) = a
            rw [Array.empty_append]
          · have h4 : a.cps = #[] := Array.eq_empty_of_size_eq_zero (eq_of_beq h3)
            show (⟨(List.replicate k.toNat a.cps).foldl (· ++ ·) #[]⟩ : Str) = a
            have h5 : (List.replicate k.toNat a.cps).foldl (· ++ ·) #[] = #[] := Array.eq_empty_of_size_eq_zero (by
              rw [repS_len, h4]
              simp)
            rw [h5]
            cases a
            simp only at h4
            rw [h4]
        rw [e0] at q
        exact ⟨.str a, H, I.tok _, ⟨_, rfl⟩, q⟩
      · rw [if_neg h2]
        exact ⟨by
          have := repS_length a k.toNat
          show (repS a k.toNat).length ≤ sizeLine
          rw [this, sizeLine_eq, Nat.mul_comm]
          omega, .str (repS a k.toNat), H, I.tok _, ⟨_, rfl⟩, q⟩
/-- list(range(n)) -/
theorem pe_list_range {e : Expr} {te : TE} {p pos p2 pos2 : Pos} (hm : X.mg "list" = none) (hm2 : X.mg "range" = none) (he : PE X e te) (hc : X.calm = true := by rfl) (hg : Gl X "list" := by rfl) (hg2 : Gl X "range" := by rfl)
    (na : starEach [e] X.env = (false, eval e X.env) :: starEach [] X.env := by rfl) (na2 : starEach [.Call (.Name "range" p2) [e] [] pos2] X.env = (false, eval (.Call (.Name "range" p2) [e] [] pos2) X.env) :: starEach [] X.env := by rfl) :
    PE X (.Call (.Name "list" p) [.Call (.Name "range" p2) [e] [] pos2] [] pos) (tLstRg (tRg1 te)) := pe_listRg hc hg hm (prg_1 hg2 hm2 he na) na2
/-- tuple(reversed(xs)) -/
def tTupRev (K : PySem.W.Frag) (ta : TA) : TE := fun σ H Q => ta σ H fun vs H1 => ∃ (a : Addr) (xs : List V), vs = [.ref a] ∧ SqL K H1 a xs ∧ NewT xs.reverse H1 Q
theorem pe_tuple_reversed {e : Expr} {ta : TA} {p pos p2 pos2 : Pos} (hm : X.mg "tuple" = none) (hm2 : X.mg "reversed" = none) (ha : PA X [e] ta) (hc : X.calm = true := by rfl) (hg : Gl X "tuple" := by rfl) (hg2 : Gl X "reversed" := by rfl)
    (hs : starEach [e] X.env = [(false, eval e X.env)] := by rfl) (na2 : starEach [.Call (.Name "reversed" p2) [e] [] pos2] X.env = (false, eval (.Call (.Name "reversed" p2) [e] [] pos2) X.env) :: starEach [] X.env := by rfl) :
    PE X (.Call (.Name "tuple" p) [.Call (.Name "reversed" p2) [e] [] pos2] [] pos) (tTupRev X.K ta) := by
  refine ⟨fun pins s σ H Q I h => ?_⟩
  refine Call_ (ld_blt I hg hm boot_tuple (PyProof.Rows.callWith_type1 (args_cons (Call_ (ld_blt (I.tok _) hg2 hm2 PyProof.Rows.boot_reversed (PyProof.Rows.callWith_type1 (thn (ha.run pos2 pins _ σ H _ (I.tok _) h) fun us s1 ⟨vs, H1, I1, r1, q1⟩ => ?_) hs rfl))) na2) na2))
  obtain ⟨a, xs, e, hq, q⟩ := q1
  subst e
  cases r1 with
  | cons r rr =>
    cases rr
    cases r
    obtain ⟨its, rv, pl, hz⟩ := I1.list hq
    have hl := rv.length
    refine call_reversed_list pl.isList (args_nil ?_)
    have hlt : a < s1.heap.objs.size := by
      obtain ⟨o, n, e, _⟩ := pl
      exact Heap.lt_size e
    obtain ⟨oL, nL, eL, cL, dL, sL⟩ := id pl
    refine RT.call_tuple_rev (l := a) (items := its.toArray) (I1.ok.hd hc) ⟨_, Heap.get?_push_size _ rfl, rfl, rfl⟩ ?_ (Nat.ne_of_lt hlt) (by rw [List.size_toArray, ← hl]; exact hz) (fun h' tk acc hk hacc => ?_)
    · obtain ⟨n9, h9, h8⟩ := pl.isList
      exact ⟨n9, Heap.get?_push_of_some _ h9, h8⟩
    · have I2 : Inv X pins σ H1 { s1 with heap := h', toks := tk } := I1.kept (fun b o e => hk b o (Nat.ne_of_lt (Heap.lt_size e)) (Heap.get?_push_of_some _ e))
      have rr : Vals xs.reverse acc.toList := by
        obtain ⟨h1, h2⟩ := hacc
        refine vals_of_at (by rw [List.length_reverse, Array.length_toList]; exact hl.trans ((List.size_toArray ..).symm.trans h1.symm)) (fun j x u hx hu => ?_)
        have hj := h2 j u (by simpa using hu)
        have hj2 : j < xs.length := by
          have := (List.getElem?_eq_some_iff.mp hx).1
          rw [List.length_reverse] at this
          exact this
        rw [List.getElem?_reverse hj2] at hx
        obtain ⟨u2, hu2, ru⟩ := rv.get hx
        have : its[xs.length - 1 - j]? = some u := by
          rw [hl]
          simpa using hj
        rw [hu2] at this
        cases this
        exact ru
      have z := newT_end (tk := tk) I2 rr (by rw [List.length_reverse]; exact hz) q
      rw [Array.toArray_toList] at z
      exact z
end
end Own

namespace Own
open PySem PySem.Spec PyProof.Rows L2 Evl
/-! ### data -/
theorem dp_ints {K : PySem.W.Frag} {H : Hp} : ∀ ns : List Int, DpAll K H (ns.map V.int) (ns.map PyData.int)
  | [] => .nil
  | n :: r => .cons (.int n) (dp_ints r)
theorem eqv_ints_nil (ns : List Int) : PyData.eqv (.list (ns.map PyData.int)) (.list []) = ns.isEmpty := by
  cases ns <;> rfl
/-! ### where draws come from: a list [digits, mix, count] at a, the digits at l -/
structure Deal (H : Hp) (a l : Addr) : Prop where
  ne : a ≠ l
  at_ : ∃ (cs : List Int) (m c : Int), H a = some (.lst [.ref l, .int m, .int c]) ∧ H l = some (.lst (cs.map V.int)) ∧ (∀ x ∈ cs, 0 ≤ x) ∧ 0 ≤ m ∧ m < 2147483647 ∧ 0 ≤ c ∧ cs.length ≤ 100
/-- R: what is known and stays; the deal beside it -/
structure Wl (a l : Addr) (R H : Hp) : Prop where
  ex : Ex R H
  na : R a = none
  nl : R l = none
  deal : Deal H a l
section
variable {a l : Addr} {R R1 H H1 : Hp} {p : Addr} {o o' : HO}
theorem Deal.dom (d : Deal H a l) : H a ≠ none ∧ H l ≠ none := by
  obtain ⟨_, cs, m, c, h1, h2, _⟩ := d
  refine ⟨fun z => ?_, fun z => ?_⟩
  · rw [h1] at z
    cases z
  · rw [h2] at z
    cases z
theorem Deal.upd (d : Deal H a l) (h1 : p ≠ a) (h2 : p ≠ l) : Deal (upd H p o) a l := by
  obtain ⟨n, cs, m, c, e1, e2, r⟩ := d
  exact ⟨n, cs, m, c, by rw [upd_ne h1.symm]; exact e1, by rw [upd_ne h2.symm]; exact e2, r⟩
theorem Deal.ex (d : Deal H a l) (e : Ex H H1) : Deal H1 a l := by
  obtain ⟨n, cs, m, c, e1, e2, r⟩ := d
  exact ⟨n, cs, m, c, e _ _ e1, e _ _ e2, r⟩
/-- what changes nothing -/
theorem Wl.keep (w : Wl a l R H) (e : Ex H H1) : Wl a l R H1 := ⟨w.ex.trans e, w.na, w.nl, w.deal.ex e⟩
/-- a new object -/
theorem Wl.new (w : Wl a l R H) (h : H p = none) : Wl a l (upd R p o) (upd H p o) := by
  have h1 : p ≠ a := fun e => w.deal.dom.1 (e ▸ h)
  have h2 : p ≠ l := fun e => w.deal.dom.2 (e ▸ h)
  refine ⟨fun b u e => ?_, by rw [upd_ne h1.symm]; exact w.na, by rw [upd_ne h2.symm]; exact w.nl, w.deal.upd h1 h2⟩
  by_cases hb : b = p
  · subst hb
    rw [upd_same] at e ⊢
    exact e
  · rw [upd_ne hb] at e ⊢
    exact w.ex b u e
/-- a known object is changed -/
theorem Wl.mut (w : Wl a l R H) (h : R p = some o) : Wl a l (upd R p o') (upd H p o') := by
  have h1 : p ≠ a := fun e => by
    rw [e, w.na] at h
    cases h
  have h2 : p ≠ l := fun e => by
    rw [e, w.nl] at h
    cases h
  refine ⟨fun b u e => ?_, by rw [upd_ne h1.symm]; exact w.na, by rw [upd_ne h2.symm]; exact w.nl, w.deal.upd h1 h2⟩
  by_cases hb : b = p
  · subst hb
    rw [upd_same] at e ⊢
    exact e
  · rw [upd_ne hb] at e ⊢
    exact w.ex b u e
theorem Wl.free (w : Wl a l R H) (h : H p = none) : R p = none := fresh_back w.ex h
/-- more is known -/
theorem Wl.more (w : Wl a l R H) (e : Ex H H1) : ∃ R1, Ex R R1 ∧ Wl a l R1 H1 ∧ ∀ b o, b ≠ a → b ≠ l → H1 b = some o → R1 b = some o := by
  refine ⟨fun b => if b = a ∨ b = l then none else H1 b, fun b o h => ?_, ⟨fun b o h => ?_, if_pos (.inl rfl), if_pos (.inr rfl), w.deal.ex e⟩, fun b o h1 h2 h => ?_⟩
  · have h1 : b ≠ a := fun z => by
      rw [z, w.na] at h
      cases h
    have h2 : b ≠ l := fun z => by
      rw [z, w.nl] at h
      cases h
    show (if b = a ∨ b = l then none else H1 b) = some o
    rw [if_neg (by simp [h1, h2])]
    exact e _ _ (w.ex _ _ h)
  · have h' : (if b = a ∨ b = l then none else H1 b) = some o := h
    by_cases z : b = a ∨ b = l
    · rw [if_pos z] at h'
      cases h'
    · rw [if_neg z] at h'
      exact h'
  · show (if b = a ∨ b = l then none else H1 b) = some o
    rw [if_neg (by simp [h1, h2])]
    exact h
end
/-- the promise of a drawn number below a bound -/
def spAny : Sp := fun vs H Q _ => ∃ (a l : Addr) (R : Hp) (b : Int), vs = [.ref a, .int b] ∧ Wl a l R H ∧ 0 < b ∧ b.natAbs.log2 < 9000 ∧ ∀ (r : Int) (H' : Hp), 0 ≤ r → r < b → Wl a l R H' → Q (.int r) H'
/-- .. of one of some things, that stand in a list -/
def spOf (K : PySem.W.Frag) : Sp := fun vs H Q _ => ∃ (a l p : Addr) (R : Hp) (xs : List V), vs = [.ref a, .ref p] ∧ Wl a l R H ∧ SqL K R p xs ∧ xs ≠ [] ∧ xs.length ≤ 100 ∧ ∀ (v : V) (H' : Hp), v ∈ xs → Wl a l R H' → Q v H'
/-! ### kinds of values -/
inductive Vk (K : PySem.W.Frag) (H : Hp) : V → String → Prop where
  | non : Vk K H .non "NoneType"
  | bl (b : Bool) : Vk K H (.bl b) "bool"
  | int (i : Int) : Vk K H (.int i) "int"
  | str (x : Str) : Vk K H (.str x) "str"
  | tup {p : Addr} {xs : List V} (h : Tp K H p xs) : Vk K H (.ref p) "tuple"
  | lst {p : Addr} {xs : List V} (h : H p = some (.lst xs)) : Vk K H (.ref p) "list"
theorem Vk.ty {K : PySem.W.Frag} {H : Hp} {x : V} {T : String} (h : Vk K H x T) : TyX K H x (.type T) := by
  cases h with
  | non => exact .base .non
  | bl b => exact .base (.bl b)
  | int i => exact .base (.int i)
  | str z => exact .base (.str z)
  | tup h =>
    rcases h with ⟨o, _, h⟩ | ⟨o, its, n, h1, h2, _⟩
    · exact .fTuple h
    · exact .kTuple h1 h2
  | lst h => exact .base (.lst h)
theorem Vk.ex {K : PySem.W.Frag} {H H1 : Hp} {x : V} {T : String} (h : Vk K H x T) (e : Ex H H1) : Vk K H1 x T := by
  cases h with
  | non => exact .non
  | bl b => exact .bl b
  | int i => exact .int i
  | str z => exact .str z
  | tup h => exact .tup (h.ex e)
  | lst h => exact .lst (e _ _ h)
theorem Vk.known {K : PySem.W.Frag} {H : Hp} {x : V} {T : String} (h : Vk K H x T) : T ∈ ["NoneType", "bool", "int", "str", "tuple", "list"] := by
  cases h <;> decide
/-! ### one thing twice: two values of the same data, to a depth -/
def scalV : V → Bool
  | .non => true
  | .bl _ => true
  | .int _ => true
  | .str _ => true
  | _ => false
def Sm (K : PySem.W.Frag) (H : Hp) : Nat → V → V → Prop
  | 0, x, y => x = y ∧ scalV x = true
  | n + 1, x, y => (x = y ∧ scalV x = true) ∨ ∃ p q xs ys, x = .ref p ∧ y = .ref q ∧ Tp K H p xs ∧ Tp K H q ys ∧ xs.length = ys.length ∧ xs.length ≤ 1000 ∧ ∀ (i : Nat) u v, xs[i]? = some u → ys[i]? = some v → Sm K H n u v
theorem Sm.ex {K : PySem.W.Frag} {H H1 : Hp} (e : Ex H H1) : ∀ {n : Nat} {x y : V}, Sm K H n x y → Sm K H1 n x y
  | 0, _, _, h => h
  | n + 1, _, _, h => by
    rcases h with h | ⟨p, q, xs, ys, h1, h2, h3, h4, h5, h6, h7⟩
    · exact .inl h
    · exact .inr ⟨p, q, xs, ys, h1, h2, h3.ex e, h4.ex e, h5, h6, fun i u v hu hv => Sm.ex e (h7 i u v hu hv)⟩
theorem Sm.scal {K : PySem.W.Frag} {H : Hp} {x : V} (h : scalV x = true) : ∀ n : Nat, Sm K H n x x
  | 0 => ⟨rfl, h⟩
  | _ + 1 => .inl ⟨rfl, h⟩
/-- two tuples of the same scalars -/
theorem Sm.tup {K : PySem.W.Frag} {H : Hp} {p q : Addr} {xs : List V} (hp : Tp K H p xs) (hq : Tp K H q xs) (hs : ∀ x ∈ xs, scalV x = true) (hl : xs.length ≤ 1000) (n : Nat) : Sm K H (n + 1) (.ref p) (.ref q) :=
  .inr ⟨p, q, xs, xs, rfl, rfl, hp, hq, rfl, hl, fun i u v hu hv => by
    rw [hu] at hv
    cases hv
    exact Sm.scal (hs u (List.mem_of_getElem? hu)) n⟩
theorem scal_ints (ns : List Int) : ∀ x ∈ ns.map V.int, scalV x = true := fun x h => by
  obtain ⟨n, _, rfl⟩ := List.mem_map.mp h
  rfl
def spSame (K : PySem.W.Frag) (n : Nat) : Sp := fun vs H Q _ => ∃ x y, vs = [x, y] ∧ Sm K H n x y ∧ ∀ H', Ex H H' → Q (.bl true) H'
end Own

namespace Own
open PySem PySem.Spec PyProof.Rows L2 Evl
abbrev FnP (K : PySem.W.Frag) (x : Str) (st : Stmt) (f : Addr) (fd : FuncData) : Prop := FunD K x x (defArgs st) (defBody st) (defScope st) [] [] f fd
/-! ### isinstance of what is known -/
theorem kit_all : ∀ T ∈ ["NoneType", "bool", "int", "str", "tuple", "list"], ∀ c ∈ ["int", "bool", "tuple", "list", "str"], L2.kitB T c = some (decide (T = c) || (decide (T = "bool") && decide (c = "int"))) := by decide +kernel
theorem kit_vk {K : PySem.W.Frag} {H : Hp} {x : V} {T : String} (h : Vk K H x T) (c : String) (hc : c ∈ ["int", "bool", "tuple", "list", "str"] := by decide) : PySem.W.kitOne K (.type T) (.type c) = some (decide (T = c) || (decide (T = "bool") && decide (c = "int"))) := kit_ty (kit_all T h.known c hc)
/-- isinstance(x, c) -/
theorem isi_vk {K : PySem.W.Frag} {H : Hp} {x : V} {T : String} {Q : VK} (h : Vk K H x T) (c : String) (q : Q (.bl (decide (T = c) || (decide (T = "bool") && decide (c = "int")))) H) (hc : c ∈ ["int", "bool", "tuple", "list", "str"] := by decide) : rIsi K [x, .ty c] H Q :=
  ⟨x, .ty c, .type T, .type c, _, rfl, .ty c, h.ty, kit_vk h c hc, q⟩
/-! ### lists by their places -/
theorem range_zip {n : Nat} (f : Int → Int → Int) : ∀ {xs ys : List Int}, xs.length = n → ys.length = n → (List.range n).map (fun i => V.int (f (xs.getD i 0) (ys.getD i 0))) = (List.zipWith f xs ys).map V.int := by
  intro xs ys h1 h2
  apply List.ext_getElem?
  intro i
  rw [List.getElem?_map, List.getElem?_map, List.getElem?_zipWith]
  by_cases hi : i < n
  · rw [List.getElem?_range hi, List.getElem?_eq_getElem (show i < xs.length by omega), List.getElem?_eq_getElem (show i < ys.length by omega)]
    simp [List.getD_eq_getElem?_getD, List.getElem?_eq_getElem (show i < xs.length by omega), List.getElem?_eq_getElem (show i < ys.length by omega)]
  · rw [List.getElem?_eq_none (show (List.range n).length ≤ i by rw [List.length_range]; omega), List.getElem?_eq_none (show xs.length ≤ i by omega)]
    rfl
theorem range_map {α β : Type} (d : α) (f : α → β) (xs : List α) : (List.range xs.length).map (fun i => f (xs.getD i d)) = xs.map f := by
  apply List.ext_getElem?
  intro i
  rw [List.getElem?_map, List.getElem?_map]
  by_cases hi : i < xs.length
  · rw [List.getElem?_range hi, List.getElem?_eq_getElem hi]
    simp [List.getD_eq_getElem?_getD, List.getElem?_eq_getElem hi]
  · rw [List.getElem?_eq_none (show (List.range xs.length).length ≤ i by rw [List.length_range]; omega), List.getElem?_eq_none (show xs.length ≤ i by omega)]
    rfl
theorem int_at {xs : List Int} {i : Nat} {x : V} (h : (xs.map V.int)[i]? = some x) : x = .int (xs.getD i 0) ∧ i < xs.length := by
  rw [List.getElem?_map] at h
  cases e : xs[i]? with
  | none =>
    rw [e] at h
    cases h
  | some n =>
    rw [e] at h
    have h2 := (List.getElem?_eq_some_iff.mp e).1
    refine ⟨?_, h2⟩
    rw [List.getD_eq_getElem?_getD, e]
    exact (Option.some.inj h).symm
theorem at_int {xs : List Int} {i : Nat} (h : i < xs.length) : (xs.map V.int)[i]? = some (.int (xs.getD i 0)) := by
  rw [List.getElem?_map, List.getD_eq_getElem?_getD, List.getElem?_eq_getElem h]
  rfl
theorem atI_int {xs : List Int} {i : Nat} (h : i < xs.length) : atI (xs.map V.int) (i : Int) = some (.int (xs.getD i 0)) := atI_nat (at_int h)
theorem getD_mem {xs : List Int} {i : Nat} (h : i < xs.length) : xs.getD i 0 ∈ xs := by
  rw [List.getD_eq_getElem?_getD, List.getElem?_eq_getElem h]
  exact List.getElem_mem h
/-! ### zip of two tuples -/
theorem walk_zipT {K : PySem.W.Frag} {a b : Addr} {xs ys : List V} {n : Nat} (h1 : xs.length = n) (h2 : ys.length = n) : Walk (RZ.ItzT K a b) n (fun H => SqT K H a xs ∧ SqT K H b ys) (YPair (fun i => xs[i]?) (fun i => ys[i]?)) := by
  subst h1
  refine ⟨fun i _ hi q => ?_, fun _ q => ⟨xs, ys, q.1, q.2, by omega⟩, fun i H v H' _ q y => ?_⟩
  · exact ⟨xs, ys, xs[i], ys[i]'(by omega), q.1, q.2, by simp [hi], by simp [show i < ys.length by omega]⟩
  · obtain ⟨T, x, z, h1, h2, h3, h4, h5⟩ := y
    exact ⟨T, x, z, h1, h2, h3, h4 xs q.1, h5 ys q.2⟩
end Own

/-! The layer's rules with the written part named apart: their readings then hang on no context. -/
namespace Own
open PySem PySem.Spec PyProof.Rows L2 Evl
section
variable {X : Cx} {K : PySem.W.Frag}
theorem kx_list (h : X.K = K := by rfl) : IxR X (rIxL K) := by subst h; exact ix_list
theorem kx_tup (h : X.K = K := by rfl) : IxR X (rIxT K) := by subst h; exact ix_tup
theorem ksl_list (h : X.K = K := by rfl) : SlR X (rSlL K) := by subst h; exact sl_list
theorem ksl_tup (h : X.K = K := by rfl) : SlR X (rSlF K) := by subst h; exact sl_tupF
def rLenK (K : PySem.W.Frag) : List V → Hp → VK → Prop := fun xs H Q => ∃ p ys, xs = [.ref p] ∧ (SqL K H p ys ∨ SqT K H p ys) ∧ Q (.int ys.length) H
theorem kc_len (h : X.K = K := by rfl) : CallR X (.builtin "len") (rLenK K) := by subst h; exact call_len_seq
theorem kc_tuple (h : X.K = K := by rfl) : CallR X (.type "tuple") (rTupF K) := by subst h; exact call_tupF
def rListK (K : PySem.W.Frag) : List V → Hp → VK → Prop := fun xs H Q => ∃ p ys, xs = [.ref p] ∧ (SqL K H p ys ∨ SqT K H p ys) ∧ ∀ l, H l = none → Q (.ref l) (upd H l (.lst ys))
theorem kc_list (h : X.K = K := by rfl) : CallR X (.type "list") (rListK K) := by
  subst h
  intro pins s σ H xs us Q I r hh
  exact call_list_of pins s σ H xs us Q I r hh
theorem kc_isi (h : X.K = K := by rfl) : CallR X (.builtin "isinstance") (rIsi K) := by subst h; exact call_isi
theorem kc_sum (hc : X.calm = true) (h : X.K = K := by rfl) : CallR X (.builtin "sum") (rSum K) := by subst h; exact cr_sum hc
theorem kc_min (hc : X.calm = true) (h : X.K = K := by rfl) : CallR X (.builtin "min") (rMin K) := by subst h; exact cr_min hc
theorem kc_max (hc : X.calm = true) (h : X.K = K := by rfl) : CallR X (.builtin "max") (rMax K) := by subst h; exact cr_max hc
theorem ko_eq (hu : X.A.units + 64 < cLine) (h : X.K = K := by rfl) : OpR X (compareOp .Eq) (rEqD K) := by subst h; exact op_eqD hu
theorem ko_ne (hu : X.A.units + 64 < cLine) (h : X.K = K := by rfl) : OpR X (compareOp .NotEq) (rNeD K) := by subst h; exact op_neD hu
theorem ko_in (h : X.K = K := by rfl) : OpR X (compareOp .In) (rIn K false) := by subst h; exact op_in_seq
theorem ko_notIn (h : X.K = K := by rfl) : OpR X (compareOp .NotIn) (rIn K true) := by subst h; exact op_notIn_seq
theorem ko_cat (h : X.K = K := by rfl) : OpR X (binaryOp .Add) (rCatF K) := by subst h; exact op_catF
theorem ko_rep (h : X.K = K := by rfl) : OpR X (binaryOp .Mult) (rRepF K) := by subst h; exact op_repF
variable {o e : Expr} {es : List Expr} {to : TE} {t : TA} {name : Str} {apos cpos : Pos} {T id : String} {r : V → List V → Hp → VK → Prop}
theorem km_bm0 (pa : PlainAttrs T) (slot : Slot T name id) (hty : typeOf (.builtin id) = pure (.type "method_descriptor")) (hm : MtR X id r) (ho : PE X o to)
    (hbase : attributeBase o name X.env (eval o X.env) = eval o X.env := by rfl) (hline : (apos.endLine == cpos.line) = true := by rfl) (h : X.K = K := by rfl) : PE X (.Call (.Attribute o name apos) [] [] cpos) (tBM0 K T r to) := by
  subst h
  exact pe_bm0 pa slot hty hm ho hbase hline
theorem km_bm (pa : PlainAttrs T) (slot : Slot T name id) (hty : typeOf (.builtin id) = pure (.type "method_descriptor")) (hm : MtR X id r) (ho : PE X o to) (ha : PA X (e :: es) t)
    (hbase : attributeBase o name X.env (eval o X.env) = eval o X.env := by rfl)
    (hfew : ((backTo cpos (starEach (e :: es) X.env)).all (fun x => !x.1) && (backToKw cpos (keywordEach [] X.env)).all (fun x => x.1.isSome)
      && decide ((e :: es).length + ([] : List Keyword).length + (if ([] : List Keyword).isEmpty then 0 else 1) < 30)) = true := by rfl)
    (hline : (apos.endLine == cpos.line) = true := by rfl) (hs : starEach (e :: es) X.env = (false, eval e X.env) :: starEach es X.env := by rfl) (hplain : (backTo cpos (starEach es X.env)).any (·.1) = false := by rfl) (h : X.K = K := by rfl) :
    PE X (.Call (.Attribute o name apos) (e :: es) [] cpos) (tBM K T r to t) := by
  subst h
  exact pe_bm pa slot hty hm ho ha hbase hfew hline hs hplain
theorem km_count (ho : PE X o to) (ha : PA X (e :: es) t)
    (hbase : attributeBase o "count" X.env (eval o X.env) = eval o X.env := by rfl)
    (hfew : ((backTo cpos (starEach (e :: es) X.env)).all (fun x => !x.1) && (backToKw cpos (keywordEach [] X.env)).all (fun x => x.1.isSome)
      && decide ((e :: es).length + ([] : List Keyword).length + (if ([] : List Keyword).isEmpty then 0 else 1) < 30)) = true := by rfl)
    (hline : (apos.endLine == cpos.line) = true := by rfl) (hs : starEach (e :: es) X.env = (false, eval e X.env) :: starEach es X.env := by rfl) (hplain : (backTo cpos (starEach es X.env)).any (·.1) = false := by rfl) (h : X.K = K := by rfl) :
    PE X (.Call (.Attribute o "count" apos) (e :: es) [] cpos) (tTM K (rTCnt K) to t) := by
  subst h
  exact pe_tm PySem.F.plainAttrs_tuple PySem.F.slot_tuple_count PySem.F.type_tuple_count mt_tcount ho ha hbase hfew hline hs hplain
end
end Own

/-! Where draws come from, changed. -/
namespace Own
open PySem PySem.Spec PyProof.Rows L2 Evl
section
variable {a l : Addr} {R H : Hp}
/-- its three things -/
structure DealIs (H : Hp) (a l : Addr) (cs : List Int) (m c : Int) : Prop where
  ha : H a = some (.lst [.ref l, .int m, .int c])
  hl : H l = some (.lst (cs.map V.int))
  pos : ∀ x ∈ cs, 0 ≤ x
  m0 : 0 ≤ m
  m1 : m < 2147483647
  c0 : 0 ≤ c
  len : cs.length ≤ 100
theorem DealIs.deal {cs : List Int} {m c : Int} (d : DealIs H a l cs m c) (n : a ≠ l) : Deal H a l := ⟨n, cs, m, c, d.ha, d.hl, d.pos, d.m0, d.m1, d.c0, d.len⟩
theorem Deal.is (d : Deal H a l) : ∃ cs m c, DealIs H a l cs m c := by
  obtain ⟨_, cs, m, c, h1, h2, h3, h4, h5, h6, h7⟩ := d
  exact ⟨cs, m, c, h1, h2, h3, h4, h5, h6, h7⟩
theorem DealIs.ex {cs : List Int} {m c : Int} {H1 : Hp} (d : DealIs H a l cs m c) (e : Ex H H1) : DealIs H1 a l cs m c := ⟨e _ _ d.ha, e _ _ d.hl, d.pos, d.m0, d.m1, d.c0, d.len⟩
/-- the known heap, the deal at a and l as said -/
structure Wd (a l : Addr) (R H : Hp) (cs : List Int) (m c : Int) : Prop where
  ex : Ex R H
  na : R a = none
  nl : R l = none
  ne : a ≠ l
  is : DealIs H a l cs m c
theorem Wd.wl {cs : List Int} {m c : Int} (w : Wd a l R H cs m c) : Wl a l R H := ⟨w.ex, w.na, w.nl, w.is.deal w.ne⟩
theorem Wl.wd (w : Wl a l R H) : ∃ cs m c, Wd a l R H cs m c := by
  obtain ⟨cs, m, c, d⟩ := w.deal.is
  exact ⟨cs, m, c, w.ex, w.na, w.nl, w.deal.ne, d⟩
theorem Wd.keep {cs : List Int} {m c : Int} {H1 : Hp} (w : Wd a l R H cs m c) (e : Ex H H1) : Wd a l R H1 cs m c := ⟨w.ex.trans e, w.na, w.nl, w.ne, w.is.ex e⟩
theorem ex_side {R H : Hp} {p : Addr} {o : HO} (e : Ex R H) (n : R p = none) : Ex R (upd H p o) := fun b u h => by
  have : b ≠ p := fun z => by
    rw [z, n] at h
    cases h
  rw [upd_ne this]
  exact e b u h
theorem Wd.cells {cs ds : List Int} {m c : Int} (w : Wd a l R H cs m c) (hp : ∀ x ∈ ds, 0 ≤ x) (hz : ds.length ≤ 100) : Wd a l R (upd H l (.lst (ds.map V.int))) ds m c :=
  ⟨ex_side w.ex w.nl, w.na, w.nl, w.ne, by rw [upd_ne w.ne]; exact w.is.ha, upd_same, hp, w.is.m0, w.is.m1, w.is.c0, hz⟩
theorem Wd.nums {cs : List Int} {m c m' c' : Int} (w : Wd a l R H cs m c) (h0 : 0 ≤ m') (h1 : m' < 2147483647) (h2 : 0 ≤ c') : Wd a l R (upd H a (.lst [.ref l, .int m', .int c'])) cs m' c' :=
  ⟨ex_side w.ex w.na, w.na, w.nl, w.ne, upd_same, by rw [upd_ne w.ne.symm]; exact w.is.hl, w.is.pos, h0, h1, h2, w.is.len⟩
/-- the deal as it is made -/
def spDeal (K : PySem.W.Frag) : Sp := fun vs H Q _ => ∃ (a : Addr) (ns : List Int) (salt : Int), vs = [.ref a, .int salt] ∧ SqL K H a (ns.map V.int) ∧ 0 ≤ salt ∧ salt ≤ 1000 ∧ ∀ (d l : Addr) (H' : Hp), Wl d l H H' → Q (.ref d) H'
end
theorem cut_ints (ns : List Int) (lo hi : Option Int) : ∃ ms : List Int, cutV (ns.map V.int) lo hi = ms.map V.int ∧ ms.length ≤ ns.length := by
  refine ⟨(ns.drop (HT.sIx (ns.map V.int).length 0 lo)).take (HT.sIx (ns.map V.int).length (ns.map V.int).length hi - HT.sIx (ns.map V.int).length 0 lo), ?_, ?_⟩
  · unfold cutV
    rw [List.map_take, List.map_drop]
  · rw [List.length_take, List.length_drop]
    omega
theorem cut_len63 (ns : List Int) : (cutV (ns.map V.int) none (some 63)).length ≤ 63 := by
  unfold cutV
  rw [List.length_take]
  have : HT.sIx (ns.map V.int).length (ns.map V.int).length (some (63 : Int)) ≤ 63 := by
    rw [show (63 : Int) = ((63 : Nat) : Int) from rfl, HT.sIx_nat]
    exact Nat.min_le_left _ _
  omega
/-- the ints that a condition leaves -/
theorem given_ints (n : Nat) (f : Nat → Bool) (g : Nat → Int) : given n f (fun i => V.int (g i)) = (((List.range n).filter f).map g).map V.int := by
  unfold given
  rw [List.map_map]
  rfl
theorem while_split {c : TT} {tb : TS} {D : Ends} {σ : L2.St} {H : Hp} (W : Nat → L2.St → Hp → Prop) (End : L2.St → Hp → Prop) (h0 : ∃ m, W m σ H) (after : ∀ σ H, End σ H → D.nx σ H)
    (turn : ∀ (nx : L2.St → Hp → Prop), (∀ σ H, End σ H → nx σ H) → ∀ m σ H, W m σ H → c σ H fun b H1 => if b = true then ∃ N : L2.St → Hp → Prop, (∀ σ' H', N σ' H' → ∃ m', m' < m ∧ W m' σ' H') ∧ tb { D with nx := N, ct := N, bk := D.nx } σ H1 else nx σ H1) :
    tWhile c tb D σ H := ⟨W, h0, fun m σ H w => turn D.nx after m σ H w⟩
theorem sh_ints (cs : List Int) : SeqAt.shaped (.list (cs.map PyData.int)) = true := PySem.W.ke_shaped_ints cs
theorem ne_nil {K : PySem.W.Frag} {H : Hp} {l z : Addr} {cs : List Int} {Q : VK} (hl : H l = some (.lst (cs.map V.int))) (hz : H z = some (.lst [])) (q : Q (.bl (!cs.isEmpty)) H) : rNeD K (.ref l) (.ref z) H Q :=
  ⟨.list (cs.map PyData.int), .list [], .lst (sq_of hl) (dp_ints cs), .lst (sq_of hz) .nil, sh_ints cs, rfl, by rw [eqv_ints_nil]; exact q⟩
theorem at_last (ds : List Int) (x : Int) : atI ((ds ++ [x]).map V.int) (-1) = some (.int x) := by
  unfold atI ixN
  rw [if_neg (by decide), List.length_map, List.length_append, if_pos (by rw [List.length_singleton]; omega)]
  show ((ds ++ [x]).map V.int)[(-1 + ((ds.length + [x].length : Nat) : Int)).toNat]? = _
  rw [show (-1 + ((ds.length + [x].length : Nat) : Int)).toNat = ds.length by rw [List.length_singleton]; omega, List.getElem?_map, List.getElem?_append_right (Nat.le_refl _), Nat.sub_self]
  rfl
theorem pop_last (ds : List Int) (x : Int) : ((ds ++ [x]).map V.int)[((ds ++ [x]).map V.int).length - 1]? = some (.int x) ∧ ((ds ++ [x]).map V.int).dropLast = ds.map V.int := by
  constructor
  · rw [List.length_map, List.length_append, List.length_singleton, Nat.add_sub_cancel, List.getElem?_map, List.getElem?_append_right (Nat.le_refl _), Nat.sub_self]
    rfl
  · rw [List.map_append]
    exact List.dropLast_concat
theorem cases_last (cs : List Int) : cs = [] ∨ ∃ ds x, cs = ds ++ [x] := by
  rcases List.eq_nil_or_concat cs with h | ⟨ds, x, h⟩
  · exact .inl h
  · exact .inr ⟨ds, x, by rw [h, List.concat_eq_append]⟩
theorem not_empty (ds : List Int) (x : Int) : (!(ds ++ [x]).isEmpty) = true := by
  cases ds <;> rfl
/-- recursion of a def: what it promises at a depth; at none nothing -/
def spSameR (K : PySem.W.Frag) : Nat → Sp
  | 0 => fun _ _ _ _ => False
  | n + 1 => spSame K n
end Own

/-! What is known and where draws come from, with tuples beside; texts of one figure many times. -/
namespace Own
open PySem PySem.Spec PyProof.Rows L2 Evl
section
variable {a l p : Addr} {R R1 H H1 : Hp} {K : PySem.W.Frag} {xs : List V} {Q : VK}
/-- less is known -/
theorem Wl.weak (w : Wl a l R1 H) (e : Ex R R1) : Wl a l R H := ⟨e.trans w.ex, fresh_back e w.na, fresh_back e w.nl, w.deal⟩
theorem Tp.ne (h : Tp K H p xs) (w : Deal H a l) : (p ≠ a ∧ p ≠ l) ∨ ∀ H', Tp K H' p xs := by
  rcases h with ⟨o, h1, h2⟩ | h
  · obtain ⟨_, cs, m, c, g1, g2, _⟩ := w
    refine .inl ⟨fun e => ?_, fun e => ?_⟩
    · subst e
      rw [h2] at g1
      cases g1
    · subst e
      rw [h2] at g2
      cases g2
  · exact .inr fun _ => .inr h
/-- a tuple that came beside is known from then on -/
theorem Wl.tp (w : Wl a l R H) (e : Ex H H1) (h : Tp K H1 p xs) : ∃ R1, Ex R R1 ∧ Wl a l R1 H1 ∧ Tp K R1 p xs := by
  obtain ⟨R1, e1, w1, m⟩ := w.more e
  refine ⟨R1, e1, w1, ?_⟩
  rcases h.ne w1.deal with ⟨n1, n2⟩ | h'
  · rcases h with ⟨o, h1, h2⟩ | h
    · exact .inl ⟨o, h1, m _ _ n1 n2 h2⟩
    · exact .inr h
  · exact h' _
/-- a new tuple, and what was known stays -/
def RetW (K : PySem.W.Frag) (a l : Addr) (R : Hp) (xs : List V) (Q : VK) : Prop := ∀ p R1 H1, Ex R R1 → Wl a l R1 H1 → Tp K R1 p xs → Q (.ref p) H1
theorem RetW.ret (k : RetW K a l R xs Q) (w : Wl a l R H) : RetU K xs H Q := fun p H2 e h => by
  obtain ⟨R1, e1, w1, t⟩ := w.tp e h
  exact k p R1 H2 e1 w1 t
theorem RetW.more (k : RetW K a l R xs Q) (e : Ex R R1) : RetW K a l R1 xs Q := fun p R2 H2 e2 w t => k p R2 H2 (e.trans e2) w t
end
/-! ### (x,) * n and t + u, with what they give -/
theorem rep_flat {α : Type} (n : Nat) (x : α) : (List.replicate n [x]).flatten = List.replicate n x := by
  induction n with
  | zero => rfl
  | succ n ih => rw [List.replicate_succ, List.flatten_cons, ih]; rfl
theorem rep_one {K : PySem.W.Frag} {x : V} {n : Int} {H : Hp} {Q : VK} (h0 : -1000 ≤ n) (h1 : n ≤ 1000) (k : RetU K (List.replicate n.toNat x) H Q) : NewT [x] H (fun v H1 => rRepF K v (.int n) H1 Q) := by
  intro p o hp ho
  refine ⟨p, n, [x], rfl, rfl, (Tp.of ho upd_same).sq, h0, h1, by show 1 ≤ 1000; omega, fun e => ?_, fun _ e => ?_⟩
  · rcases e with e | rfl
    · cases e
    · exact k p _ (Ex.new hp) (Tp.of ho upd_same)
  · rw [rep_flat]
    exact k.new (Ex.new hp)
theorem cat_ret {K : PySem.W.Frag} {a b : Addr} {xs ys : List V} {H H0 : Hp} {Q : VK} (ha : Tp K H a xs) (hb : Tp K H b ys) (hz : xs.length + ys.length ≤ sizeLine) (e : Ex H0 H) (k : RetU K (xs ++ ys) H0 Q) : rCatF K (.ref a) (.ref b) H Q :=
  ⟨a, b, xs, ys, rfl, rfl, ha.sq, hb.sq, hz, fun h => by
    subst h
    exact k b H e hb, fun _ h => by
    subst h
    rw [List.append_nil] at k
    exact k a H e ha, fun _ _ => k.new e⟩
/-! ### a figure many times -/
theorem rep_arr (a : Array Nat) : ∀ (n : Nat) (acc : Array Nat), ((List.replicate n a).foldl (· ++ ·) acc).toList = acc.toList ++ (List.replicate n a.toList).flatten
  | 0, acc => by simp
  | n + 1, acc => by
    rw [List.replicate_succ, List.foldl_cons, rep_arr a n, List.replicate_succ, List.flatten_cons, Array.toList_append, List.append_assoc]
theorem repS_list (a : Str) (n : Nat) : (repS a n).cps.toList = (List.replicate n a.cps.toList).flatten := by
  have := rep_arr a.cps n #[]
  exact this
theorem fig_int {a : Str} {c n : Nat} (ha : a.cps.toList = [c]) (h0 : 48 ≤ c) (h1 : c ≤ 57) (hn : 0 < n) (hz : n ≤ 4300) : ∃ z : Int, PySem.intText? (repS a n) = some z ∧ (repS a n).length ≤ 4300 ∧ (numSeenOf (repS a n)).length = (repS a n).length := by
  have e : (repS a n).cps.toList = List.replicate n c := by rw [repS_list, ha, rep_flat]
  have el : (repS a n).length = n := by
    have := congrArg List.length e
    rw [List.length_replicate] at this
    exact this
  have hd : ∀ x ∈ (repS a n).cps.toList, x = c := fun x hx => by
    rw [e] at hx
    exact List.eq_of_mem_replicate hx
  refine ⟨_, intText_digits ?_ ?_ (by omega), by omega, ?_⟩
  · intro x hx
    rw [hd x hx]
    exact ⟨h0, h1⟩
  · rw [e]
    intro h
    have := congrArg List.length h
    rw [List.length_replicate] at this
    simp at this
    omega
  · rw [(numText_signs (x := repS a n) fun x hx => .inr (by rw [hd x hx]; exact ⟨h0, h1⟩)).2]
    rfl
end Own

/-! range(n) as a list; tuples that a comprehension makes; plain laws of rows. -/
namespace Own
open PySem PySem.Spec PyProof.Rows L2 Evl
theorem newL {H : Hp} {xs : List V} {Q : VK} (k : ∀ m H1, Ex H H1 → H m = none → H1 m = some (.lst xs) → Q (.ref m) H1) : ∀ m, H m = none → Q (.ref m) (upd H m (.lst xs)) := fun m hm => k m _ (Ex.new hm) hm upd_same
theorem rg_len (n : Nat) : (rgV 0 (n : Int)).length = n := by
  rw [rgV_length]
  omega
theorem rg_at {n i : Nat} {x : V} (h : (rgV 0 (n : Int))[i]? = some x) : x = .int (i : Int) ∧ i < n := by
  unfold rgV at h
  rw [List.getElem?_map] at h
  by_cases hi : i < ((n : Int) - 0).toNat
  · rw [List.getElem?_range hi] at h
    have := Option.some.inj h
    refine ⟨?_, by omega⟩
    rw [← this]
    exact congrArg V.int (by omega)
  · rw [List.getElem?_eq_none (by rw [List.length_range]; omega)] at h
    cases h
theorem rg_ok {n : Nat} (h : n ≤ 10000) : RgOk 0 (n : Int) := RgOk.of_le (by decide) (by omega) (by decide) (by omega)
/-- ints made from ints, place by place -/
theorem range_of {n : Nat} (f : Nat → Int) {ys : List Int} (h1 : ys.length = n) (h : ∀ i, i < n → f i = ys.getD i 0) : (List.range n).map (fun i => V.int (f i)) = ys.map V.int := by
  subst h1
  rw [← range_map 0 V.int ys]
  apply List.map_congr_left
  intro i hi
  rw [h i (List.mem_range.mp hi)]
theorem getD_zip {f : Int → Int → Int} {xs ys : List Int} {i : Nat} (h1 : i < xs.length) (h2 : i < ys.length) : (List.zipWith f xs ys).getD i 0 = f (xs.getD i 0) (ys.getD i 0) := by
  simp only [List.getD_eq_getElem?_getD, List.getElem?_zipWith, List.getElem?_eq_getElem h1, List.getElem?_eq_getElem h2]
  rfl
theorem getD_map {f : Int → Int} {xs : List Int} {i : Nat} (h1 : i < xs.length) : (xs.map f).getD i 0 = f (xs.getD i 0) := by
  simp only [List.getD_eq_getElem?_getD, List.getElem?_map, List.getElem?_eq_getElem h1]
  rfl
theorem less_is (x y q : Int) : (x + 2 * q - y) % q = (x - y) % q := by
  rw [show x + 2 * q - y = (x - y) + q * 2 by omega, Int.add_mul_emod_self_left]
theorem turned_is (y q : Int) : (q - y) % q = y * (-1 % q) % q := by
  have h : y * (-1 % q) % q = y * -1 % q := by
    rw [Int.mul_emod y (-1 % q) q, Int.emod_emod_of_dvd _ (Int.dvd_refl q), ← Int.mul_emod]
  rw [h, show q - y = y * -1 + q * 1 by omega, Int.add_mul_emod_self_left]
end Own
namespace Own
open PySem PySem.Spec PyProof.Rows L2 Evl
theorem given_congr {n : Nat} {f g : Nat → Bool} {v : Nat → V} (h : ∀ i, i < n → f i = g i) : given n f v = given n g v := by
  unfold given
  rw [List.filter_congr fun i hi => h i (List.mem_range.mp hi)]
theorem range_getD (xs : List Int) : (List.range xs.length).map (fun i => xs.getD i 0) = xs := by
  have := range_map (0 : Int) (id : Int → Int) xs
  rw [List.map_id] at this
  exact this
theorem given_count (xs : List Int) (p : Int → Bool) (v : Nat → V) : (given xs.length (fun i => p (xs.getD i 0)) v).length = xs.countP p := by
  unfold given
  rw [List.length_map, ← List.countP_eq_length_filter]
  conv => rhs; rw [← range_getD xs, List.countP_map]
  rfl
theorem given_weight (xs : List Int) (v : Nat → V) : ((given xs.length (fun i => decide (xs.getD i 0 ≠ 0)) v).length : Int) = (xs.length : Int) - (xs.count 0 : Nat) := by
  rw [given_count xs (fun x => decide (x ≠ 0)) v]
  have h1 := List.length_eq_countP_add_countP (fun x : Int => x == 0) (l := xs)
  have h2 : xs.count 0 = xs.countP (fun x => x == 0) := rfl
  have h3 : xs.countP (fun x => decide (x ≠ 0)) = xs.countP (fun a => decide ¬ (a == 0) = true) := by
    apply List.countP_congr
    intro x _
    simp
  omega
end Own

/-! Calls that may raise, by name; a figure many times, its worth. -/
namespace Own
open PySem PySem.Spec PyProof.Rows L2 Evl
section
variable {X : Cx} {CX : CXT} {k : Nat} {ps ks : List Str} {sp : Sp} {E : L2.St → XK} {x : Str} {st : Stmt} {p pos : Pos} {e : Expr} {es : List Expr} {t tk : TA}
theorem pe_callSF (F : Fn X.prog X.w X.K X.mg X.base CX k x st ps sp) (hr : Room k X.A) (hg : Gl X x) (hx : ∀ σ, PassesAt CX X σ (E σ)) (ha : PA X (e :: es) t) (hdb : (x == ("__debug__" : Str)) = false := by decide)
    (he : starEach (e :: es) X.env = (false, eval e X.env) :: starEach es X.env := by rfl) (hpl : (backTo pos (starEach es X.env)).any (·.1) = false := by rfl) :
    PE X (.Call (.Name x p) (e :: es) [] pos) (tCallS sp E t) := by
  obtain ⟨f, fd, h1, h2, h3, h4⟩ := F
  exact pe_callS h4 hr hg h1 h2.kp h3 hx ha hdb he hpl
end
theorem fig_val {a : Str} {c n : Nat} (ha : a.cps.toList = [c]) (h0 : 48 ≤ c) (h1 : c ≤ 57) (hn : 0 < n) (hz : n ≤ 4300) : PySem.intText? (repS a n) = some ((NumText.digitsVal (List.replicate n c) : Nat) : Int) ∧ (repS a n).length ≤ 4300 ∧ (numSeenOf (repS a n)).length = (repS a n).length := by
  have e : (repS a n).cps.toList = List.replicate n c := by rw [repS_list, ha, rep_flat]
  obtain ⟨z, z1, z2, z3⟩ := fig_int ha h0 h1 hn hz
  refine ⟨?_, z2, z3⟩
  rw [← e]
  refine intText_digits ?_ ?_ z2
  · intro x hx
    rw [e] at hx
    rw [List.eq_of_mem_replicate hx]
    exact ⟨h0, h1⟩
  · rw [e]
    intro h
    have := congrArg List.length h
    rw [List.length_replicate] at this
    simp at this
    omega
theorem fold_le : ∀ (l : List Nat) (acc : Nat), acc ≤ l.foldl (fun acc c => acc * 10 + (c - 48)) acc
  | [], _ => Nat.le_refl _
  | c :: r, acc => Nat.le_trans (by omega) (fold_le r (acc * 10 + (c - 48)))
theorem threes (n : Nat) : 3333 ≤ NumText.digitsVal (List.replicate (n + 4) 51) := fold_le (List.replicate n 51) 3333
theorem fig_three {n : Nat} (h : 4 ≤ n) (hz : n ≤ 4300) : ∃ z : Int, 3333 ≤ z ∧ PySem.intText? (repS "3" n) = some z ∧ (repS "3" n).length ≤ 4300 ∧ (numSeenOf (repS "3" n)).length = (repS "3" n).length := by
  obtain ⟨m, rfl⟩ : ∃ m, n = m + 4 := ⟨n - 4, by omega⟩
  obtain ⟨i1, i2, i3⟩ := fig_val (a := "3") (c := 51) (n := m + 4) (by decide +kernel) (by decide) (by decide) (by omega) hz
  exact ⟨_, Int.ofNat_le.mpr (threes m), i1, i2, i3⟩
end Own

namespace Own
open PySem PySem.Spec PyProof.Rows L2 Evl
section
variable {K : PySem.W.Frag} {H R : Hp} {Q : VK} {a l p : Addr} {xs : List V}
theorem rep_id {α : Type} (xs : List α) : (List.replicate 1 xs).flatten = xs := by simp
theorem rep_nil {α : Type} (n : Nat) : (List.replicate n ([] : List α)).flatten = [] := by
  induction n with
  | zero => rfl
  | succ n ih => rw [List.replicate_succ, List.flatten_cons, ih]; rfl
theorem rep_ret {k : Int} (h : Tp K H l xs) (h0 : -1000 ≤ k) (h1 : k ≤ 1000) (hz : xs.length ≤ 1000) (q : RetU K (List.replicate k.toNat xs).flatten H Q) : rRepF K (.ref l) (.int k) H Q :=
  ⟨l, k, xs, rfl, rfl, h.sq, h0, h1, hz, fun e => by
    rcases e with rfl | rfl
    · rw [rep_nil] at q
      exact q l H (Ex.refl _) h
    · rw [show (1 : Int).toNat = 1 from rfl, rep_id] at q
      exact q l H (Ex.refl _) h, fun _ _ => q.new (Ex.refl _)⟩
theorem sl_ret {lo hi : Option Int} (h : Tp K H l xs) (q : RetU K (cutV xs lo hi) H Q) : rSlF K (.ref l) lo hi H Q :=
  ⟨l, xs, rfl, h.sq, fun e => by
    have : cutV xs lo hi = xs := by
      unfold cutV
      rw [e.1, e.2, List.drop_zero, Nat.sub_zero, List.take_length]
    rw [this] at q
    exact q l H (Ex.refl _) h, fun _ => q.new (Ex.refl _)⟩
theorem cut_from1 (xs : List V) : cutV xs (some 1) none = xs.drop 1 := by
  unfold cutV
  rw [show (1 : Int) = ((1 : Nat) : Int) from rfl, HT.sIx_nat, HT.sIx_none]
  cases xs with
  | nil => rfl
  | cons x r =>
    rw [show min 1 (x :: r).length = 1 by simp, List.take_of_length_le (by rw [List.length_drop]; omega)]
theorem Deal.off (d : Deal H a l) (h : H p = none) : p ≠ a ∧ p ≠ l := ⟨fun e => d.dom.1 (e ▸ h), fun e => d.dom.2 (e ▸ h)⟩
theorem Tp.mut {wr : Addr} {ys zs : List V} (h : Tp K R p xs) (hw : R wr = some (.lst ys)) : Tp K (upd R wr (.lst zs)) p xs := by
  rcases h with ⟨o, h1, h2⟩ | h
  · have : p ≠ wr := fun e => by
      rw [e, hw] at h2
      cases h2
    exact .inl ⟨o, h1, by rw [upd_ne this]; exact h2⟩
  · exact .inr h
/-- kinds, when a list is changed -/
theorem Vk.mut {wr : Addr} {ys zs : List V} {v : V} {T : String} (h : Vk K R v T) (hw : R wr = some (.lst ys)) : Vk K (upd R wr (.lst zs)) v T := by
  cases h with
  | non => exact .non
  | bl b => exact .bl b
  | int i => exact .int i
  | str z => exact .str z
  | tup h => exact .tup (h.mut hw)
  | lst h =>
    rename_i p xs
    by_cases e : p = wr
    · subst e
      exact .lst upd_same
    · exact .lst (by rw [upd_ne e]; exact h)
theorem least : ∀ ps : List Int, ps ≠ [] → ∃ m, m ∈ ps ∧ ∀ y, y ∈ ps → m ≤ y
  | [], h => (h rfl).elim
  | [x], _ => ⟨x, by simp, fun y hy => by rw [List.mem_singleton.mp hy]; exact Int.le_refl _⟩
  | x :: z :: r, _ => by
    obtain ⟨m, h1, h2⟩ := least (z :: r) (by simp)
    by_cases c : x ≤ m
    · refine ⟨x, by simp, fun y hy => ?_⟩
      rcases List.mem_cons.mp hy with rfl | h
      · exact Int.le_refl _
      · exact Int.le_trans c (h2 y h)
    · refine ⟨m, List.mem_cons_of_mem _ h1, fun y hy => ?_⟩
      rcases List.mem_cons.mp hy with rfl | h
      · omega
      · exact h2 y h
theorem eqv_tup_nil (ns : List Int) : PyData.eqv (.tuple (ns.map PyData.int)) (.tuple []) = ns.isEmpty := by
  cases ns <;> rfl
theorem sh_tup_ints (ns : List Int) : SeqAt.shaped (.tuple (ns.map PyData.int)) = true := by
  simp [SeqAt.shaped, PyData.canLay0, PyData.depth, PySem.W.ke_canLayAll0, PySem.W.ke_depthAll]
theorem tp_known (h : Tp K H p xs) (d : Deal H a l) (known : ∀ b o, b ≠ a → b ≠ l → H b = some o → R b = some o) : Tp K R p xs := by
  rcases h.ne d with ⟨n1, n2⟩ | h'
  · rcases h with ⟨o, h1, h2⟩ | h
    · exact .inl ⟨o, h1, known _ _ n1 n2 h2⟩
    · exact .inr h
  · exact h' _
theorem if_skip {c : TT} {t : TS} {D : Ends} {σ : L2.St} (J : Hp → Prop) (after : ∀ H', J H' → D.nx σ H') (h : ∀ nx : Hp → Prop, (∀ H', J H' → nx H') → c σ H fun b H1 => if b = true then t D σ H1 else nx H1) : tIfS c t tNext D σ H := h _ after
end
end Own

/-! The head's facts, with the statics beside, and one's own exceptions. -/
namespace Own
open PySem PySem.Spec PyProof.Rows L2
open He (ga ma fAd eqO eqO_ok ba)
abbrev ExW : Type := Option (Str × Str × Arguments × FuncBody × Scope × Addr × List Str × Addr)
def exW (K : PySem.W.Frag) (x : Str) : ExW := match K.lookup (ma K (ga K x) "__init__") with
  | some ⟨_, _, .func fd, _⟩ => some (fd.name, fd.qualname, fd.params, fd.body, fd.scope, fd.globals, fd.closure.map (·.1), fd.builtins)
  | _ => none
/-- an own exception: its name, its base's name, its field, its __init__ -/
structure ExD where
  name : Str
  base : Str
  field : Str
  qual : Str
  params : Arguments
  body : List Stmt
  scope : Scope
def ExD.val (e : ExD) : ExW := some ("__init__", e.qual, e.params, .stmts e.body, e.scope, mainGlobals, ["__class__"], builtinsNs)
/-- a class one above another, both errors -/
def clsB (K : PySem.W.Frag) (C M : Addr) : Bool := match K.lookup C with
  | some ⟨.type "type", _, .cls cd, sl⟩ => (match sl.toList with
    | [_, _, _, _, some (.builtin n), _] => decide (cd.mro = .ref C :: .ref M :: PySem.OwX.exT) && decide (n = "Exception.__new__") && cd.hasDict && !cd.hasDel
    | _ => false)
  | _ => false
theorem clsB_ok {K : PySem.W.Frag} {C M : Addr} (h : clsB K C M = true) : ∃ nm q N bs sn sub ab col dd k0 k1 k2 k3 k5, K.lookup C = some (excClassObj nm q C N bs (.ref M :: PySem.OwX.exT) true sn sub ab col dd k0 k1 k2 k3 k5 "Exception.__new__") := by
  unfold clsB at h
  split at h
  · rename_i dd cd sl ho
    split at h
    · rename_i k0 k1 k2 k3 n k5 hs
      simp only [Bool.and_eq_true, decide_eq_true_eq, Bool.not_eq_true'] at h
      obtain ⟨⟨⟨hm, rfl⟩, hd⟩, hdel⟩ := h
      obtain ⟨nm, bs, mro, ns, qn, hdd, sn, sub, ab, col, del⟩ := cd
      dsimp only at hm hd hdel
      subst hm hd hdel
      have hsl : sl = #[k0, k1, k2, k3, some (.builtin "Exception.__new__"), k5] := by
        obtain ⟨l⟩ := sl
        simp only at hs
        rw [hs]
      subst hsl
      exact ⟨nm, qn, ns, bs, sn, sub, ab, col, dd, k0, k1, k2, k3, k5, ho⟩
    · cases h
  · cases h
/-- its __init__'s code, its cell -/
def initB (K : PySem.W.Frag) (file qual : Str) (C fI : Addr) : Bool := match K.lookup fI with
  | some ⟨_, _, .func fd, _⟩ => (match fd.defaults, fd.kwdefaults, fd.code, fd.closure with
    | .none, .none, .ref cda, [(_, cc)] => PySem.W.codeIn K (.ref cda) qual && (match K.lookup cda with
      | some ⟨_, _, .fields vs, _⟩ => (match (vs[2]? : Option Value) with
        | some (.str z _) => decide (z = file)
        | _ => false)
      | _ => false) && (match K.lookup cc with
      | some ⟨_, _, .cell (some (.ref D)), _⟩ => decide (D = C)
      | _ => false)
    | _, _, _, _ => false)
  | _ => false
theorem initB_ok {K : PySem.W.Frag} {file : Str} {C : Addr} {x : Str} {e : ExD} (h : initB K file e.qual C (ma K (ga K x) "__init__") = true) (w : exW K x = e.val) :
    ∃ (oc : Value) (od : Option Addr) (doc pm : Value) (an : Option Addr) (cda cc : Addr) (ct : Value) (osl : Array (Option Value)) (ccl cl : Value) (cdd cld : Option Addr) (ccs csl : Array (Option Value)) (vs : Array Value) (tf : Tok),
      K.lookup (ma K (ga K x) "__init__") = some ⟨oc, od, .func (PySem.W.ksFn "__init__" e.qual e.params e.body e.scope .none .none doc pm an (.ref cda) ct cc), osl⟩ ∧ PySem.W.codeIn K (.ref cda) e.qual = true ∧
        K.lookup cda = some ⟨ccl, cdd, .fields vs, ccs⟩ ∧ vs[2]? = some (.str file tf) ∧ K.lookup cc = some ⟨cl, cld, .cell (some (.ref C)), csl⟩ := by
  unfold initB at h
  unfold exW at w
  split at h
  · rename_i oc od fd osl ho
    rw [ho] at w
    have w2 : (some (fd.name, fd.qualname, fd.params, fd.body, fd.scope, fd.globals, fd.closure.map (·.1), fd.builtins) : ExW) = e.val := w
    obtain ⟨n1, n2, n3, n4, n5, n6, n7, n8, n9, n10, n11, n12, n13, n14, n15⟩ := fd
    dsimp only at h w2
    split at h
    · rename_i cda q cc
      rename_i e1 e2 e3 e4
      unfold ExD.val at w2
      simp only [Option.some.injEq, Prod.mk.injEq, List.map_cons, List.map_nil, List.cons.injEq, and_true] at w2
      obtain ⟨rfl, rfl, rfl, rfl, rfl, rfl, rfl, rfl⟩ := w2
      simp only [Bool.and_eq_true] at h
      obtain ⟨⟨h1, h2⟩, h3⟩ := h
      split at h2
      · rename_i ccl cdd vs ccs hc
        split at h2
        · rename_i z tf hz
          obtain rfl := of_decide_eq_true h2
          split at h3
          · rename_i cl cld D csl hcc
            obtain rfl := of_decide_eq_true h3
            exact ⟨oc, od, _, _, _, cda, cc, _, osl, ccl, cl, cdd, cld, ccs, csl, vs, tf, ho, h1, hc, hz, hcc⟩
          · cases h3
        · cases h2
      · cases h2
    · cases h
  · cases h
end Own

/-! .. the Hook, what it says. -/
namespace Own
open PySem PySem.Spec PyProof.Rows L2
open He (ga ma fAd eqO eqO_ok ba)
def ExD.ok (file : Str) (K : PySem.W.Frag) (e : ExD) : Bool :=
  clsB K (ga K e.name) (ga K e.base) && (initB K file e.qual (ga K e.name) (ma K (ga K e.name) "__init__") && (eqO (PySem.W.findIn K (.ref (ga K e.name)) "__setattr__") (some (some (.builtin "object.__setattr__"))) &&
  (eqO (PySem.W.findIn K (.ref (ga K e.name)) "__getattribute__") (some (some (.builtin "BaseException.__getattribute__"))) && (eqO (PySem.W.findIn K (.ref (ga K e.name)) "__getattr__") (some none) &&
  (eqO (PySem.W.findIn K (.ref (ga K e.name)) e.field) (some none) && (eqO (PySem.W.findIn K (.ref (ga K e.name)) "__init__") (some (some (.ref (ma K (ga K e.name) "__init__")))) &&
  (decide (PySem.W.typeIn K (.ref (ma K (ga K e.name) "__init__")) = some (.type "function")) && (PySem.W.keepIn K (.ref (ga K e.name)) && (decide (PySem.W.subIn K (.ref (ga K e.name)) (.type "BaseException") = some true) &&
  (decide (PySem.W.subIn K (.ref (ga K e.name)) (.type "Exception") = some true) && (decide (PySem.W.typeIn K (.ref (ga K e.name)) = some (.type "type")) && (PySem.W.hasDictIn K (ga K e.name) &&
  (decide (PySem.W.exmOne K (.ref (ga K e.name)) (.ref (ga K e.name)) = some true) && (eqO (PySem.W.alongIn K "__init__" (.ref (ga K e.base) :: PySem.OwX.exT)) (some (some (.builtin "Exception.__init__"))) &&
  eqO (PySem.W.nsIn K mainGlobals "super") (some none)))))))))))))))
def statB (K : PySem.W.Frag) : Bool := eqO (PySem.W.nsIn K cStatics "sys.int_max_str_digits") (some none) && eqO (PySem.W.nsIn K cStatics "thirdparty.any") (some none)
abbrev AlE : Type := He.AlD × Bool × List ExW
def obsE (file : Str) (fa : List He.Fa) (fn : List He.DefD) (ex : List ExD) (K : PySem.W.Frag) : AlE := (He.obsD fa fn K, statB K && ex.all (fun e => e.ok file K), ex.map fun e => exW K e.name)
def valE (fn : List He.DefD) (ex : List ExD) : AlE := (He.valD fn, true, ex.map ExD.val)
def SaysE (file : Str) (fa : List He.Fa) (fn : List He.DefD) (ex : List ExD) (K : PySem.W.Frag) : Prop := obsE file fa fn ex K = valE fn ex
def obsEG (file : Str) (n : Nat) (fa : List He.Fa) (fn : List He.DefD) (ex : List ExD) (g : Addr → Option Obj) : AlE := obsE file fa fn ex (He.frG g (cStatics :: He.asD g n))
def hookE (file : Str) (n : Nat) (fa : List He.Fa) (fn : List He.DefD) (ex : List ExD) : PySem.W.Hook where
  α := AlE
  obs := fun s => obsEG file n fa fn ex s.heap.get?
  val := fun _ => valE fn ex
  says := fun _ h => ∃ K : PySem.W.Frag, K.In h ∧ SaysE file fa fn ex K
  of := fun _ _ e => ⟨_, He.frG_in, e⟩
  keeps := fun _ _ _ ⟨K, hK, c⟩ k => ⟨K, PySem.W.Frag.In.keeps hK k, c⟩
theorem obsEG_eq {file : Str} {n : Nat} {fa : List He.Fa} {fn : List He.DefD} {ex : List ExD} {g : Addr → Option Obj} {s : Shared} (h : ∀ a, g a = s.heap.get? a) : obsEG file n fa fn ex g = (hookE file n fa fn ex).obs s := by
  have e : g = s.heap.get? := funext h
  rw [e] <;> rfl
section
variable {file : Str} {fa : List He.Fa} {fn : List He.DefD} {ex : List ExD} {K : PySem.W.Frag}
theorem SaysE.saysD (c : SaysE file fa fn ex K) : He.SaysD fa fn K := congrArg (fun z : AlE => z.1) c
theorem SaysE.st (c : SaysE file fa fn ex K) : statB K = true := (ba (show (statB K && ex.all (fun e => e.ok file K)) = true from congrArg (fun z : AlE => z.2.1) c)).1
theorem SaysE.ex_ (c : SaysE file fa fn ex K) (i : Nat) {e : ExD} (h : ex[i]? = some e := by rfl) : e.ok file K = true ∧ exW K e.name = e.val := by
  have c2 := (ba (show (statB K && ex.all (fun e => e.ok file K)) = true from congrArg (fun z : AlE => z.2.1) c)).2
  have e1 : ex.map (fun e => exW K e.name) = ex.map ExD.val := congrArg (fun z : AlE => z.2.2) c
  have e2 : (ex.map fun e => exW K e.name)[i]? = (ex.map ExD.val)[i]? := by rw [e1]
  rw [List.getElem?_map, List.getElem?_map, h] at e2
  exact ⟨List.all_eq_true.mp c2 e (List.mem_of_getElem? h), Option.some.inj e2⟩
theorem SaysE.digits (c : SaysE file fa fn ex K) : PySem.W.nsIn K cStatics "sys.int_max_str_digits" = some none := eqO_ok (ba c.st).1
/-- one of at -/
def exAt (nm base msg qual : Str) (p1 p2 r0 r1 r2 r3 r4 r5 q1 q2 q3 q4 : Pos) : ExD := ⟨nm, base, "at", qual, PySem.OwXat.iA p1 p2, [PySem.OwXat.sSup msg r0 r1 r2 r3 r4 r5, PySem.OwXat.sStore q1 q2 q3 q4], PySem.OwXat.iS⟩
theorem oex_at {P : Program} {nm base msg qual : Str} {p1 p2 r0 r1 r2 r3 r4 r5 q1 q2 q3 q4 : Pos} (st : statB K = true) (c : (exAt nm base msg qual p1 p2 r0 r1 r2 r3 r4 r5 q1 q2 q3 q4).ok P.main.file K = true ∧ exW K nm = (exAt nm base msg qual p1 p2 r0 r1 r2 r3 r4 r5 q1 q2 q3 q4).val)
    (top : (P.main.scope.names.lookup ("super" : Str)).isSome = false)
    (h1 : ∀ env : Env, ∃ pl : Sem Bool, eval (.Call (.Attribute (.Call (.Name "super" r0) [] [] r1) "__init__" r2) [.Constant (.str msg) 0 r3] [] r4) env = (do
        let ov ← attributeBase (.Call (.Name "super" r0) [] [] r1) "__init__" env (eval (.Call (.Name "super" r0) [] [] r1) env)
        standAt r2.atName
        let (f, first) ← holding [ov] (getMethod ov "__init__" pl)
        callWith r4 f first (backTo r4 (starEach [.Constant (.str msg) 0 r3] env)) []))
    (h2 : ∀ env : Env, swapsWith (.Call (.Attribute (.Call (.Name "super" r0) [] [] r1) "__init__" r2) [.Constant (.str msg) 0 r3] [] r4) none r5.line env = pure false)
    (h3 : ∀ env : Env, swapsWith (.Name "at" q3) (some (.Attribute (.Name "self" q1) "at" q2)) q4.line env = pure false) :
    PySem.OwXat.OexT P K (ga K nm) (ga K base) (ma K (ga K nm) "__init__") := by
  obtain ⟨c, w⟩ := c
  obtain ⟨c1, c⟩ := ba c
  obtain ⟨c2, c⟩ := ba c
  obtain ⟨c3, c⟩ := ba c
  obtain ⟨c4, c⟩ := ba c
  obtain ⟨c5, c⟩ := ba c
  obtain ⟨c6, c⟩ := ba c
  obtain ⟨c7, c⟩ := ba c
  obtain ⟨c8, c⟩ := ba c
  obtain ⟨c9, c⟩ := ba c
  obtain ⟨c10, c⟩ := ba c
  obtain ⟨c11, c⟩ := ba c
  obtain ⟨c12, c⟩ := ba c
  obtain ⟨c13, c⟩ := ba c
  obtain ⟨c14, c⟩ := ba c
  obtain ⟨c15, c16⟩ := ba c
  refine ⟨clsB_ok c1, eqO_ok c3, eqO_ok c4, eqO_ok c5, eqO_ok c6, eqO_ok c7, of_decide_eq_true c8, c9, of_decide_eq_true c10, of_decide_eq_true c11, of_decide_eq_true c12, c13, of_decide_eq_true c14, eqO_ok c15, eqO_ok (ba st).2, eqO_ok c16, top, ?_⟩
  obtain ⟨oc, od, doc, pm, an, cda, cc, ct, osl, ccl, cl, cdd, cld, ccs, csl, vs, tf, g1, g2, g3, g4, g5⟩ := initB_ok c2 w
  exact ⟨_, oc, od, doc, pm, an, cda, cc, ct, osl, msg, p1, p2, r0, r1, r2, r3, r4, r5, q1, q2, q3, q4, ccl, cl, cdd, cld, ccs, csl, vs, tf, g1, g2, g3, g4, g5, h1, h2, h3⟩
end
end Own

namespace K02
open PySem PySem.Spec PyProof.Rows L2 Evl Own
/-! ### the text -/
def topS (i : Nat) : Stmt := PySem.Challenge.pw_ownmirrors_k02_rows_place_by_place.main.body.getD i (.Pass ⟨0, 0, 0, 0⟩)
abbrev s_is_integer : Stmt := topS 4
theorem sc_is_integer : FnScope ["value"] ["value"] (defScope s_is_integer) := ⟨rfl, rfl, rfl, by decide +kernel, rfl, by decide +kernel, by decide +kernel⟩
abbrev s_is_between : Stmt := topS 5
theorem sc_is_between : FnScope ["value", "low", "high"] ["value", "low", "high"] (defScope s_is_between) := ⟨rfl, rfl, rfl, by decide +kernel, rfl, by decide +kernel, by decide +kernel⟩
abbrev s_is_tuple_of : Stmt := topS 6
theorem sc_is_tuple_of : FnScope ["value", "size"] ["value", "size"] (defScope s_is_tuple_of) := ⟨rfl, rfl, rfl, by decide +kernel, rfl, by decide +kernel, by decide +kernel⟩
abbrev s_need_row : Stmt := topS 8
theorem sc_need_row : FnScope ["letters", "length", "value", "at"] ["letters", "length", "value"] (defScope s_need_row) := ⟨rfl, rfl, rfl, by decide +kernel, rfl, by decide +kernel, by decide +kernel⟩
abbrev s_added : Stmt := topS 9
theorem sc_added : FnScope ["letters", "one", "other", "left", "right"] ["letters", "one", "other"] (defScope s_added) := ⟨rfl, rfl, rfl, by decide +kernel, rfl, by decide +kernel, by decide +kernel⟩
abbrev s_less : Stmt := topS 10
theorem sc_less : FnScope ["letters", "one", "other", "left", "right"] ["letters", "one", "other"] (defScope s_less) := ⟨rfl, rfl, rfl, by decide +kernel, rfl, by decide +kernel, by decide +kernel⟩
abbrev s_times : Stmt := topS 11
theorem sc_times : FnScope ["letters", "row", "number", "rest", "letter"] ["letters", "row", "number"] (defScope s_times) := ⟨rfl, rfl, rfl, by decide +kernel, rfl, by decide +kernel, by decide +kernel⟩
abbrev s_turned : Stmt := topS 12
theorem sc_turned : FnScope ["letters", "row"] ["letters", "row"] (defScope s_turned) := ⟨rfl, rfl, rfl, by decide +kernel, rfl, by decide +kernel, by decide +kernel⟩
abbrev s_worth : Stmt := topS 13
theorem sc_worth : FnScope ["letters", "one", "other", "left", "right"] ["letters", "one", "other"] (defScope s_worth) := ⟨rfl, rfl, rfl, by decide +kernel, rfl, by decide +kernel, by decide +kernel⟩
abbrev s_weight : Stmt := topS 14
theorem sc_weight : FnScope ["row"] ["row"] (defScope s_weight) := ⟨rfl, rfl, rfl, by decide +kernel, rfl, by decide +kernel, by decide +kernel⟩
abbrev s_held : Stmt := topS 15
theorem sc_held : FnScope ["row", "at"] ["row"] (defScope s_held) := ⟨rfl, rfl, rfl, by decide +kernel, rfl, by decide +kernel, by decide +kernel⟩
abbrev s_apart : Stmt := topS 16
theorem sc_apart : FnScope ["one", "other", "at"] ["one", "other"] (defScope s_apart) := ⟨rfl, rfl, rfl, by decide +kernel, rfl, by decide +kernel, by decide +kernel⟩
abbrev s_nought_row : Stmt := topS 17
theorem sc_nought_row : FnScope ["length"] ["length"] (defScope s_nought_row) := ⟨rfl, rfl, rfl, by decide +kernel, rfl, by decide +kernel, by decide +kernel⟩
abbrev s_unit_row : Stmt := topS 18
theorem sc_unit_row : FnScope ["length", "place"] ["length", "place"] (defScope s_unit_row) := ⟨rfl, rfl, rfl, by decide +kernel, rfl, by decide +kernel, by decide +kernel⟩
abbrev s_row_number : Stmt := topS 19
theorem sc_row_number : FnScope ["letters", "row", "number", "letter"] ["letters", "row"] (defScope s_row_number) := ⟨rfl, rfl, rfl, by decide +kernel, rfl, by decide +kernel, by decide +kernel⟩
abbrev s_row_of_number : Stmt := topS 20
theorem sc_row_of_number : FnScope ["letters", "length", "number", "found", "rest", "turn"] ["letters", "length", "number"] (defScope s_row_of_number) := ⟨rfl, rfl, rfl, by decide +kernel, rfl, by decide +kernel, by decide +kernel⟩
abbrev s__law_deal : Stmt := topS 22
theorem sc__law_deal : FnScope ["script", "salt", "cells", "cell", "mix"] ["script", "salt"] (defScope s__law_deal) := ⟨rfl, rfl, rfl, by decide +kernel, rfl, by decide +kernel, by decide +kernel⟩
abbrev s__law_any : Stmt := topS 23
theorem sc__law_any : FnScope ["deal", "bound", "rest"] ["deal", "bound"] (defScope s__law_any) := ⟨rfl, rfl, rfl, by decide +kernel, rfl, by decide +kernel, by decide +kernel⟩
abbrev s__law_of : Stmt := topS 24
theorem sc__law_of : FnScope ["deal", "some"] ["deal", "some"] (defScope s__law_of) := ⟨rfl, rfl, rfl, by decide +kernel, rfl, by decide +kernel, by decide +kernel⟩
abbrev s__law_same : Stmt := topS 25
theorem sc__law_same : FnScope ["told", "due", "at"] ["told", "due"] (defScope s__law_same) := ⟨rfl, rfl, rfl, by decide +kernel, rfl, by decide +kernel, by decide +kernel⟩
abbrev s__law_row : Stmt := topS 26
theorem sc__law_row : FnScope ["deal", "letters", "length", "kind", "often", "row", "at", "letter"] ["deal", "letters", "length"] (defScope s__law_row) := ⟨rfl, rfl, rfl, by decide +kernel, rfl, by decide +kernel, by decide +kernel⟩
abbrev s__law_near : Stmt := topS 27
theorem sc__law_near : FnScope ["deal", "letters", "row", "other", "turn"] ["deal", "letters", "row"] (defScope s__law_near) := ⟨rfl, rfl, rfl, by decide +kernel, rfl, by decide +kernel, by decide +kernel⟩
abbrev s__law_great : Stmt := topS 28
theorem sc__law_great : FnScope ["deal", "figures", "number"] ["deal"] (defScope s__law_great) := ⟨rfl, rfl, rfl, by decide +kernel, rfl, by decide +kernel, by decide +kernel⟩
abbrev s__law_sums_hold : Stmt := topS 29
theorem sc__law_sums_hold : FnScope ["letters", "one", "other", "number", "many", "due", "at", "rest"] ["letters", "one", "other", "number"] (defScope s__law_sums_hold) := ⟨rfl, rfl, rfl, by decide +kernel, rfl, by decide +kernel, by decide +kernel⟩
abbrev s__law_held_hold : Stmt := topS 30
theorem sc__law_held_hold : FnScope ["letters", "one", "other", "places", "at", "unlike"] ["letters", "one", "other"] (defScope s__law_held_hold) := ⟨rfl, rfl, rfl, by decide +kernel, rfl, by decide +kernel, by decide +kernel⟩
abbrev s__law_numbers_hold : Stmt := topS 31
theorem sc__law_numbers_hold : FnScope ["deal", "letters", "one", "number", "length", "letter", "place", "most", "at"] ["deal", "letters", "one"] (defScope s__law_numbers_hold) := ⟨rfl, rfl, rfl, by decide +kernel, rfl, by decide +kernel, by decide +kernel⟩
abbrev s__law_told : Stmt := topS 32
theorem sc__law_told : FnScope ["letters", "length", "value", "e"] ["letters", "length", "value"] (defScope s__law_told) := ⟨rfl, rfl, rfl, by decide +kernel, rfl, by decide +kernel, by decide +kernel⟩
abbrev s__law_needs_hold : Stmt := topS 33
theorem sc__law_needs_hold : FnScope ["deal", "letters", "one", "length", "places", "some", "wrong", "turn", "place", "menu"] ["deal", "letters", "one"] (defScope s__law_needs_hold) := ⟨rfl, rfl, rfl, by decide +kernel, rfl, by decide +kernel, by decide +kernel⟩
abbrev s_law : Stmt := topS 34
theorem sc_law : FnScope ["script", "deal", "turn", "letters", "top", "length", "one", "other"] ["script"] (defScope s_law) := ⟨rfl, rfl, rfl, by decide +kernel, rfl, by decide +kernel, by decide +kernel⟩
/-- what the module leaves to the built-ins -/
structure Zs (mg : Str → Option Value) : Prop where
  abs : mg "abs" = none
  bool : mg "bool" = none
  int : mg "int" = none
  isinstance : mg "isinstance" = none
  len : mg "len" = none
  list : mg "list" = none
  min : mg "min" = none
  range : mg "range" = none
  reversed : mg "reversed" = none
  str : mg "str" = none
  sum : mg "sum" = none
  tuple : mg "tuple" = none
  zip : mg "zip" = none
end K02

namespace K02
open PySem PySem.Spec PyProof.Rows L2 Evl Own
open RZ (pi_zipA)
/-! ### promises -/
def spIsInt (K : PySem.W.Frag) : Sp := fun vs H Q _ => ∃ x T, vs = [x] ∧ Vk K H x T ∧ Q (.bl (decide (T = "int"))) H
def okV (lo hi : Int) : V → Bool
  | .int z => decide (lo ≤ z) && decide (z ≤ hi)
  | _ => false
def spBetween (K : PySem.W.Frag) : Sp := fun vs H Q _ => ∃ x T lo hi, vs = [x, .int lo, .int hi] ∧ Vk K H x T ∧ Q (.bl (okV lo hi x)) H
def spTupOf (K : PySem.W.Frag) : Sp := fun vs H Q _ => ∃ x n, vs = [x, .int n] ∧ ((∃ T, Vk K H x T ∧ T ≠ "tuple" ∧ Q (.bl false) H) ∨ ∃ p xs, x = .ref p ∧ Tp K H p xs ∧ Q (.bl (decide ((xs.length : Int) = n))) H)
def spBin (K : PySem.W.Frag) (f : Int → Int → Int → Int) : Sp := fun vs H Q _ => ∃ (q : Int) (a b : Addr) (xs ys : List Int), vs = [.int q, .ref a, .ref b] ∧ Tp K H a (xs.map V.int) ∧ Tp K H b (ys.map V.int) ∧ xs.length = ys.length ∧ xs.length ≤ 1000 ∧ 0 < q ∧
  RetU K ((List.zipWith (f q) xs ys).map V.int) H Q
section
variable {P : Program} {w : World} {K : PySem.W.Frag} {mg : Str → Option Value} {base : Heap} {f : Addr} {fd : FuncData}
theorem ok_is_integer (F : FnP K "is_integer" s_is_integer f fd) (Z : Zs mg) : FnOk P w K mg base CX0 1 f fd ["value"] (spIsInt K) := by
  refine F.ok sc_is_integer (fun vs H Q E h => ?_) (fun cdv A outer s H vs Q E hr h => ⟨_, PSs.nox (pss_one (ps_ret (pe_and (pe_callB (kc_isi (K := K)) (by rfl) Z.isinstance (by decide +kernel) (pa_cons (pv 0) (pa_cons (pe_bltn (v := .ty "int") (u := .type "int") (by rfl) Z.int (by decide +kernel) rfl) pa_nil))) (pe_one (pe_not (pe_callB (kc_isi (K := K)) (by rfl) Z.isinstance (by decide +kernel) (pa_cons (pv 0) (pa_cons (pe_bltn (v := .ty "bool") (u := .type "bool") (by rfl) Z.bool (by decide +kernel) rfl) pa_nil)))))))), ?_⟩)
  · obtain ⟨x, T, rfl, _⟩ := h
    rfl
  · obtain ⟨x, T, rfl, hv, q⟩ := h
    refine ⟨x, rfl, x, .ty "int", .type T, .type "int", _, rfl, .ty _, hv.ty, kit_vk hv "int", _, rfl, ?_⟩
    cases hv <;> first | exact iteF q | skip
    · exact iteT ⟨_, rfl, _, .ty "bool", .type "bool", .type "bool", _, rfl, .ty _, .base (.bl _), kit_vk (.bl true) "bool" (H := H), _, rfl, q⟩
    · exact iteT ⟨_, rfl, _, .ty "bool", .type "int", .type "bool", _, rfl, .ty _, .base (.int _), kit_vk (.int 0) "bool" (H := H), _, rfl, q⟩
theorem ok_is_between (F : FnP K "is_between" s_is_between f fd) (Z : Zs mg) (G_is_integer : Fn P w K mg base CX0 1 "is_integer" s_is_integer ["value"] (spIsInt K)) : FnOk P w K mg base CX0 2 f fd ["value", "low", "high"] (spBetween K) := by
  refine F.ok sc_is_between (fun vs H Q E h => ?_) (fun cdv A outer s H vs Q E hr h => ⟨_, PSs.nox (pss_one (ps_ret (pe_and (pe_callF G_is_integer (hr.mono (by decide)) rfl pass0 (pa_cons (pv 0) pa_nil)) (pe_one (pe_chain op_le op_le (pv 1) (pv 0) (pv 2)))))), ?_⟩)
  · obtain ⟨x, T, lo, hi, rfl, _⟩ := h
    rfl
  · obtain ⟨x, T, lo, hi, rfl, hv, q⟩ := h
    refine ⟨x, rfl, x, T, rfl, hv, _, rfl, ?_⟩
    cases hv <;> first | exact iteF q | skip
    rename_i z
    refine iteT ⟨_, rfl, _, rfl, _, _, rfl, rfl, _, rfl, ?_⟩
    by_cases h1 : lo ≤ z
    · rw [decide_eq_true h1]
      refine iteT ⟨_, rfl, _, _, rfl, rfl, ?_⟩
      have e : okV lo hi (.int z) = decide (z ≤ hi) := by
        show (decide (lo ≤ z) && decide (z ≤ hi)) = _
        rw [decide_eq_true h1, Bool.true_and]
      rw [e] at q
      exact q
    · rw [decide_eq_false h1]
      have e : okV lo hi (.int z) = false := by
        show (decide (lo ≤ z) && decide (z ≤ hi)) = _
        rw [decide_eq_false h1, Bool.false_and]
      rw [e] at q
      exact iteF q
theorem ok_is_tuple_of (F : FnP K "is_tuple_of" s_is_tuple_of f fd) (Z : Zs mg) : FnOk P w K mg base CX0 1 f fd ["value", "size"] (spTupOf K) := by
  refine F.ok sc_is_tuple_of (fun vs H Q E h => ?_) (fun cdv A outer s H vs Q E hr h => ⟨_, PSs.nox (pss_one (ps_ret (pe_and (pe_callB (kc_isi (K := K)) (by rfl) Z.isinstance (by decide +kernel) (pa_cons (pv 0) (pa_cons (pe_bltn (v := .ty "tuple") (u := .type "tuple") (by rfl) Z.tuple (by decide +kernel) rfl) pa_nil))) (pe_one (pe_cmpR op_eq (pe_callB (kc_len (K := K)) (by rfl) Z.len PySem.boot_len (pa_cons (pv 0) pa_nil)) (pv 1) (nomark _)))))), ?_⟩)
  · obtain ⟨x, n, rfl, _⟩ := h
    rfl
  · obtain ⟨x, n, rfl, h⟩ := h
    rcases h with ⟨T, hv, hT, q⟩ | ⟨p, xs, rfl, h, q⟩
    · refine ⟨x, rfl, x, .ty "tuple", .type T, .type "tuple", _, rfl, .ty _, hv.ty, kit_vk hv "tuple", _, rfl, ?_⟩
      cases hv <;> first | exact iteF q | exact (hT rfl).elim
    · refine ⟨_, rfl, _, .ty "tuple", .type "tuple", .type "tuple", _, rfl, .ty _, (Vk.tup h).ty, kit_vk (.tup h) "tuple", _, rfl, iteT ⟨_, rfl, p, xs, rfl, .inr h.sq, _, rfl, rfl, ?_⟩⟩
      have e : decide ((xs.length : Int) = n) = decide (V.int xs.length = V.int n) := by
        rw [dec_int]
        by_cases h9 : (xs.length : Int) = n
        · rw [decide_eq_true h9, h9, beq_self_eq_true]
        · rw [decide_eq_false h9, beq_eq_false_iff_ne.mpr h9]
      rw [e] at q
      exact q
theorem ok_added (F : FnP K "added" s_added f fd) (Z : Zs mg) : FnOk P w K mg base CX0 1 f fd ["letters", "one", "other"] (spBin K fun q x y => (x + y) % q) := by
  refine F.ok sc_added (fun vs H Q E h => ?_) (fun cdv A outer s H vs Q E hr h => ⟨_, PSs.nox (pss_one (ps_ret (pe_callTy (kc_tuple (K := K)) (by rfl) Z.tuple (by decide +kernel) (pa_cons (pe_lc (own := [("left", 3), ("right", 4)]) (g := (gTup K 2 (gCons (gName 3) (gCons (gName 4) gNil)))) rfl sc_added.nd (pi_zipA (by rfl) Z.zip (pa_cons (pv 1) (pa_cons (pv 2) pa_nil))) (blkOk_by (own := [("left", 3), ("right", 4)]) (N := ["letters", "one", "other", "left", "right"]) (sc := defScope s_added) (by decide +kernel)) (fun _ _ _ _ _ => (pg_tup rfl (pgs_cons (pg_name (i := 3) sc_added.nd rfl (Or.inl rfl)) (pgs_cons (pg_name (i := 4) sc_added.nd rfl (Or.inl rfl)) pgs_nil)))) (fun _ _ _ _ _ => pts_nil) (fun _ _ _ _ _ => (pe_op op_mod (pe_op op_add (pv 3) (pv 4)) (pv 0)))) pa_nil)))), ?_⟩)
  · obtain ⟨q, a, b, xs, ys, rfl, _⟩ := h
    rfl
  · obtain ⟨q, a, b, xs, ys, rfl, ha, hb, hl, hz, hq, k⟩ := h
    refine ⟨_, rfl, _, rfl, a, b, _, _, rfl, .inr ⟨ha.sq, hb.sq, lcP (walk_zipT (n := xs.length) (by simp) (by simp [hl])) (fun H' e => ⟨ex_t e ha.sq, ex_t e hb.sq⟩) (by omega) (fun _ => true) (fun i => .int ((xs.getD i 0 + ys.getD i 0) % q)) (fun i H1 x H2 hi e y K1 K0 k1 k0 => ?_) (fun p H2 hp e2 h2 => ?_)⟩⟩
    · obtain ⟨T, x1, x2, rfl, nT, rfl, g1, g2⟩ := y
      obtain ⟨rfl, _⟩ := int_at g1
      obtain ⟨rfl, _⟩ := int_at g2
      exact ⟨T, _, rfl, .inl (.inl upd_same), rfl, _, _, rfl, _, _, rfl, rfl, rfl, yes_go ⟨_, rfl, _, rfl, _, _, rfl, rfl, _, rfl, _, _, rfl, rfl, hq, k1 rfl _ (Ex.new nT)⟩⟩
    · rw [given_all, range_zip (fun x y => (x + y) % q) rfl (by omega)] at h2
      exact ⟨p, _, rfl, .inl ⟨sq_of h2, k.new e2⟩⟩
end
end K02

namespace K02
open PySem PySem.Spec PyProof.Rows L2 Evl Own
open RZ (pi_zipA)
def spTimes (K : PySem.W.Frag) : Sp := fun vs H Q _ => ∃ (q n : Int) (a : Addr) (xs : List Int), vs = [.int q, .ref a, .int n] ∧ Tp K H a (xs.map V.int) ∧ xs.length ≤ 1000 ∧ 0 < q ∧ q ≤ 1000 ∧ RetU K ((xs.map fun x => x * (n % q) % q).map V.int) H Q
def spTurned (K : PySem.W.Frag) : Sp := fun vs H Q _ => ∃ (q : Int) (a : Addr) (xs : List Int), vs = [.int q, .ref a] ∧ Tp K H a (xs.map V.int) ∧ xs.length ≤ 1000 ∧ 0 < q ∧ q ≤ 1000 ∧ RetU K ((xs.map fun x => x * (-1 % q) % q).map V.int) H Q
def spWorth (K : PySem.W.Frag) : Sp := fun vs H Q _ => ∃ (q : Int) (a b : Addr) (xs ys : List Int), vs = [.int q, .ref a, .ref b] ∧ Tp K H a (xs.map V.int) ∧ Tp K H b (ys.map V.int) ∧ xs.length = ys.length ∧ xs.length ≤ 1000 ∧ 0 < q ∧ (∀ x ∈ xs, 0 ≤ x ∧ x ≤ 1000) ∧
  ∀ H', Ex H H' → Q (.int ((List.zipWith (fun x y => x * y) xs ys).sum % q)) H'
def spWeight (K : PySem.W.Frag) : Sp := fun vs H Q _ => ∃ (a : Addr) (xs : List Int), vs = [.ref a] ∧ Tp K H a (xs.map V.int) ∧ Q (.int ((xs.length : Int) - (xs.count 0 : Nat))) H
def spHeld (K : PySem.W.Frag) : Sp := fun vs H Q _ => ∃ (a : Addr) (xs : List Int), vs = [.ref a] ∧ Tp K H a (xs.map V.int) ∧ xs.length ≤ 1000 ∧ RetU K (given xs.length (fun i => decide (xs.getD i 0 ≠ 0)) (fun i => V.int (i : Int))) H Q
def spApart (K : PySem.W.Frag) : Sp := fun vs H Q _ => ∃ (a b : Addr) (xs ys : List Int), vs = [.ref a, .ref b] ∧ Tp K H a (xs.map V.int) ∧ Tp K H b (ys.map V.int) ∧ xs.length = ys.length ∧ xs.length ≤ 1000 ∧
  ∀ H', Ex H H' → Q (.int ((given xs.length (fun i => decide (xs.getD i 0 ≠ ys.getD i 0)) (fun i => V.int (i : Int))).length : Nat)) H'
def spNought (K : PySem.W.Frag) : Sp := fun vs H Q _ => ∃ (n : Int), vs = [.int n] ∧ 0 ≤ n ∧ n ≤ 1000 ∧ RetU K ((List.replicate n.toNat (0 : Int)).map V.int) H Q
def unitL (n p : Int) : List Int := List.replicate p.toNat 0 ++ [1] ++ List.replicate (n - p - 1).toNat 0
def spUnit (K : PySem.W.Frag) : Sp := fun vs H Q _ => ∃ (n p : Int), vs = [.int n, .int p] ∧ 0 ≤ p ∧ p < n ∧ n ≤ 1000 ∧ RetU K ((unitL n p).map V.int) H Q
def rowNum (q : Int) (xs : List Int) : Int := xs.foldl (fun n x => n * q + x) 0
def spRowNum (K : PySem.W.Frag) : Sp := fun vs H Q _ => ∃ (q : Int) (a : Addr) (xs : List Int), vs = [.int q, .ref a] ∧ Tp K H a (xs.map V.int) ∧ xs.length ≤ 1000 ∧ 0 < q ∧ q ≤ 1000 ∧ Q (.int (rowNum q xs)) H
def digs (q : Int) : Nat → Int → List Int
  | 0, _ => []
  | n + 1, r => r % q :: digs q n (r / q)
def spRowOf (K : PySem.W.Frag) : Sp := fun vs H Q _ => ∃ (q n m : Int), vs = [.int q, .int n, .int m] ∧ 0 < q ∧ q ≤ 1000 ∧ 0 ≤ n ∧ n ≤ 1000 ∧ RetU K ((digs q n.toNat m).reverse.map V.int) H Q
section
variable {P : Program} {w : World} {K : PySem.W.Frag} {mg : Str → Option Value} {base : Heap} {f : Addr} {fd : FuncData}
theorem ok_less (F : FnP K "less" s_less f fd) (Z : Zs mg) : FnOk P w K mg base CX0 1 f fd ["letters", "one", "other"] (spBin K fun q x y => (x - y) % q) := by
  refine F.ok sc_less (fun vs H Q E h => ?_) (fun cdv A outer s H vs Q E hr h => ⟨_, PSs.nox (pss_one (ps_ret (pe_callTy (kc_tuple (K := K)) (by rfl) Z.tuple (by decide +kernel) (pa_cons (pe_lc (own := [("left", 3), ("right", 4)]) (g := (gTup K 2 (gCons (gName 3) (gCons (gName 4) gNil)))) rfl sc_less.nd (pi_zipA (by rfl) Z.zip (pa_cons (pv 1) (pa_cons (pv 2) pa_nil))) (blkOk_by (own := [("left", 3), ("right", 4)]) (N := ["letters", "one", "other", "left", "right"]) (sc := defScope s_less) (by decide +kernel)) (fun _ _ _ _ _ => (pg_tup rfl (pgs_cons (pg_name (i := 3) sc_less.nd rfl (Or.inl rfl)) (pgs_cons (pg_name (i := 4) sc_less.nd rfl (Or.inl rfl)) pgs_nil)))) (fun _ _ _ _ _ => pts_nil) (fun _ _ _ _ _ => (pe_op op_mod (pe_op op_sub (pv 3) (pv 4)) (pv 0)))) pa_nil)))), ?_⟩)
  · obtain ⟨q, a, b, xs, ys, rfl, _⟩ := h
    rfl
  · obtain ⟨q, a, b, xs, ys, rfl, ha, hb, hl, hz, hq, k⟩ := h
    refine ⟨_, rfl, _, rfl, a, b, _, _, rfl, .inr ⟨ha.sq, hb.sq, lcP (walk_zipT (n := xs.length) (by simp) (by simp [hl])) (fun H' e => ⟨ex_t e ha.sq, ex_t e hb.sq⟩) (by omega) (fun _ => true) (fun i => .int ((xs.getD i 0 - ys.getD i 0) % q)) (fun i H1 x H2 hi e y K1 K0 k1 k0 => ?_) (fun p H2 hp e2 h2 => ?_)⟩⟩
    · obtain ⟨T, x1, x2, rfl, nT, rfl, g1, g2⟩ := y
      obtain ⟨rfl, _⟩ := int_at g1
      obtain ⟨rfl, _⟩ := int_at g2
      exact ⟨T, _, rfl, .inl (.inl upd_same), rfl, _, _, rfl, _, _, rfl, rfl, rfl, yes_go ⟨_, rfl, _, rfl, _, _, rfl, rfl, _, rfl, _, _, rfl, rfl, hq, k1 rfl _ (Ex.new nT)⟩⟩
    · rw [given_all, range_zip (fun x y => (x - y) % q) rfl (by omega)] at h2
      exact ⟨p, _, rfl, .inl ⟨sq_of h2, k.new e2⟩⟩
theorem ok_times (F : FnP K "times" s_times f fd) (Z : Zs mg) : FnOk P w K mg base CX0 1 f fd ["letters", "row", "number"] (spTimes K) := by
  refine F.ok sc_times (fun vs H Q E h => ?_) (fun cdv A outer s H vs Q E hr h => ⟨_, PSs.nox (pss_cons (ps_set (i := 3) sc_times.nd rfl (by first | exact Or.inl rfl | exact Or.inr rfl) (pe_op op_mod (pv 2) (pv 0)))
  (pss_one (ps_ret (pe_callTy (kc_tuple (K := K)) (by rfl) Z.tuple (by decide +kernel) (pa_cons (pe_lc (own := [("letter", 4)]) (g := (gName 4)) rfl sc_times.nd (pi_tup (pv 1)) (blkOk_by (own := [("letter", 4)]) (N := ["letters", "row", "number", "rest", "letter"]) (sc := defScope s_times) (by decide +kernel)) (fun _ _ _ _ _ => (pg_name (i := 4) sc_times.nd rfl (Or.inl rfl))) (fun _ _ _ _ _ => pts_nil) (fun _ _ _ _ _ => (pe_op op_mod (pe_op op_mul (pv 4) (pv 3)) (pv 0)))) pa_nil))))), ?_⟩)
  · obtain ⟨q, n, a, xs, rfl, _⟩ := h
    rfl
  · obtain ⟨q, n, a, xs, rfl, ha, hz, hq, hq2, k⟩ := h
    have b1 := Int.emod_nonneg n (by omega : q ≠ 0)
    have b2 := Int.emod_lt_of_pos n hq
    refine ⟨_, rfl, _, rfl, _, _, rfl, rfl, hq, ?_⟩
    refine ⟨_, rfl, a, rfl, ⟨_, ha.sq⟩, lcP (walk_tup (xs := xs.map V.int)) (fun H' e => ex_t e ha.sq) (by rw [List.length_map]; omega) (fun _ => true) (fun i => .int (xs.getD i 0 * (n % q) % q)) (fun i H1 x H2 hi e y K1 K0 k1 k0 => ?_) (fun p H2 hp e2 h2 => ?_)⟩
    · obtain ⟨rfl, g⟩ := y
      obtain ⟨rfl, _⟩ := int_at g
      exact ⟨rfl, yes_go ⟨_, rfl, _, rfl, _, _, rfl, rfl, .inr ⟨by omega, by omega⟩, _, rfl, _, _, rfl, rfl, hq, k1 rfl _ (Ex.refl _)⟩⟩
    · rw [given_all, List.length_map, range_map 0 (fun x => V.int (x * (n % q) % q)), show (xs.map fun x => V.int (x * (n % q) % q)) = (xs.map fun x => x * (n % q) % q).map V.int by rw [List.map_map]; rfl] at h2
      exact ⟨p, _, rfl, .inl ⟨sq_of h2, k.new e2⟩⟩
theorem ok_turned (F : FnP K "turned" s_turned f fd) (Z : Zs mg) (G_times : Fn P w K mg base CX0 1 "times" s_times ["letters", "row", "number"] (spTimes K)) : FnOk P w K mg base CX0 2 f fd ["letters", "row"] (spTurned K) := by
  refine F.ok sc_turned (fun vs H Q E h => ?_) (fun cdv A outer s H vs Q E hr h => ⟨_, PSs.nox (pss_one (ps_ret (pe_callF G_times (hr.mono (by decide)) rfl pass0 (pa_cons (pv 0) (pa_cons (pv 1) (pa_cons (pe_un un_neg pe_int) pa_nil)))))), ?_⟩)
  · obtain ⟨q, a, xs, rfl, _⟩ := h
    rfl
  · obtain ⟨q, a, xs, rfl, ha, hz, hq, hq2, k⟩ := h
    exact ⟨_, rfl, _, rfl, _, rfl, q, -1, a, xs, rfl, ha, hz, hq, hq2, k⟩
theorem ok_worth (F : FnP K "worth" s_worth f fd) (Z : Zs mg) : FnOk P w K mg base CX0 1 f fd ["letters", "one", "other"] (spWorth K) := by
  refine F.ok sc_worth (fun vs H Q E h => ?_) (fun cdv A outer s H vs Q E hr h => ⟨_, PSs.nox (pss_one (ps_ret (pe_op op_mod (pe_callB (kc_sum (K := K) rfl) (by rfl) Z.sum (by decide +kernel) (pa_cons (pe_lc (own := [("left", 3), ("right", 4)]) (g := (gTup K 2 (gCons (gName 3) (gCons (gName 4) gNil)))) rfl sc_worth.nd (pi_zipA (by rfl) Z.zip (pa_cons (pv 1) (pa_cons (pv 2) pa_nil))) (blkOk_by (own := [("left", 3), ("right", 4)]) (N := ["letters", "one", "other", "left", "right"]) (sc := defScope s_worth) (by decide +kernel)) (fun _ _ _ _ _ => (pg_tup rfl (pgs_cons (pg_name (i := 3) sc_worth.nd rfl (Or.inl rfl)) (pgs_cons (pg_name (i := 4) sc_worth.nd rfl (Or.inl rfl)) pgs_nil)))) (fun _ _ _ _ _ => pts_nil) (fun _ _ _ _ _ => (pe_op op_mul (pv 3) (pv 4)))) pa_nil)) (pv 0)))), ?_⟩)
  · obtain ⟨q, a, b, xs, ys, rfl, _⟩ := h
    rfl
  · obtain ⟨q, a, b, xs, ys, rfl, ha, hb, hl, hz, hq, hx, k⟩ := h
    refine ⟨_, rfl, _, rfl, a, b, _, _, rfl, .inr ⟨ha.sq, hb.sq, lcP (walk_zipT (n := xs.length) (by simp) (by simp [hl])) (fun H' e => ⟨ex_t e ha.sq, ex_t e hb.sq⟩) (by omega) (fun _ => true) (fun i => .int (xs.getD i 0 * ys.getD i 0)) (fun i H1 x H2 hi e y K1 K0 k1 k0 => ?_) (fun p H2 hp e2 h2 => ?_)⟩⟩
    · obtain ⟨T, x1, x2, rfl, nT, rfl, g1, g2⟩ := y
      obtain ⟨rfl, _⟩ := int_at g1
      obtain ⟨rfl, _⟩ := int_at g2
      have := hx _ (Own.getD_mem hi)
      exact ⟨T, _, rfl, .inl (.inl upd_same), rfl, _, _, rfl, _, _, rfl, rfl, rfl, yes_go ⟨_, rfl, _, rfl, _, _, rfl, rfl, .inl ⟨by omega, by omega⟩, k1 rfl _ (Ex.new nT)⟩⟩
    · rw [given_all, range_zip (fun x y => x * y) rfl (by omega)] at h2
      exact ⟨p, _, rfl, sq_of h2, _, rfl, _, _, rfl, rfl, hq, k _ e2⟩
theorem ok_weight (F : FnP K "weight" s_weight f fd) (Z : Zs mg) : FnOk P w K mg base CX0 1 f fd ["row"] (spWeight K) := by
  refine F.ok sc_weight (fun vs H Q E h => ?_) (fun cdv A outer s H vs Q E hr h => ⟨_, PSs.nox (pss_one (ps_ret (pe_op op_sub (pe_callB (kc_len (K := K)) (by rfl) Z.len PySem.boot_len (pa_cons (pv 0) pa_nil)) (km_count (K := K) (pv 0) (pa_cons pe_int pa_nil))))), ?_⟩)
  · obtain ⟨a, xs, rfl, _⟩ := h
    rfl
  · obtain ⟨a, xs, rfl, ha, k⟩ := h
    refine ⟨_, rfl, a, _, rfl, .inr ha.sq, _, rfl, ⟨a, _, rfl, ha⟩, a, xs, 0, rfl, rfl, ha, _, _, rfl, rfl, ?_⟩
    rw [List.length_map]
    exact k
theorem ok_held (F : FnP K "held" s_held f fd) (Z : Zs mg) : FnOk P w K mg base CX0 1 f fd ["row"] (spHeld K) := by
  refine F.ok sc_held (fun vs H Q E h => ?_) (fun cdv A outer s H vs Q E hr h => ⟨_, PSs.nox (pss_one (ps_ret (pe_callTy (kc_tuple (K := K)) (by rfl) Z.tuple (by decide +kernel) (pa_cons (pe_lc (own := [("at", 1)]) (g := (gName 1)) rfl sc_held.nd (pi_range1 (by rfl) Z.range (pa_cons (pe_callB (kc_len (K := K)) (by rfl) Z.len PySem.boot_len (pa_cons (pv 0) pa_nil)) pa_nil)) (blkOk_by (own := [("at", 1)]) (N := ["row", "at"]) (sc := defScope s_held) (by decide +kernel)) (fun _ _ _ _ _ => (pg_name (i := 1) sc_held.nd rfl (Or.inl rfl))) (fun _ _ _ _ _ => (pts_one (pt_cmpR op_ne (pe_ix (kx_tup (K := K)) (pv 0) (pv 1) (fun _ _ => rfl)) pe_int (nomark _)))) (fun _ _ _ _ _ => (pv 1))) pa_nil)))), ?_⟩)
  · obtain ⟨a, xs, rfl, _⟩ := h
    rfl
  · obtain ⟨a, xs, rfl, ha, hz, k⟩ := h
    refine ⟨_, rfl, a, _, rfl, .inr ha.sq, _, rfl, by omega, by rw [List.length_map]; omega, ?_⟩
    rw [show (((xs.map V.int).length : Nat) : Int).toNat = xs.length by rw [List.length_map]; omega]
    refine lcP (walk_range (lo := 0)) (fun _ _ => trivial) (by omega) (fun i => decide (xs.getD i 0 ≠ 0)) (fun i => V.int (i : Int)) (fun i H1 x H2 hi e y K1 K0 k1 k0 => ?_) (fun p H2 hp e2 h2 => ?_)
    · obtain ⟨rfl, rfl⟩ := y
      have e0 : (0 : Int) + (i : Int) = (i : Int) := by omega
      show gName _ (V.int ((0 : Int) + (i : Int))) _ _ _
      rw [e0]
      refine ⟨rfl, _, rfl, _, rfl, a, _, _, _, rfl, rfl, ex_t e ha.sq, atI_int hi, rfl, _, rfl, ?_⟩
      rw [dec_int]
      by_cases h0 : xs.getD i 0 = 0
      · rw [h0]
        exact iteF (k0 (decide_eq_false (fun h => h h0)) _ (Ex.refl _))
      · rw [beq_eq_false_iff_ne.mpr h0]
        exact iteT ⟨_, rfl, k1 (decide_eq_true h0) _ (Ex.refl _)⟩
    · exact ⟨p, _, rfl, .inl ⟨sq_of h2, k.new e2⟩⟩
theorem ok_apart (F : FnP K "apart" s_apart f fd) (Z : Zs mg) : FnOk P w K mg base CX0 1 f fd ["one", "other"] (spApart K) := by
  refine F.ok sc_apart (fun vs H Q E h => ?_) (fun cdv A outer s H vs Q E hr h => ⟨_, PSs.nox (pss_one (ps_ret (pe_callB (kc_len (K := K)) (by rfl) Z.len PySem.boot_len (pa_cons (pe_lc (own := [("at", 2)]) (g := (gName 2)) rfl sc_apart.nd (pi_range1 (by rfl) Z.range (pa_cons (pe_callB (kc_len (K := K)) (by rfl) Z.len PySem.boot_len (pa_cons (pv 0) pa_nil)) pa_nil)) (blkOk_by (own := [("at", 2)]) (N := ["one", "other", "at"]) (sc := defScope s_apart) (by decide +kernel)) (fun _ _ _ _ _ => (pg_name (i := 2) sc_apart.nd rfl (Or.inl rfl))) (fun _ _ _ _ _ => (pts_one (pt_cmpR op_ne (pe_ix (kx_tup (K := K)) (pv 0) (pv 2) (fun _ _ => rfl)) (pe_ix (kx_tup (K := K)) (pv 1) (pv 2) (fun _ _ => rfl)) (nomark _)))) (fun _ _ _ _ _ => (pv 2))) pa_nil)))), ?_⟩)
  · obtain ⟨a, b, xs, ys, rfl, _⟩ := h
    rfl
  · obtain ⟨a, b, xs, ys, rfl, ha, hb, hl, hz, k⟩ := h
    refine ⟨_, rfl, a, _, rfl, .inr ha.sq, _, rfl, by omega, by rw [List.length_map]; omega, ?_⟩
    rw [show (((xs.map V.int).length : Nat) : Int).toNat = xs.length by rw [List.length_map]; omega]
    refine lcP (walk_range (lo := 0)) (fun _ _ => trivial) (by omega) (fun i => decide (xs.getD i 0 ≠ ys.getD i 0)) (fun i => V.int (i : Int)) (fun i H1 x H2 hi e y K1 K0 k1 k0 => ?_) (fun p H2 hp e2 h2 => ?_)
    · obtain ⟨rfl, rfl⟩ := y
      have e0 : (0 : Int) + (i : Int) = (i : Int) := by omega
      show gName _ (V.int ((0 : Int) + (i : Int))) _ _ _
      rw [e0]
      refine ⟨rfl, _, rfl, _, rfl, a, _, _, _, rfl, rfl, ex_t e ha.sq, atI_int hi, _, rfl, _, rfl, b, _, _, _, rfl, rfl, ex_t e hb.sq, atI_int (by omega), rfl, _, rfl, ?_⟩
      rw [dec_int]
      by_cases h0 : xs.getD i 0 = ys.getD i 0
      · rw [h0, beq_self_eq_true]
        exact iteF (k0 (decide_eq_false (fun h => h h0)) _ (Ex.refl _))
      · rw [beq_eq_false_iff_ne.mpr h0]
        exact iteT ⟨_, rfl, k1 (decide_eq_true h0) _ (Ex.refl _)⟩
    · exact ⟨p, _, rfl, .inl (sq_of h2), k _ e2⟩
end
end K02

namespace K02
open PySem PySem.Spec PyProof.Rows L2 Evl Own
/-- an error whose own dict holds at -/
def RaisesAt (C : Addr) (k : Int) (H : Hp) (E : XK) : Prop := ∀ d, H d = none → E (.ref C) (some d) (upd H d (.xd [(("at" : Str), .int k)]))
/-- what need_row says of a thing -/
def spNeed (K : PySem.W.Frag) (C : Addr) : Sp := fun vs H Q E => ∃ q n x T, vs = [.int q, .int n, x] ∧ Vk K H x T ∧ 0 ≤ n ∧ n ≤ 1000 ∧
  ((T ≠ "tuple" ∧ RaisesAt C (-1) H E) ∨ ∃ p xs, x = .ref p ∧ Tp K H p xs ∧ ((¬ (xs.length : Int) = n ∧ RaisesAt C (-1) H E) ∨ ((xs.length : Int) = n ∧ (∀ v ∈ xs, ∃ T, Vk K H v T) ∧
    (((∀ v ∈ xs, okV 0 (q - 1) v = true) ∧ Q .non H) ∨ ∃ (i : Nat) (v : V), xs[i]? = some v ∧ okV 0 (q - 1) v = false ∧ (∀ (j : Nat) (u : V), j < i → xs[j]? = some u → okV 0 (q - 1) u = true) ∧ RaisesAt C (i : Int) H E))))
section
variable {P : Program} {w : World} {K : PySem.W.Frag} {mg : Str → Option Value} {base : Heap} {f : Addr} {fd : FuncData}
theorem ok_nought_row (F : FnP K "nought_row" s_nought_row f fd) (Z : Zs mg) : FnOk P w K mg base CX0 1 f fd ["length"] (spNought K) := by
  refine F.ok sc_nought_row (fun vs H Q E h => ?_) (fun cdv A outer s H vs Q E hr h => ⟨_, PSs.nox (pss_one (ps_ret (pe_op (ko_rep (K := K)) (pe_tupF (pa_cons pe_int pa_nil)) (pv 0)))), ?_⟩)
  · obtain ⟨n, rfl, _⟩ := h
    rfl
  · obtain ⟨n, rfl, h0, h1, k⟩ := h
    refine ⟨by decide, ?_⟩
    have k' : RetU K (List.replicate n.toNat (V.int 0)) H Q := by
      have := k
      rw [List.map_replicate] at this
      exact this
    exact fun p o hp ho => ⟨_, rfl, rep_one (by omega) h1 k' p o hp ho⟩
theorem ok_unit_row (F : FnP K "unit_row" s_unit_row f fd) (Z : Zs mg) (G_nought_row : Fn P w K mg base CX0 1 "nought_row" s_nought_row ["length"] (spNought K)) : FnOk P w K mg base CX0 2 f fd ["length", "place"] (spUnit K) := by
  refine F.ok sc_unit_row (fun vs H Q E h => ?_) (fun cdv A outer s H vs Q E hr h => ⟨_, PSs.nox (pss_one (ps_ret (pe_op (ko_cat (K := K)) (pe_op (ko_cat (K := K)) (pe_callF G_nought_row (hr.mono (by decide)) rfl pass0 (pa_cons (pv 1) pa_nil)) (pe_tupF (pa_cons pe_int pa_nil))) (pe_callF G_nought_row (hr.mono (by decide)) rfl pass0 (pa_cons (pe_op op_sub (pe_op op_sub (pv 0) (pv 1)) pe_int) pa_nil))))), ?_⟩)
  · obtain ⟨n, p, rfl, _⟩ := h
    rfl
  · obtain ⟨n, p, rfl, h0, h1, h2, k⟩ := h
    refine ⟨_, rfl, p, rfl, h0, by omega, fun a H1 e1 ha => ?_⟩
    refine ⟨by decide, fun b o hb ho => ?_⟩
    have e2 := Ex.new (o := .frz o (.tup [V.int 1])) hb
    refine cat_ret (ha.ex e2) (Tp.of ho upd_same) (Nat.le_of_lt (sz_lt (by rw [List.length_map, List.length_replicate]; simp only [List.length_singleton]; omega))) (Ex.refl _) fun c H2 e3 hc => ?_
    refine ⟨_, rfl, _, rfl, _, _, rfl, rfl, _, _, rfl, rfl, _, rfl, by omega, by omega, fun d H3 e4 hd => ?_⟩
    refine cat_ret (hc.ex e4) hd (Nat.le_of_lt (sz_lt (by simp only [List.length_append, List.length_map, List.length_replicate, List.length_singleton]; omega))) (e1.trans (e2.trans (e3.trans e4))) fun g H4 e5 hg => ?_
    refine k g H4 e5 ?_
    have ee : (unitL n p).map V.int = (List.replicate p.toNat (0 : Int)).map V.int ++ [V.int 1] ++ (List.replicate (n - p - 1).toNat (0 : Int)).map V.int := by
      unfold unitL
      rw [List.map_append, List.map_append]
      rfl
    rw [ee]
    exact hg
theorem foldl_take {α β : Type} (f : β → α → β) (b : β) {xs : List α} {i : Nat} {x : α} (h : xs[i]? = some x) : (xs.take (i + 1)).foldl f b = f ((xs.take i).foldl f b) x := by
  obtain ⟨hi, rfl⟩ := List.getElem?_eq_some_iff.mp h
  rw [List.take_succ, h, List.foldl_append]
  rfl
theorem ok_row_number (F : FnP K "row_number" s_row_number f fd) (Z : Zs mg) : FnOk P w K mg base CX0 1 f fd ["letters", "row"] (spRowNum K) := by
  refine F.ok sc_row_number (fun vs H Q E h => ?_) (fun cdv A outer s H vs Q E hr h => ⟨_, PSs.nox (pss_cons (ps_set (i := 2) sc_row_number.nd rfl (by first | exact Or.inl rfl | exact Or.inr rfl) pe_int)
  (pss_cons (ps_for PassesOwn.never rfl (pi_tup (pv 1)) (pg_name (i := 3) sc_row_number.nd rfl (by first | exact Or.inl rfl | exact Or.inr rfl)) (pss_one (ps_set (i := 2) sc_row_number.nd rfl (by first | exact Or.inl rfl | exact Or.inr rfl) (pe_op op_add (pe_op op_mul (pv 2) (pv 0)) (pv 3)))))
  (pss_one (ps_ret (pv 2))))), ?_⟩)
  · obtain ⟨q, a, xs, rfl, _⟩ := h
    rfl
  · obtain ⟨q, a, xs, rfl, ha, hz, hq, hq2, k⟩ := h
    refine ⟨_, rfl, a, rfl, ⟨_, ha.sq⟩, for_tup (xs := xs.map V.int) (fun i σ H' => H' = H ∧ ∃ v, σ = [some (.int q), some (.ref a), some (.int (rowNum q (xs.take i))), v]) ⟨rfl, none, rfl⟩ (fun i σ H' _ h => h.1 ▸ ha.sq) (fun i x σ H' hx p => ?_) (fun σ H' p => ?_)⟩
    · obtain ⟨rfl, v, rfl⟩ := p
      obtain ⟨rfl, hi⟩ := int_at hx
      refine ⟨_, rfl, _, rfl, _, _, rfl, rfl, .inr ⟨by omega, by omega⟩, _, rfl, _, _, rfl, rfl, rfl, some (.int (xs.getD i 0)), ?_⟩
      have := foldl_take (fun n x => n * q + x) 0 (xs := xs) (i := i) (x := xs.getD i 0) (by rw [List.getD_eq_getElem?_getD, List.getElem?_eq_getElem hi]; rfl)
      unfold rowNum
      rw [this]
      rfl
    · obtain ⟨rfl, v, rfl⟩ := p
      rw [List.length_map, List.take_length]
      exact ⟨_, rfl, k⟩
def rest (q : Int) : Nat → Int → Int
  | 0, m => m
  | n + 1, m => rest q n (m / q)
theorem digs_more (q : Int) : ∀ (n : Nat) (m : Int), digs q (n + 1) m = digs q n m ++ [rest q n m % q]
  | 0, m => rfl
  | n + 1, m => by
    show m % q :: digs q (n + 1) (m / q) = m % q :: (digs q n (m / q) ++ [rest q (n + 1) m % q])
    rw [digs_more q n (m / q)]
    rfl
theorem rest_more (q : Int) : ∀ (n : Nat) (m : Int), rest q (n + 1) m = rest q n m / q
  | 0, m => rfl
  | n + 1, m => rest_more q n (m / q)
theorem digs_len (q : Int) : ∀ (n : Nat) (m : Int), (digs q n m).length = n
  | 0, _ => rfl
  | n + 1, m => by
    show (digs q n (m / q)).length + 1 = n + 1
    rw [digs_len q n]
theorem ok_row_of_number (F : FnP K "row_of_number" s_row_of_number f fd) (Z : Zs mg) : FnOk P w K mg base CX0 1 f fd ["letters", "length", "number"] (spRowOf K) := by
  refine F.ok sc_row_of_number (fun vs H Q E h => ?_) (fun cdv A outer s H vs Q E hr h => ⟨_, PSs.nox (pss_cons (ps_par (i := 3) (j := 4) rfl sc_row_of_number.nd rfl rfl (by decide) rfl rfl (pa_cons (pe_lst pa_nil) (pa_cons (pv 2) pa_nil)) (by rfl))
  (pss_cons (ps_for PassesOwn.never rfl (pi_range1 (by rfl) Z.range (pa_cons (pv 1) pa_nil)) (pg_name (i := 5) sc_row_of_number.nd rfl (by first | exact Or.inl rfl | exact Or.inr rfl)) (pss_cons (ps_expr (km_bm (K := K) PySem.F.plainAttrs_list PySem.F.slot_list_append PySem.F.type_list_append mt_append (pv 3) (pa_cons (pe_op op_mod (pv 4) (pv 0)) pa_nil)))
  (pss_one (ps_set (i := 4) sc_row_of_number.nd rfl (by first | exact Or.inl rfl | exact Or.inr rfl) (pe_op op_fdivW (pv 4) (pv 0))))))
  (pss_one (ps_ret (pe_tuple_reversed Z.tuple Z.reversed (pa_cons (pv 3) pa_nil)))))), ?_⟩)
  · obtain ⟨q, n, m, rfl, _⟩ := h
    rfl
  · obtain ⟨q, n, m, rfl, hq, hq2, hn, hn2, k⟩ := h
    have lq : q.natAbs.log2 < 9000 := by
      have := Nat.log2_le_self q.natAbs
      omega
    refine ⟨by decide, fun l hl => ⟨_, rfl, _, _, rfl, ?_⟩⟩
    refine ⟨_, rfl, n, rfl, by omega, by omega, for_range (lo := 0) (n := n.toNat) (fun i σ H' => ∃ v, σ = [some (.int q), some (.int n), some (.int m), some (.ref l), some (.int (rest q i m)), v] ∧ H' = upd H l (.lst ((digs q i m).map V.int))) ⟨none, rfl, rfl⟩ (fun i σ H' hi p => ?_) (fun σ H' p => ?_)⟩
    · obtain ⟨v, rfl, rfl⟩ := p
      refine ⟨_, rfl, .inl ⟨rfl, _, sq_of upd_same⟩, _, rfl, _, rfl, _, _, rfl, rfl, hq, l, _, _, rfl, rfl, upd_same, sz_lt (by rw [List.length_map, digs_len]; omega), ?_⟩
      refine ⟨_, rfl, _, rfl, _, _, rfl, rfl, ⟨hq, lq⟩, some (.int (0 + (i : Int))), ?_, ?_⟩
      · rw [rest_more]
        rfl
      · rw [upd_upd, digs_more, List.map_append]
        rfl
    · obtain ⟨v, rfl, rfl⟩ := p
      refine ⟨_, rfl, l, _, rfl, .inl (.inl upd_same), ?_⟩
      rw [← List.map_reverse]
      exact k.new (Ex.new hl)
theorem ok_need_row (F : FnP K "need_row" s_need_row f fd) (Z : Zs mg) {C M fI : Addr} (X_InvalidRow : PySem.OwXat.OexT P K C M fI) (g_InvalidRow : mg "InvalidRow" = some (.ref C)) (G_is_tuple_of : Fn P w K mg base CX0 1 "is_tuple_of" s_is_tuple_of ["value", "size"] (spTupOf K))
    (G_is_between : Fn P w K mg base CX0 2 "is_between" s_is_between ["value", "low", "high"] (spBetween K)) : FnOk P w K mg base (L2.CX P w) 3 f fd ["letters", "length", "value"] (spNeed K C) := by
  refine FunD.ok (CX := L2.CX P w) (k := 2) F sc_need_row (fun vs H Q E h => ?_) (fun cdv A outer s H vs Q E hr h => ⟨_, by exact (pss_cons (ps_if (pt_not (pt_val (pe_callF G_is_tuple_of (hr.mono (by decide)) rfl pass0 (pa_cons (pv 2) (pa_cons (pv 1) pa_nil))))) (pss_one (ps_raise rfl (takes_of rfl rfl rfl rfl) (pmk_at X_InvalidRow g_InvalidRow hr (pa_cons (pe_un un_neg pe_int) pa_nil) (by rfl)))) pss_nil)
  (pss_one (ps_for (passes_of rfl) rfl (pi_range1 (by rfl) Z.range (pa_cons (pv 1) pa_nil)) (pg_name (i := 3) sc_need_row.nd rfl (by first | exact Or.inl rfl | exact Or.inr rfl)) (pss_one (ps_if (pt_not (pt_val (pe_callF G_is_between (hr.mono (by decide)) rfl pass0 (pa_cons (pe_ix (kx_tup (K := K)) (pv 2) (pv 3) (fun _ _ => rfl)) (pa_cons pe_int (pa_cons (pe_op op_sub (pv 0) pe_int) pa_nil)))))) (pss_one (ps_raise rfl (takes_of rfl rfl rfl rfl) (pmk_at X_InvalidRow g_InvalidRow hr (pa_cons (pv 3) pa_nil) (by rfl)))) pss_nil))))), ?_⟩)
  · obtain ⟨q, n, x, T, rfl, _⟩ := h
    rfl
  · obtain ⟨q, n, x, T, rfl, hv, h0, h1, h⟩ := h
    rcases h with ⟨hT, r⟩ | ⟨p, xs, rfl, hp, h⟩
    · exact ⟨_, rfl, _, rfl, x, n, rfl, .inl ⟨T, hv, hT, _, rfl, iteT ⟨_, rfl, _, rfl, r⟩⟩⟩
    · refine ⟨_, rfl, _, rfl, _, n, rfl, .inr ⟨p, xs, rfl, hp, _, rfl, ?_⟩⟩
      rcases h with ⟨hl, r⟩ | ⟨hl, hk, h⟩
      · rw [decide_eq_false hl]
        exact iteT ⟨_, rfl, _, rfl, r⟩
      · rw [decide_eq_true hl]
        refine iteF ⟨_, rfl, n, rfl, by omega, by omega, for_range (lo := 0) (n := n.toNat) (fun i σ H' => H' = H ∧ (∀ (j : Nat) (u : V), j < i → xs[j]? = some u → okV 0 (q - 1) u = true) ∧ ∃ v, σ = [some (.int q), some (.int n), some (.ref p), v]) ⟨rfl, fun j u h => by omega, none, rfl⟩ (fun i σ H' hi z => ?_) (fun σ H' z => ?_)⟩
        · obtain ⟨rfl, z, v, rfl⟩ := z
          have e0 : (0 : Int) + (i : Int) = (i : Int) := by omega
          show gName _ (V.int ((0 : Int) + (i : Int))) _ _ _
          rw [e0]
          have hi2 : i < xs.length := by omega
          have hx : xs[i]? = some xs[i] := List.getElem?_eq_getElem hi2
          obtain ⟨T', hT'⟩ := hk _ (List.getElem_mem hi2)
          refine ⟨_, rfl, _, rfl, p, xs, i, xs[i], rfl, rfl, hp.sq, atI_nat hx, _, rfl, _, _, rfl, rfl, xs[i], T', 0, q - 1, rfl, hT', _, rfl, ?_⟩
          cases c : okV 0 (q - 1) xs[i] with
          | true =>
            refine iteF ⟨rfl, fun j u hj hu => ?_, some (.int i), rfl⟩
            by_cases e : j = i
            · subst e
              rw [hx] at hu
              cases hu
              exact c
            · exact z j u (by omega) hu
          | false =>
            refine iteT ⟨_, rfl, ?_⟩
            rcases h with ⟨h, _⟩ | ⟨k, u, hu, hu2, hu3, r⟩
            · rw [h _ (List.getElem_mem hi2)] at c
              cases c
            · have : k = i := by
                rcases Nat.lt_trichotomy k i with l | l | l
                · rw [z k u l hu] at hu2
                  cases hu2
                · exact l
                · rw [hu3 i _ l hx] at c
                  cases c
              subst this
              exact ⟨_, rfl, r⟩
        · obtain ⟨rfl, z, v, rfl⟩ := z
          rcases h with ⟨_, h⟩ | ⟨k, u, hu, hu2, _⟩
          · exact h
          · rw [z k u (by have := (List.getElem?_eq_some_iff.mp hu).1; omega) hu] at hu2
            cases hu2
end
end K02

namespace K02
open PySem PySem.Spec PyProof.Rows L2 Evl Own
section
variable {P : Program} {w : World} {K : PySem.W.Frag} {mg : Str → Option Value} {base : Heap} {f : Addr} {fd : FuncData}
theorem ok__law_deal (F : FnP K "_law_deal" s__law_deal f fd) (Z : Zs mg) : FnOk P w K mg base CX0 1 f fd ["script", "salt"] (spDeal K) := by
  refine F.ok sc__law_deal (fun vs H Q E h => ?_) (fun cdv A outer s H vs Q E hr h => ⟨_, PSs.nox (pss_cons (ps_setLc (i := 2) (own := [("cell", 3)]) (g := (gName 3)) rfl sc__law_deal.nd rfl rfl (sw_true rfl rfl rfl (by decide +kernel)) (pi_list (pe_slice (ksl_list (K := K)) (pv 0) po_none (po_some pe_int))) (blkOk_by (own := [("cell", 3)]) (N := ["script", "salt", "cells", "cell", "mix"]) (sc := defScope s__law_deal) (by decide +kernel)) (fun _ _ _ _ _ => (pg_name (i := 3) sc__law_deal.nd rfl (Or.inl rfl))) (fun _ _ _ _ _ => pts_nil) (fun _ _ _ _ _ => (pe_callB call_abs (by rfl) Z.abs (by decide +kernel) (pa_cons (pe_callTy call_int1 (by rfl) Z.int (by decide +kernel) (pa_cons (pv 3) pa_nil)) pa_nil))))
  (pss_cons (ps_set (i := 4) sc__law_deal.nd rfl (by first | exact Or.inl rfl | exact Or.inr rfl) (pe_op op_add pe_int (pe_op op_mul pe_int (pv 1))))
  (pss_cons (ps_for PassesOwn.never rfl (pi_list (pv 2)) (pg_name (i := 3) sc__law_deal.nd rfl (by first | exact Or.inl rfl | exact Or.inr rfl)) (pss_one (ps_set (i := 4) sc__law_deal.nd rfl (by first | exact Or.inl rfl | exact Or.inr rfl) (pe_op op_mod (pe_callTy call_int1 (by rfl) Z.int (by decide +kernel) (pa_cons (pe_op op_add (pe_op op_add (pe_op op_mul (pv 4) pe_int) (pe_op op_mod (pv 3) pe_int)) pe_int) pa_nil)) pe_int))))
  (pss_one (ps_ret (pe_lst (pa_cons (pe_revL (pe_lc (own := [("cell", 3)]) (g := (gName 3)) rfl sc__law_deal.nd (pi_list (pv 2)) (blkOk_by (own := [("cell", 3)]) (N := ["script", "salt", "cells", "cell", "mix"]) (sc := defScope s__law_deal) (by decide +kernel)) (fun _ _ _ _ _ => (pg_name (i := 3) sc__law_deal.nd rfl (Or.inl rfl))) (fun _ _ _ _ _ => (pts_one (pt_cmpR op_ge (pv 3) (pe_op op_pow pe_int pe_int) (nomark _)))) (fun _ _ _ _ _ => (pv 3)))) (pa_cons (pv 4) (pa_cons pe_int pa_nil))))))))), ?_⟩)
  · obtain ⟨a, ns, salt, rfl, _⟩ := h
    rfl
  · obtain ⟨a, ns, salt, rfl, ha, s0, s1, k⟩ := h
    obtain ⟨ms, hm, hml⟩ := cut_ints ns none (some 63)
    have hm63 := cut_len63 ns
    rw [hm, List.length_map] at hm63
    refine ⟨_, rfl, _, rfl, a, _, rfl, ha, fun p hp => ⟨p, rfl, ⟨_, sq_of upd_same⟩, ?_⟩⟩
    rw [hm]
    have e1 := Ex.new (o := .lst (ms.map V.int)) hp
    refine lcP (Q := fun _ _ => _) (walk_list (xs := ms.map V.int)) (fun H' e => sq_of (e _ _ upd_same)) (by rw [List.length_map]; omega) (fun _ => true) (fun i => V.int (if ms.getD i 0 < 0 then -(ms.getD i 0) else ms.getD i 0)) (fun i H1 x H2 hi e y K1 K0 k1 k0 => ?_) (fun q H2 hq e2 h2 => ?_)
    · obtain ⟨rfl, g⟩ := y
      obtain ⟨rfl, _⟩ := int_at g
      exact ⟨rfl, yes_go ⟨_, rfl, .inl ⟨_, rfl, _, rfl, k1 rfl _ (Ex.refl _)⟩⟩⟩
    · rw [given_all, List.length_map, range_map 0 (fun x => V.int (if x < 0 then -x else x)), show (ms.map fun x => V.int (if x < 0 then -x else x)) = (ms.map fun x => if x < 0 then -x else x).map V.int by rw [List.map_map]; rfl] at h2
      have hpos : ∀ x ∈ ms.map (fun x => if x < 0 then -x else x), 0 ≤ x := fun x hx => by
        obtain ⟨y, _, rfl⟩ := List.mem_map.mp hx
        split <;> omega
      have hlen : (ms.map fun x => if x < 0 then -x else x).length ≤ 63 := by rw [List.length_map]; omega
      generalize (ms.map fun x => if x < 0 then -x else x) = cs at h2 hpos hlen
      have e12 := e1.trans e2
      refine ⟨_, rfl, _, _, rfl, rfl, .inl ⟨by decide, by decide⟩, _, _, rfl, rfl, ?_⟩
      refine ⟨_, rfl, q, rfl, ⟨_, sq_of h2⟩, for_list (xs := cs.map V.int) (fun i σ H' => H' = H2 ∧ ∃ (v : Option V) (mix : Int), 0 ≤ mix ∧ mix < 2147483647 ∧ σ = [some (.ref a), some (.int salt), some (.ref q), v, some (.int mix)]) ⟨rfl, none, _, ?_, ?_, rfl⟩ (fun i σ H' _ h => h.1 ▸ sq_of h2) (fun i x σ H' hx z => ?_) (fun σ H' z => ?_)⟩
      · omega
      · omega
      · obtain ⟨rfl, v, mix, m0, m1, rfl⟩ := z
        obtain ⟨rfl, _⟩ := int_at hx
        refine ⟨_, rfl, _, _, rfl, rfl, .inr ⟨by decide, by decide⟩, _, rfl, _, _, rfl, rfl, (show (0 : Int) < 2147483563 by decide), _, _, rfl, rfl, _, _, rfl, rfl, .inl ⟨_, rfl, _, _, rfl, rfl, (show (0 : Int) < 2147483647 by decide), ?_⟩⟩
        exact ⟨rfl, _, _, Int.emod_nonneg _ (by decide), Int.emod_lt_of_pos _ (by decide), rfl⟩
      · obtain ⟨rfl, v, mix, m0, m1, rfl⟩ := z
        refine ⟨_, rfl, q, rfl, ⟨_, sq_of h2⟩, lcP (walk_list (xs := cs.map V.int)) (fun H' e => sq_of (e _ _ h2)) (by rw [List.length_map]; omega) (fun i => decide (10 ^ 18 ≤ cs.getD i 0)) (fun i => V.int (cs.getD i 0)) (fun i H1 x H3 hi e y K1 K0 k1 k0 => ?_) (fun r H3 hr e3 h3 => ?_)⟩
        · obtain ⟨rfl, g⟩ := y
          obtain ⟨rfl, _⟩ := int_at g
          refine ⟨rfl, _, rfl, _, _, rfl, rfl, ⟨by decide, by decide, by decide⟩, _, _, rfl, rfl, _, rfl, ?_⟩
          by_cases c : (10 : Int) ^ 18 ≤ cs.getD i 0
          · have c' : (10 : Int) ^ (18 : Int).toNat ≤ cs.getD i 0 := c
            rw [decide_eq_true c']
            exact iteT ⟨_, rfl, k1 (decide_eq_true c) _ (Ex.refl _)⟩
          · have c' : ¬ (10 : Int) ^ (18 : Int).toNat ≤ cs.getD i 0 := c
            rw [decide_eq_false c']
            exact iteF (k0 (decide_eq_false c) _ (Ex.refl _))
        · have e13 := e12.trans e3
          rw [given_ints, List.length_map] at h3
          refine ⟨r, _, rfl, sq_of h3, ?_⟩
          rw [← List.map_reverse]
          refine fun t ht => ⟨_, rfl, (by show 3 ≤ sizeLine; decide), fun d hd => k d t _ ?_⟩
          clear h3
          have hlen2 : (((List.range cs.length).filter fun i => decide ((10 : Int) ^ 18 ≤ cs.getD i 0)).map fun i => cs.getD i 0).length ≤ cs.length := by
            rw [List.length_map]
            exact Nat.le_trans (List.length_filter_le _ _) (by rw [List.length_range]; exact Nat.le_refl _)
          have hpos2 : ∀ x ∈ (((List.range cs.length).filter fun i => decide ((10 : Int) ^ 18 ≤ cs.getD i 0)).map fun i => cs.getD i 0), 0 ≤ x := fun x hx => by
            obtain ⟨i, hi, rfl⟩ := List.mem_map.mp hx
            exact hpos _ (Own.getD_mem (List.mem_range.mp (List.mem_filter.mp hi).1))
          generalize (((List.range cs.length).filter fun i => decide ((10 : Int) ^ 18 ≤ cs.getD i 0)).map fun i => cs.getD i 0) = ds at hlen2 hpos2 hd
          have td : t ≠ d := fun e => by
            subst e
            rw [upd_same] at hd
            cases hd
          have hd3 : H3 d = none := by
            rw [upd_ne td.symm] at hd
            exact hd
          refine (Wd.wl (cs := ds.reverse) (m := mix) (c := 0) ⟨e13.trans ((Ex.new ht).trans (Ex.new hd)), fresh_back e13 hd3, fresh_back e13 ht, td.symm, upd_same, by rw [upd_ne td]; exact upd_same, fun x hx => hpos2 x (List.mem_reverse.mp hx), m0, m1, by decide, by rw [List.length_reverse]; omega⟩)
theorem ok__law_any (F : FnP K "_law_any" s__law_any f fd) (Z : Zs mg) : FnOk P w K mg base CX0 1 f fd ["deal", "bound"] spAny := by
  refine F.ok sc__law_any (fun vs H Q E h => ?_) (fun cdv A outer s H vs Q E hr h => ⟨_, PSs.nox (pss_cons (ps_while PassesOwn.never (PW.pt (pw_and (pt_cmpR (ko_ne (K := K) hr.units) (pe_ix (kx_list (K := K)) (pv 0) pe_int (fun _ _ => rfl)) (pe_lst pa_nil) (nomark _)) (pw_and1 (pt_cmpR op_eq (pe_ix (kx_list (K := K)) (pe_ix (kx_list (K := K)) (pv 0) pe_int (fun _ _ => rfl)) (pe_un un_neg pe_int) (fun _ _ => rfl)) pe_int (nomark _))))) (pss_one (ps_expr (km_bm0 (K := K) PySem.F.plainAttrs_list PySem.F.slot_list_pop PySem.F.type_list_pop mt_pop (pe_ix (kx_list (K := K)) (pv 0) pe_int (fun _ _ => rfl))))))
  (pss_cons (ps_if (pt_cmpR (ko_ne (K := K) hr.units) (pe_ix (kx_list (K := K)) (pv 0) pe_int (fun _ _ => rfl)) (pe_lst pa_nil) (nomark _)) (pss_cons (ps_set (i := 2) sc__law_any.nd rfl (by first | exact Or.inl rfl | exact Or.inr rfl) (pe_callTy call_int1 (by rfl) Z.int (by decide +kernel) (pa_cons (km_bm0 (K := K) PySem.F.plainAttrs_list PySem.F.slot_list_pop PySem.F.type_list_pop mt_pop (pe_ix (kx_list (K := K)) (pv 0) pe_int (fun _ _ => rfl))) pa_nil)))
  (pss_cons (ps_expr (km_bm (K := K) PySem.F.plainAttrs_list PySem.F.slot_list_append PySem.F.type_list_append mt_append (pe_ix (kx_list (K := K)) (pv 0) pe_int (fun _ _ => rfl)) (pa_cons (pe_op op_fdivW (pv 2) (pv 1)) pa_nil)))
  (pss_one (ps_ret (pe_op op_mod (pv 2) (pv 1)))))) pss_nil)
  (pss_cons (ps_asg (pe_op op_add (pe_ix (kx_list (K := K)) (pv 0) pe_int (fun _ _ => rfl)) pe_int) (pg_sub (pv 0) pe_int set_list))
  (pss_cons (ps_asg (pe_op op_mod (pe_callTy call_int1 (by rfl) Z.int (by decide +kernel) (pa_cons (pe_op op_add (pe_op op_add (pe_op op_mul (pe_ix (kx_list (K := K)) (pv 0) pe_int (fun _ _ => rfl)) pe_int) pe_int) (pe_op op_mul pe_int (pe_ix (kx_list (K := K)) (pv 0) pe_int (fun _ _ => rfl)))) pa_nil)) pe_int) (pg_sub (pv 0) pe_int set_list))
  (pss_one (ps_ret (pe_op op_mod (pe_callTy call_int1 (by rfl) Z.int (by decide +kernel) (pa_cons (pe_op op_fdivW (pe_op op_mod (pe_callTy call_int1 (by rfl) Z.int (by decide +kernel) (pa_cons (pe_op op_add (pe_op op_mul (pe_ix (kx_list (K := K)) (pv 0) pe_int (fun _ _ => rfl)) pe_int) (pe_ix (kx_list (K := K)) (pv 0) pe_int (fun _ _ => rfl))) pa_nil)) pe_int) pe_int) pa_nil)) (pv 1)))))))), ?_⟩)
  · obtain ⟨a, l, R, b, rfl, _⟩ := h
    rfl
  · obtain ⟨a, l, R, b, rfl, hw, b0, bl, k⟩ := h
    refine while_split (fun m σ H' => σ = [some (.ref a), some (.int b), none] ∧ ∃ cs mx c, Wd a l R H' cs mx c ∧ cs.length = m) (fun σ H' => σ = [some (.ref a), some (.int b), none] ∧ ∃ cs mx c, Wd a l R H' cs mx c) ?_ ?_ ?_
    · obtain ⟨cs, m, c, hd⟩ := hw.wd
      exact ⟨_, rfl, cs, m, c, hd, rfl⟩
    · rintro σ H' ⟨rfl, cs, mx, c, hd⟩
      refine ⟨_, rfl, a, _, 0, .ref l, rfl, rfl, sq_of hd.is.ha, rfl, by decide, fun z hz => ?_⟩
      have hd1 := hd.keep (Ex.new (o := .lst []) hz)
      refine ne_nil hd1.is.hl upd_same ?_
      rcases cases_last cs with rfl | ⟨ds, x, rfl⟩
      · refine ⟨_, rfl, iteF ?_⟩
        refine ⟨_, rfl, a, _, 2, .int c, rfl, rfl, sq_of hd1.is.ha, rfl, _, _, rfl, rfl, _, rfl, a, _, 2, 2, rfl, rfl, hd1.is.ha, rfl, ?_⟩
        have hd2 := hd1.nums (m' := mx) (c' := c + 1) hd1.is.m0 hd1.is.m1 (by have := hd1.is.c0; omega)
        refine ⟨_, rfl, a, _, 1, .int mx, rfl, rfl, sq_of hd2.is.ha, rfl, _, _, rfl, rfl, .inr ⟨by decide, by decide⟩, _, _, rfl, rfl, _, rfl, a, _, 2, .int (c + 1), rfl, rfl, sq_of hd2.is.ha, rfl, _, _, rfl, rfl, .inl ⟨by decide, by decide⟩, _, _, rfl, rfl, .inl ⟨_, rfl, _, _, rfl, rfl, (show (0 : Int) < 2147483647 by decide), _, rfl, a, _, 1, 1, rfl, rfl, hd2.is.ha, rfl, ?_⟩⟩
        have hd3 := hd2.nums (m' := (mx * 48271 + 41 + 1009 * (c + 1)) % 2147483647) (c' := c + 1) (Int.emod_nonneg _ (by decide)) (Int.emod_lt_of_pos _ (by decide)) hd2.is.c0
        refine ⟨_, rfl, a, _, 1, .int _, rfl, rfl, sq_of hd3.is.ha, rfl, _, _, rfl, rfl, .inr ⟨by decide, by decide⟩, _, rfl, a, _, 2, .int (c + 1), rfl, rfl, sq_of hd3.is.ha, rfl, _, _, rfl, rfl, .inl ⟨_, rfl, _, _, rfl, rfl, (show (0 : Int) < 2147483629 by decide), _, _, rfl, rfl, ⟨by decide, by decide⟩, .inl ⟨_, rfl, _, rfl, _, _, rfl, rfl, b0, k _ _ (Int.emod_nonneg _ (by omega)) (Int.emod_lt_of_pos _ b0) hd3.wl⟩⟩⟩
      · rw [not_empty]
        refine ⟨_, rfl, iteT ?_⟩
        refine ⟨_, rfl, a, _, 0, .ref l, rfl, rfl, sq_of hd1.is.ha, rfl, .inl ⟨rfl, _, sq_of hd1.is.hl⟩, l, _, _, rfl, rfl, hd1.is.hl, (pop_last ds x).1, ?_⟩
        rw [(pop_last ds x).2]
        have hx : 0 ≤ x := hd1.is.pos x (by simp)
        have hlen := hd1.is.len
        rw [List.length_append, List.length_singleton] at hlen
        have hd2 := hd1.cells (ds := ds) (fun x hx => hd1.is.pos x (List.mem_append_left _ hx)) (by omega)
        refine .inl ⟨_, rfl, ?_⟩
        refine ⟨_, rfl, a, _, 0, .ref l, rfl, rfl, sq_of hd2.is.ha, rfl, .inl ⟨rfl, _, sq_of hd2.is.hl⟩, _, rfl, _, rfl, _, _, rfl, rfl, ⟨b0, bl⟩, l, _, _, rfl, rfl, hd2.is.hl, sz_lt (by rw [List.length_map]; omega), ?_⟩
        have hd3 := hd2.cells (ds := ds ++ [x / b]) (fun y hy => by
          rcases List.mem_append.mp hy with h | h
          · exact hd1.is.pos y (List.mem_append_left _ h)
          · rw [List.mem_singleton.mp h]
            exact Int.ediv_nonneg hx (by omega)) (by rw [List.length_append, List.length_singleton]; omega)
        rw [List.map_append] at hd3
        exact ⟨_, rfl, _, rfl, _, _, rfl, rfl, b0, k _ _ (Int.emod_nonneg _ (by omega)) (Int.emod_lt_of_pos _ b0) hd3.wl⟩
    · rintro nx hn m σ H' ⟨rfl, cs, mx, c, hd, rfl⟩
      refine ⟨_, rfl, a, _, 0, .ref l, rfl, rfl, sq_of hd.is.ha, rfl, by decide, fun z hz => ?_⟩
      have hd1 := hd.keep (Ex.new (o := .lst []) hz)
      refine ne_nil hd1.is.hl upd_same ?_
      rcases cases_last cs with rfl | ⟨ds, x, rfl⟩
      · exact ⟨_, rfl, iteF (iteF (hn _ _ ⟨rfl, _, _, _, hd1⟩))⟩
      · rw [not_empty]
        refine ⟨_, rfl, iteT ?_⟩
        refine ⟨_, rfl, a, _, 0, .ref l, rfl, rfl, sq_of hd1.is.ha, rfl, _, rfl, l, _, _, _, rfl, rfl, sq_of hd1.is.hl, at_last ds x, rfl, _, rfl, ?_⟩
        rw [dec_int]
        by_cases hx : x = 0
        · subst hx
          refine iteT ⟨_, fun σ' H' h => h, ⟨_, rfl, a, _, 0, .ref l, rfl, rfl, sq_of hd1.is.ha, rfl, .inl ⟨rfl, _, sq_of hd1.is.hl⟩, l, _, _, rfl, rfl, hd1.is.hl, (pop_last ds 0).1, ?_⟩⟩
          rw [(pop_last ds 0).2]
          exact ⟨ds.length, by rw [List.length_append, List.length_singleton]; omega, rfl, ds, _, _, hd1.cells (fun x hx => hd1.is.pos x (List.mem_append_left _ hx)) (by have := hd1.is.len; rw [List.length_append] at this; omega), rfl⟩
        · rw [beq_eq_false_iff_ne.mpr hx]
          exact iteF (hn _ _ ⟨rfl, _, _, _, hd1⟩)
theorem ok__law_of (F : FnP K "_law_of" s__law_of f fd) (Z : Zs mg) (G__law_any : Fn P w K mg base CX0 1 "_law_any" s__law_any ["deal", "bound"] spAny) : FnOk P w K mg base CX0 2 f fd ["deal", "some"] (spOf K) := by
  refine F.ok sc__law_of (fun vs H Q E h => ?_) (fun cdv A outer s H vs Q E hr h => ⟨_, PSs.nox (pss_one (ps_ret (pe_ix (kx_list (K := K)) (pv 1) (pe_callF G__law_any (hr.mono (by decide)) rfl pass0 (pa_cons (pv 0) (pa_cons (pe_callB (kc_len (K := K)) (by rfl) Z.len PySem.boot_len (pa_cons (pv 1) pa_nil)) pa_nil))) (fun _ _ => rfl)))), ?_⟩)
  · obtain ⟨a, l, p, R, xs, rfl, _⟩ := h
    rfl
  · obtain ⟨a, l, p, R, xs, rfl, hw, hp, hne, hz, k⟩ := h
    have hlen : 0 < xs.length := List.length_pos_iff.mpr hne
    refine ⟨_, rfl, _, rfl, _, rfl, p, _, rfl, .inl (ex_l hw.ex hp), a, l, R, (xs.length : Int), rfl, hw, Int.ofNat_lt.mpr hlen, ?_, fun r H1 h0 h1 hw1 => ?_⟩
    · have := Nat.log2_le_self xs.length
      show xs.length.log2 < 9000
      omega
    · have hi : r.toNat < xs.length := by omega
      have hx : xs[r.toNat]? = some xs[r.toNat] := List.getElem?_eq_getElem hi
      refine ⟨p, _, r, xs[r.toNat], rfl, rfl, ex_l hw1.ex hp, ?_, k _ _ (List.getElem_mem hi) hw1⟩
      have e : r = ((r.toNat : Nat) : Int) := by omega
      have := atI_nat hx
      rw [← e] at this
      exact this
theorem ok__law_same0 (F : FnP K "_law_same" s__law_same f fd) (Z : Zs mg) : FnOk P w K mg base CX0 1 f fd ["told", "due"] (spSameR K 0) :=
  F.ok sc__law_same (fun vs H Q E h => h.elim) (fun cdv A outer s H vs Q E hr h => h.elim)
theorem ok__law_sameS {n : Nat} (F : FnP K "_law_same" s__law_same f fd) (Z : Zs mg) (G__law_same : Fn P w K mg base CX0 (n + 1) "_law_same" s__law_same ["told", "due"] (spSameR K n)) : FnOk P w K mg base CX0 (n + 2) f fd ["told", "due"] (spSame K n) := by
  refine F.ok sc__law_same (fun vs H Q E h => ?_) (fun cdv A outer s H vs Q E hr h => ⟨_, PSs.nox (pss_cons (ps_if (pt_val (pe_callB (kc_isi (K := K)) (by rfl) Z.isinstance (by decide +kernel) (pa_cons (pv 1) (pa_cons (pe_bltn (v := .ty "tuple") (u := .type "tuple") (by rfl) Z.tuple (by decide +kernel) rfl) pa_nil)))) (pss_cons (ps_if (PW.pt (pw_or (pt_not (pt_val (pe_callB (kc_isi (K := K)) (by rfl) Z.isinstance (by decide +kernel) (pa_cons (pv 0) (pa_cons (pe_bltn (v := .ty "tuple") (u := .type "tuple") (by rfl) Z.tuple (by decide +kernel) rfl) pa_nil))))) (pw_or1 (pt_cmpR op_ne (pe_callB (kc_len (K := K)) (by rfl) Z.len PySem.boot_len (pa_cons (pv 0) pa_nil)) (pe_callB (kc_len (K := K)) (by rfl) Z.len PySem.boot_len (pa_cons (pv 1) pa_nil)) (nomark _))))) (pss_one (ps_ret pe_bl)) pss_nil)
  (pss_one (ps_ret (pe_cmpR op_eq (pe_callB (kc_len (K := K)) (by rfl) Z.len PySem.boot_len (pa_cons (pe_lc (own := [("at", 2)]) (g := (gName 2)) rfl sc__law_same.nd (pi_range1 (by rfl) Z.range (pa_cons (pe_callB (kc_len (K := K)) (by rfl) Z.len PySem.boot_len (pa_cons (pv 1) pa_nil)) pa_nil)) (blkOk_by (own := [("at", 2)]) (N := ["told", "due", "at"]) (sc := defScope s__law_same) (by decide +kernel)) (fun _ _ _ _ _ => (pg_name (i := 2) sc__law_same.nd rfl (Or.inl rfl))) (fun _ _ _ _ _ => (pts_one (pt_not (pt_val (pe_callF G__law_same (hr.mono (Nat.le_refl _)) rfl pass0 (pa_cons (pe_ix (kx_tup (K := K)) (pv 0) (pv 2) (fun _ _ => rfl)) (pa_cons (pe_ix (kx_tup (K := K)) (pv 1) (pv 2) (fun _ _ => rfl)) pa_nil))))))) (fun _ _ _ _ _ => (pv 2))) pa_nil)) pe_int (nomark _))))) pss_nil)
  (pss_cons (ps_if (pt_cmpR op_isN (pv 1) pe_non (nomark _)) (pss_one (ps_ret (pe_cmpR op_isN (pv 0) pe_non (nomark _)))) pss_nil)
  (pss_cons (ps_if (pt_val (pe_callB (kc_isi (K := K)) (by rfl) Z.isinstance (by decide +kernel) (pa_cons (pv 1) (pa_cons (pe_bltn (v := .ty "bool") (u := .type "bool") (by rfl) Z.bool (by decide +kernel) rfl) pa_nil)))) (pss_one (ps_ret (pe_ifExp (pt_val (pv 1)) (pe_cmpR op_isBl (pv 0) pe_bl (nomark _)) (pe_cmpR op_isBl (pv 0) pe_bl (nomark _))))) pss_nil)
  (pss_cons (ps_if (pt_val (pe_callB (kc_isi (K := K)) (by rfl) Z.isinstance (by decide +kernel) (pa_cons (pv 1) (pa_cons (pe_bltn (v := .ty "int") (u := .type "int") (by rfl) Z.int (by decide +kernel) rfl) pa_nil)))) (pss_one (ps_ret (pe_and (pe_callB (kc_isi (K := K)) (by rfl) Z.isinstance (by decide +kernel) (pa_cons (pv 0) (pa_cons (pe_bltn (v := .ty "int") (u := .type "int") (by rfl) Z.int (by decide +kernel) rfl) pa_nil))) (pe_and (pe_not (pe_callB (kc_isi (K := K)) (by rfl) Z.isinstance (by decide +kernel) (pa_cons (pv 0) (pa_cons (pe_bltn (v := .ty "bool") (u := .type "bool") (by rfl) Z.bool (by decide +kernel) rfl) pa_nil)))) (pe_one (pe_cmpR op_eq (pv 0) (pv 1) (nomark _))))))) pss_nil)
  (pss_one (ps_ret (pe_and (pe_callB (kc_isi (K := K)) (by rfl) Z.isinstance (by decide +kernel) (pa_cons (pv 0) (pa_cons (pe_bltn (v := .ty "str") (u := .type "str") (by rfl) Z.str (by decide +kernel) rfl) pa_nil))) (pe_one (pe_cmpR op_eq (pv 0) (pv 1) (nomark _)))))))))), ?_⟩)
  · obtain ⟨x, y, rfl, _⟩ := h
    rfl
  · obtain ⟨x, y, rfl, h, k⟩ := h
    have h' : (x = y ∧ scalV x = true) ∨ ∃ m, n = m + 1 ∧ ∃ p q xs ys, x = .ref p ∧ y = .ref q ∧ Tp K H p xs ∧ Tp K H q ys ∧ xs.length = ys.length ∧ xs.length ≤ 1000 ∧ ∀ (i : Nat) u v, xs[i]? = some u → ys[i]? = some v → Sm K H m u v := by
      cases n with
      | zero => exact .inl h
      | succ m =>
        rcases h with h | h
        · exact .inl h
        · exact .inr ⟨m, rfl, h⟩
    rcases h' with ⟨rfl, hs⟩ | ⟨m, rfl, p, q, xs, ys, rfl, rfl, hp, hq, hl, hz, hi⟩
    · cases x <;> first | cases hs | skip
      · refine ⟨_, rfl, _, .ty "tuple", _, .type "tuple", _, rfl, .ty _, ((Vk.non : Vk K H _ _)).ty, kit_vk ((Vk.non : Vk K H _ _)) "tuple", _, rfl, iteF ?_⟩
        exact ⟨_, rfl, rfl, _, rfl, iteT ⟨_, rfl, rfl, k _ (Ex.refl _)⟩⟩
      · rename_i b
        refine ⟨_, rfl, _, .ty "tuple", _, .type "tuple", _, rfl, .ty _, ((Vk.bl b : Vk K H _ _)).ty, kit_vk ((Vk.bl b : Vk K H _ _)) "tuple", _, rfl, iteF ?_⟩
        refine ⟨_, rfl, rfl, _, rfl, iteF ?_⟩
        refine ⟨_, rfl, _, .ty "bool", _, .type "bool", _, rfl, .ty _, ((Vk.bl b : Vk K H _ _)).ty, kit_vk ((Vk.bl b : Vk K H _ _)) "bool", _, rfl, iteT ?_⟩
        cases b
        · exact ⟨_, rfl, _, rfl, iteF ⟨_, rfl, _, _, rfl, rfl, k _ (Ex.refl _)⟩⟩
        · exact ⟨_, rfl, _, rfl, iteT ⟨_, rfl, _, _, rfl, rfl, k _ (Ex.refl _)⟩⟩
      · rename_i i
        refine ⟨_, rfl, _, .ty "tuple", _, .type "tuple", _, rfl, .ty _, ((Vk.int i : Vk K H _ _)).ty, kit_vk ((Vk.int i : Vk K H _ _)) "tuple", _, rfl, iteF ?_⟩
        refine ⟨_, rfl, rfl, _, rfl, iteF ?_⟩
        refine ⟨_, rfl, _, .ty "bool", _, .type "bool", _, rfl, .ty _, ((Vk.int i : Vk K H _ _)).ty, kit_vk ((Vk.int i : Vk K H _ _)) "bool", _, rfl, iteF ?_⟩
        refine ⟨_, rfl, _, .ty "int", _, .type "int", _, rfl, .ty _, ((Vk.int i : Vk K H _ _)).ty, kit_vk ((Vk.int i : Vk K H _ _)) "int", _, rfl, iteT ?_⟩
        refine ⟨_, rfl, _, .ty "int", _, .type "int", _, rfl, .ty _, ((Vk.int i : Vk K H _ _)).ty, kit_vk ((Vk.int i : Vk K H _ _)) "int", _, rfl, iteT ⟨_, rfl, _, .ty "bool", _, .type "bool", _, rfl, .ty _, ((Vk.int i : Vk K H _ _)).ty, kit_vk ((Vk.int i : Vk K H _ _)) "bool", _, rfl, _, rfl, iteT ⟨_, rfl, _, rfl, rfl, ?_⟩⟩⟩
        rw [dec_int, beq_self_eq_true]
        exact k _ (Ex.refl _)
      · rename_i z
        refine ⟨_, rfl, _, .ty "tuple", _, .type "tuple", _, rfl, .ty _, ((Vk.str z : Vk K H _ _)).ty, kit_vk ((Vk.str z : Vk K H _ _)) "tuple", _, rfl, iteF ?_⟩
        refine ⟨_, rfl, rfl, _, rfl, iteF ?_⟩
        refine ⟨_, rfl, _, .ty "bool", _, .type "bool", _, rfl, .ty _, ((Vk.str z : Vk K H _ _)).ty, kit_vk ((Vk.str z : Vk K H _ _)) "bool", _, rfl, iteF ?_⟩
        refine ⟨_, rfl, _, .ty "int", _, .type "int", _, rfl, .ty _, ((Vk.str z : Vk K H _ _)).ty, kit_vk ((Vk.str z : Vk K H _ _)) "int", _, rfl, iteF ?_⟩
        refine ⟨_, rfl, _, .ty "str", _, .type "str", _, rfl, .ty _, ((Vk.str z : Vk K H _ _)).ty, kit_vk ((Vk.str z : Vk K H _ _)) "str", _, rfl, iteT ⟨_, rfl, _, rfl, rfl, ?_⟩⟩
        rw [decide_eq_true rfl]
        exact k _ (Ex.refl _)
    · refine ⟨_, rfl, _, .ty "tuple", _, .type "tuple", _, rfl, .ty _, ((Vk.tup hq : Vk K H _ _)).ty, kit_vk ((Vk.tup hq : Vk K H _ _)) "tuple", _, rfl, iteT ?_⟩
      refine ⟨_, rfl, _, .ty "tuple", _, .type "tuple", _, rfl, .ty _, ((Vk.tup hp : Vk K H _ _)).ty, kit_vk ((Vk.tup hp : Vk K H _ _)) "tuple", _, rfl, iteF ⟨_, rfl, p, _, rfl, .inr hp.sq, _, rfl, q, _, rfl, .inr hq.sq, rfl, _, rfl, ?_⟩⟩
      rw [hl, decide_eq_true rfl]
      refine iteF ?_
      refine ⟨_, rfl, q, _, rfl, .inr hq.sq, _, rfl, by omega, by omega, ?_⟩
      rw [show ((ys.length : Nat) : Int).toNat = ys.length by omega]
      refine lcP (walk_range (lo := 0)) (fun _ _ => trivial) (by omega) (fun _ => false) (fun i => V.int (i : Int)) (fun i H1 x H2 hi' e y K1 K0 k1 k0 => ?_) (fun r H2 hr e2 h2 => ?_)
      · obtain ⟨rfl, rfl⟩ := y
        have e0 : (0 : Int) + (i : Int) = (i : Int) := by omega
        show gName _ (V.int ((0 : Int) + (i : Int))) _ _ _
        rw [e0]
        have hx : xs[i]? = some (xs[i]'(by omega)) := List.getElem?_eq_getElem _
        have hy : ys[i]? = some ys[i] := List.getElem?_eq_getElem _
        refine ⟨rfl, _, rfl, _, rfl, p, _, _, _, rfl, rfl, (hp.ex e).sq, atI_nat hx, _, rfl, _, rfl, q, _, _, _, rfl, rfl, (hq.ex e).sq, atI_nat hy, ?_⟩
        exact ⟨_, _, rfl, (hi i _ _ hx hy).ex e, fun H' e' => ⟨_, rfl, iteF (k0 rfl _ e')⟩⟩
      · have h0 : given ys.length (fun _ => false) (fun i => V.int (i : Int)) = [] := by
          unfold given
          simp
        rw [h0] at h2
        exact ⟨r, _, rfl, .inl (sq_of h2), rfl, k _ e2⟩
theorem ok__law_same (F : FnP K "_law_same" s__law_same f fd) (hb : Binds K fd ["told", "due"] []) (hf : mg "_law_same" = some (.ref f)) (Z : Zs mg) : ∀ n : Nat, FnOk P w K mg base CX0 (n + 2) f fd ["told", "due"] (spSame K n)
  | 0 => ok__law_sameS F Z ⟨f, fd, hf, F, hb, ok__law_same0 F Z⟩
  | n + 1 => ok__law_sameS F Z ⟨f, fd, hf, F, hb, ok__law_same F hb hf Z n⟩
end
end K02

namespace K02
open PySem PySem.Spec PyProof.Rows L2 Evl Own
def In0 (q : Int) (xs : List Int) : Prop := ∀ x ∈ xs, 0 ≤ x ∧ x < q
def spLawRow (K : PySem.W.Frag) : Sp := fun vs H Q _ => ∃ (a l : Addr) (R : Hp) (q n : Int), vs = [.ref a, .int q, .int n] ∧ Wl a l R H ∧ 0 < q ∧ q ≤ 1000 ∧ 0 ≤ n ∧ n ≤ 1000 ∧
  ∀ xs : List Int, (xs.length : Int) = n → In0 q xs → RetW K a l R (xs.map V.int) Q
def spLawNear (K : PySem.W.Frag) : Sp := fun vs H Q _ => ∃ (a l : Addr) (R : Hp) (q : Int) (p : Addr) (xs : List Int), vs = [.ref a, .int q, .ref p] ∧ Wl a l R H ∧ 0 < q ∧ q ≤ 1000 ∧ Tp K R p (xs.map V.int) ∧ xs.length ≤ 1000 ∧ In0 q xs ∧
  ∀ ys : List Int, ys.length = xs.length → In0 q ys → RetW K a l R (ys.map V.int) Q
def spLawGreat : Sp := fun vs H Q _ => ∃ (a l : Addr) (R : Hp), vs = [.ref a] ∧ Wl a l R H ∧ ∀ (z : Int) (H' : Hp), Wl a l R H' → Q (.int z) H'
section
variable {P : Program} {w : World} {K : PySem.W.Frag} {mg : Str → Option Value} {base : Heap} {f : Addr} {fd : FuncData}
theorem log_lt {b : Int} (h0 : 0 < b) (h : b ≤ 1000000) : b.natAbs.log2 < 9000 := by
  have := (Nat.log2_lt (show b.natAbs ≠ 0 by omega)).mpr (show b.natAbs < 2 ^ 20 by omega)
  omega
theorem ok__law_row (F : FnP K "_law_row" s__law_row f fd) (Z : Zs mg) (G__law_any : Fn P w K mg base CX0 1 "_law_any" s__law_any ["deal", "bound"] spAny) : FnOk P w K mg base CX0 2 f fd ["deal", "letters", "length"] (spLawRow K) := by
  refine F.ok sc__law_row (fun vs H Q E h => ?_) (fun cdv A outer s H vs Q E hr h => ⟨_, PSs.nox (pss_cons (ps_set (i := 3) sc__law_row.nd rfl (by first | exact Or.inl rfl | exact Or.inr rfl) (pe_callF G__law_any (hr.mono (by decide)) rfl pass0 (pa_cons (pv 0) (pa_cons pe_int pa_nil))))
  (pss_cons (ps_if (pt_cmpR op_eq (pv 3) pe_int (nomark _)) (pss_one (ps_ret (pe_op (ko_rep (K := K)) (pe_tupF (pa_cons (pe_callF G__law_any (hr.mono (by decide)) rfl pass0 (pa_cons (pv 0) (pa_cons (pv 1) pa_nil))) pa_nil)) (pv 2)))) pss_nil)
  (pss_cons (ps_set (i := 4) sc__law_row.nd rfl (by first | exact Or.inl rfl | exact Or.inr rfl) (pe_ix (kx_list (K := K)) (pe_lst (pa_cons pe_int (pa_cons pe_int (pa_cons pe_int (pa_cons pe_int (pa_cons pe_int (pa_cons pe_int pa_nil))))))) (pv 3) (fun _ _ => rfl)))
  (pss_cons (ps_set (i := 5) sc__law_row.nd rfl (by first | exact Or.inl rfl | exact Or.inr rfl) (pe_lst pa_nil))
  (pss_cons (ps_for PassesOwn.never rfl (pi_range1 (by rfl) Z.range (pa_cons (pv 2) pa_nil)) (pg_name (i := 6) sc__law_row.nd rfl (by first | exact Or.inl rfl | exact Or.inr rfl)) (pss_cons (ps_set (i := 7) sc__law_row.nd rfl (by first | exact Or.inl rfl | exact Or.inr rfl) (pe_callF G__law_any (hr.mono (by decide)) rfl pass0 (pa_cons (pv 0) (pa_cons (pe_op op_mul (pv 1) (pv 4)) pa_nil))))
  (pss_one (ps_expr (km_bm (K := K) PySem.F.plainAttrs_list PySem.F.slot_list_append PySem.F.type_list_append mt_append (pv 5) (pa_cons (pe_ifExp (pt_cmpR op_lt (pv 7) (pv 1) (nomark _)) (pv 7) pe_int) pa_nil))))))
  (pss_one (ps_ret (pe_callTy (kc_tuple (K := K)) (by rfl) Z.tuple (by decide +kernel) (pa_cons (pv 5) pa_nil))))))))), ?_⟩)
  · obtain ⟨a, l, R, q, n, rfl, _⟩ := h
    rfl
  · obtain ⟨a, l, R, q, n, rfl, hw, q0, q1, n0, n1, k⟩ := h
    refine ⟨_, rfl, a, l, R, 6, rfl, hw, by decide, log_lt (by decide) (by decide), fun kind H1 k0 k1 w1 => ⟨_, rfl, rfl, _, rfl, ?_⟩⟩
    rw [dec_int]
    by_cases hk : kind = 0
    · subst hk
      refine iteT ⟨_, rfl, _, rfl, a, l, R, q, rfl, w1, q0, log_lt q0 (by omega), fun x H2 x0 x1 w2 => ⟨by show 1 ≤ sizeLine; decide, fun p o hp ho => ⟨_, rfl, rep_one (by omega) n1 ?_ p o hp ho⟩⟩⟩
      have := k (List.replicate n.toNat x) (by rw [List.length_replicate]; omega) (fun y hy => by rw [List.eq_of_mem_replicate hy]; exact ⟨x0, x1⟩)
      rw [List.map_replicate] at this
      exact this.ret w2
    · rw [beq_eq_false_iff_ne.mpr hk]
      refine iteF ⟨by decide, fun t ht => ⟨_, rfl, t, [V.int 1, .int 1, .int 1, .int 2, .int 4, .int 8], kind, ?_⟩⟩
      have hx : ∃ o : Int, 0 < o ∧ o ≤ 8 ∧ atI [V.int 1, .int 1, .int 1, .int 2, .int 4, .int 8] kind = some (.int o) := by
        have : kind = 1 ∨ kind = 2 ∨ kind = 3 ∨ kind = 4 ∨ kind = 5 := by omega
        rcases this with rfl | rfl | rfl | rfl | rfl
        · exact ⟨1, by decide, by decide, rfl⟩
        · exact ⟨1, by decide, by decide, rfl⟩
        · exact ⟨2, by decide, by decide, rfl⟩
        · exact ⟨4, by decide, by decide, rfl⟩
        · exact ⟨8, by decide, by decide, rfl⟩
      obtain ⟨o, o0, o8, ho⟩ := hx
      refine ⟨.int o, rfl, rfl, sq_of upd_same, ho, by decide, fun r hr => ?_⟩
      have w2 := w1.keep (Ex.new (o := .lst [V.int 1, .int 1, .int 1, .int 2, .int 4, .int 8]) ht)
      have w3 := w2.new (o := .lst []) hr
      refine ⟨_, rfl, n, rfl, by omega, by omega, for_range (lo := 0) (n := n.toNat) (fun i σ H' => ∃ (v1 v2 : Option V) (xs : List Int), σ = [some (.ref a), some (.int q), some (.int n), some (.int kind), some (.int o), some (.ref r), v1, v2] ∧ xs.length = i ∧ In0 q xs ∧ Wl a l (upd R r (.lst (xs.map V.int))) H') ⟨none, none, [], rfl, rfl, fun x h => (List.not_mem_nil h).elim, w3⟩ (fun i σ H' hi z => ?_) (fun σ H' z => ?_)⟩
      · obtain ⟨v1, v2, xs, rfl, hl, hq, w4⟩ := z
        refine ⟨_, rfl, _, rfl, _, rfl, _, _, rfl, rfl, .inr ⟨by omega, by omega⟩, a, l, _, _, rfl, w4, Int.mul_pos q0 o0, log_lt (Int.mul_pos q0 o0) (by have : q * o ≤ 1000 * 8 := Int.mul_le_mul q1 o8 (by omega) (by decide); omega), fun x H2 x0 x1 w5 => ?_⟩
        have hrr : H2 r = some (.lst (xs.map V.int)) := w5.ex _ _ upd_same
        refine ⟨_, rfl, .inl ⟨rfl, _, sq_of hrr⟩, _, rfl, _, rfl, _, _, rfl, rfl, _, rfl, ?_⟩
        have done : ∀ y : Int, 0 ≤ y → y < q → ∃ (v1 v2 : Option V) (ys : List Int), [some (V.ref a), some (.int q), some (.int n), some (.int kind), some (.int o), some (.ref r), some (.int (0 + (i : Int))), some (.int x)] = [some (.ref a), some (.int q), some (.int n), some (.int kind), some (.int o), some (.ref r), v1, v2] ∧ ys.length = i + 1 ∧ In0 q ys ∧ Wl a l (upd R r (.lst (ys.map V.int))) (upd H2 r (.lst (xs.map V.int ++ [.int y]))) := fun y y0 y1 => by
          refine ⟨_, _, xs ++ [y], rfl, by rw [List.length_append, hl]; rfl, fun z hz => ?_, ?_⟩
          · rcases List.mem_append.mp hz with h | h
            · exact hq z h
            · rw [List.mem_singleton.mp h]
              exact ⟨y0, y1⟩
          · have := w5.mut (o' := .lst ((xs ++ [y]).map V.int)) upd_same
            rw [upd_upd, List.map_append] at this
            rw [List.map_append]
            exact this
        by_cases c : x < q
        · rw [decide_eq_true c]
          refine iteT ⟨_, rfl, r, _, _, rfl, rfl, hrr, sz_lt (by rw [List.length_map]; omega), done x x0 c⟩
        · rw [decide_eq_false c]
          refine iteF ⟨r, _, _, rfl, rfl, hrr, sz_lt (by rw [List.length_map]; omega), done 0 (by omega) q0⟩
      · obtain ⟨v1, v2, xs, rfl, hl, hq, w4⟩ := z
        have hrr : H' r = some (.lst (xs.map V.int)) := w4.ex _ _ upd_same
        have rR : R r = none := w2.free hr
        exact ⟨_, rfl, r, _, rfl, .inl ⟨sq_of hrr, (((k xs (by omega) hq).more (Ex.new rR)).ret w4).new (Ex.refl _)⟩⟩
theorem in0_set {q : Int} {xs : List Int} (h : In0 q xs) {x : Int} (h0 : 0 ≤ x) (h1 : x < q) (j : Nat) : In0 q (xs.set j x) := fun y hy => by
  rcases List.mem_or_eq_of_mem_set hy with h' | rfl
  · exact h y h'
  · exact ⟨h0, h1⟩
theorem ok__law_near (F : FnP K "_law_near" s__law_near f fd) (Z : Zs mg) (G__law_any : Fn P w K mg base CX0 1 "_law_any" s__law_any ["deal", "bound"] spAny) (G__law_of : Fn P w K mg base CX0 2 "_law_of" s__law_of ["deal", "some"] (spOf K)) : FnOk P w K mg base CX0 3 f fd ["deal", "letters", "row"] (spLawNear K) := by
  refine F.ok sc__law_near (fun vs H Q E h => ?_) (fun cdv A outer s H vs Q E hr h => ⟨_, PSs.nox (pss_cons (ps_set (i := 3) sc__law_near.nd rfl (by first | exact Or.inl rfl | exact Or.inr rfl) (pe_callTy (kc_list (K := K)) (by rfl) Z.list (by decide +kernel) (pa_cons (pv 2) pa_nil)))
  (pss_cons (ps_for PassesOwn.never rfl (pi_range1 (by rfl) Z.range (pa_cons (pe_callF G__law_of (hr.mono (by decide)) rfl pass0 (pa_cons (pv 0) (pa_cons (pe_lst (pa_cons pe_int (pa_cons pe_int (pa_cons pe_int (pa_cons pe_int (pa_cons pe_int pa_nil)))))) pa_nil))) pa_nil)) (pg_name (i := 4) sc__law_near.nd rfl (by first | exact Or.inl rfl | exact Or.inr rfl)) (pss_one (ps_if (pt_cmpR op_gt (pe_callB (kc_len (K := K)) (by rfl) Z.len PySem.boot_len (pa_cons (pv 3) pa_nil)) pe_int (nomark _)) (pss_one (ps_asg (pe_callF G__law_any (hr.mono (by decide)) rfl pass0 (pa_cons (pv 0) (pa_cons (pv 1) pa_nil))) (pg_sub (pv 3) (pe_callF G__law_any (hr.mono (by decide)) rfl pass0 (pa_cons (pv 0) (pa_cons (pe_callB (kc_len (K := K)) (by rfl) Z.len PySem.boot_len (pa_cons (pv 3) pa_nil)) pa_nil))) set_list))) pss_nil)))
  (pss_one (ps_ret (pe_callTy (kc_tuple (K := K)) (by rfl) Z.tuple (by decide +kernel) (pa_cons (pv 3) pa_nil)))))), ?_⟩)
  · obtain ⟨a, l, R, q, p, xs, rfl, _⟩ := h
    rfl
  · obtain ⟨a, l, R, q, p, xs, rfl, hw, q0, q1, hp, hz, hq, k⟩ := h
    refine ⟨_, rfl, p, _, rfl, .inr (hp.ex hw.ex).sq, fun r hr => ?_⟩
    have rR : R r = none := hw.free hr
    have w1 := hw.new (o := .lst (xs.map V.int)) hr
    refine ⟨_, rfl, by decide, fun t ht => ?_⟩
    have w2 := w1.new (o := .lst [V.int 0, .int 1, .int 1, .int 2, .int 3]) ht
    refine ⟨a, l, t, _, [V.int 0, .int 1, .int 1, .int 2, .int 3], rfl, w2, sq_of upd_same, by decide, by decide, fun v H2 hv w3 => ?_⟩
    have w4 := w3.weak (Ex.new (w1.free ht))
    have hn : ∃ n : Int, v = .int n ∧ 0 ≤ n ∧ n ≤ 3 := by
      rcases List.mem_cons.mp hv with rfl | hv
      · exact ⟨0, rfl, by decide, by decide⟩
      rcases List.mem_cons.mp hv with rfl | hv
      · exact ⟨1, rfl, by decide, by decide⟩
      rcases List.mem_cons.mp hv with rfl | hv
      · exact ⟨1, rfl, by decide, by decide⟩
      rcases List.mem_cons.mp hv with rfl | hv
      · exact ⟨2, rfl, by decide, by decide⟩
      rcases List.mem_cons.mp hv with rfl | hv
      · exact ⟨3, rfl, by decide, by decide⟩
      · cases hv
    obtain ⟨n, rfl, n0, n1⟩ := hn
    refine ⟨n, rfl, by omega, by omega, for_range (lo := 0) (n := n.toNat) (fun i σ H' => ∃ (v1 : Option V) (ys : List Int), σ = [some (.ref a), some (.int q), some (.ref p), some (.ref r), v1] ∧ ys.length = xs.length ∧ In0 q ys ∧ Wl a l (upd R r (.lst (ys.map V.int))) H') ⟨none, xs, rfl, rfl, hq, w4⟩ (fun i σ H' hi z => ?_) (fun σ H' z => ?_)⟩
    · obtain ⟨v1, ys, rfl, hl, hq', w5⟩ := z
      have hrr : H' r = some (.lst (ys.map V.int)) := w5.ex _ _ upd_same
      refine ⟨_, rfl, r, _, rfl, .inl (sq_of hrr), _, _, rfl, rfl, _, rfl, ?_⟩
      by_cases c : (0 : Int) < ys.length
      · have c' : (0 : Int) < (ys.map V.int).length := by rw [List.length_map]; exact c
        rw [decide_eq_true c']
        refine iteT ⟨_, rfl, _, rfl, a, l, _, q, rfl, w5, q0, log_lt q0 (by omega), fun x H3 x0 x1 w6 => ?_⟩
        have hrr' : H3 r = some (.lst (ys.map V.int)) := w6.ex _ _ upd_same
        refine ⟨_, rfl, _, rfl, _, rfl, r, _, rfl, .inl (sq_of hrr'), a, l, _, ((ys.map V.int).length : Int), rfl, w6, c', log_lt c' (by rw [List.length_map]; omega), fun y H4 y0 y1 w7 => ?_⟩
        have hrr'' : H4 r = some (.lst (ys.map V.int)) := w7.ex _ _ upd_same
        refine ⟨r, _, y, y.toNat, rfl, rfl, hrr'', ?_, ?_⟩
        · unfold ixN
          rw [if_pos y0, if_pos y1]
        · refine ⟨_, ys.set y.toNat x, rfl, by rw [List.length_set]; exact hl, in0_set hq' x0 x1 _, ?_⟩
          have := w7.mut (o' := .lst ((ys.map V.int).set y.toNat (.int x))) upd_same
          rw [upd_upd] at this
          rw [List.map_set]
          exact this
      · have c' : ¬ (0 : Int) < (ys.map V.int).length := by rw [List.length_map]; exact c
        rw [decide_eq_false c']
        exact iteF ⟨_, ys, rfl, hl, hq', w5⟩
    · obtain ⟨v1, ys, rfl, hl, hq', w5⟩ := z
      have hrr : H' r = some (.lst (ys.map V.int)) := w5.ex _ _ upd_same
      exact ⟨_, rfl, r, _, rfl, .inl ⟨sq_of hrr, (((k ys hl hq').more (Ex.new rR)).ret w5).new (Ex.refl _)⟩⟩
theorem ok__law_great (F : FnP K "_law_great" s__law_great f fd) (Z : Zs mg) (hdig : PySem.W.nsIn K cStatics "sys.int_max_str_digits" = some none) (G__law_any : Fn P w K mg base CX0 1 "_law_any" s__law_any ["deal", "bound"] spAny) (G__law_of : Fn P w K mg base CX0 2 "_law_of" s__law_of ["deal", "some"] (spOf K)) : FnOk P w K mg base CX0 3 f fd ["deal"] (spLawGreat) := by
  refine F.ok sc__law_great (fun vs H Q E h => ?_) (fun cdv A outer s H vs Q E hr h => ⟨_, PSs.nox (pss_cons (ps_set (i := 1) sc__law_great.nd rfl (by first | exact Or.inl rfl | exact Or.inr rfl) (pe_callF G__law_of (hr.mono (by decide)) rfl pass0 (pa_cons (pv 0) (pa_cons (pe_lst (pa_cons pe_int (pa_cons pe_int (pa_cons pe_int (pa_cons pe_int (pa_cons pe_int (pa_cons pe_int pa_nil))))))) pa_nil))))
  (pss_cons (ps_set (i := 2) sc__law_great.nd rfl (by first | exact Or.inl rfl | exact Or.inr rfl) (pe_op op_sub (pe_callTy (call_intS hdig) (by rfl) Z.int (by decide +kernel) (pa_cons (pe_op op_repS (pe_callTy call_str_int (by rfl) Z.str (by decide +kernel) (pa_cons (pe_op op_add pe_int (pe_callF G__law_any (hr.mono (by decide)) rfl pass0 (pa_cons (pv 0) (pa_cons pe_int pa_nil)))) pa_nil)) (pv 1)) pa_nil)) (pe_callF G__law_any (hr.mono (by decide)) rfl pass0 (pa_cons (pv 0) (pa_cons pe_int pa_nil)))))
  (pss_one (ps_ret (pe_callF G__law_of (hr.mono (by decide)) rfl pass0 (pa_cons (pv 0) (pa_cons (pe_lst (pa_cons (pv 2) (pa_cons (pe_un un_neg (pv 2)) (pa_cons pe_int (pa_cons pe_int (pa_cons (pe_un un_neg pe_int) (pa_cons pe_int pa_nil))))))) pa_nil))))))), ?_⟩)
  · obtain ⟨a, l, R, rfl, _⟩ := h
    rfl
  · obtain ⟨a, l, R, rfl, hw, k⟩ := h
    refine ⟨_, rfl, by decide, fun t ht => ?_⟩
    refine ⟨a, l, t, _, [V.int 1, .int 1, .int 2, .int 9, .int 40, .int 4000], rfl, hw.new ht, sq_of upd_same, by decide, by decide, fun v H2 hv w3 => ?_⟩
    have w4 := w3.weak (Ex.new (hw.free ht))
    have hn : ∃ n : Int, v = .int n ∧ 0 < n ∧ n ≤ 4000 := by
      rcases List.mem_cons.mp hv with rfl | hv
      · exact ⟨1, rfl, by decide, by decide⟩
      rcases List.mem_cons.mp hv with rfl | hv
      · exact ⟨1, rfl, by decide, by decide⟩
      rcases List.mem_cons.mp hv with rfl | hv
      · exact ⟨2, rfl, by decide, by decide⟩
      rcases List.mem_cons.mp hv with rfl | hv
      · exact ⟨9, rfl, by decide, by decide⟩
      rcases List.mem_cons.mp hv with rfl | hv
      · exact ⟨40, rfl, by decide, by decide⟩
      rcases List.mem_cons.mp hv with rfl | hv
      · exact ⟨4000, rfl, by decide, by decide⟩
      · cases hv
    obtain ⟨n, rfl, n0, n1⟩ := hn
    refine ⟨_, rfl, a, l, R, 9, rfl, w4, by decide, log_lt (by decide) (by decide), fun x H3 x0 x1 w5 => ⟨_, _, rfl, rfl, ?_⟩⟩
    have hx : ∃ c : Nat, 48 ≤ c ∧ c ≤ 57 ∧ (Str.ofString (toString (1 + x))).cps.toList = [c] ∧ (1 + x).natAbs.log2 < 1920 := by
      have : x = 0 ∨ x = 1 ∨ x = 2 ∨ x = 3 ∨ x = 4 ∨ x = 5 ∨ x = 6 ∨ x = 7 ∨ x = 8 := by omega
      rcases this with rfl | rfl | rfl | rfl | rfl | rfl | rfl | rfl | rfl
      · exact ⟨49, by decide, by decide, by decide +kernel, by decide +kernel⟩
      · exact ⟨50, by decide, by decide, by decide +kernel, by decide +kernel⟩
      · exact ⟨51, by decide, by decide, by decide +kernel, by decide +kernel⟩
      · exact ⟨52, by decide, by decide, by decide +kernel, by decide +kernel⟩
      · exact ⟨53, by decide, by decide, by decide +kernel, by decide +kernel⟩
      · exact ⟨54, by decide, by decide, by decide +kernel, by decide +kernel⟩
      · exact ⟨55, by decide, by decide, by decide +kernel, by decide +kernel⟩
      · exact ⟨56, by decide, by decide, by decide +kernel, by decide +kernel⟩
      · exact ⟨57, by decide, by decide, by decide +kernel, by decide +kernel⟩
    obtain ⟨c, c0, c1, hc, hlog⟩ := hx
    have hcl : (Str.ofString (toString (1 + x))).length ≤ 1000 := by
      have := congrArg List.length hc
      have e : (Str.ofString (toString (1 + x))).length = 1 := this
      omega
    obtain ⟨z, z1, z2, z3⟩ := fig_int hc c0 c1 (show 0 < n.toNat by omega) (by omega)
    refine ⟨_, rfl, hlog, _, rfl, _, n, rfl, rfl, by omega, by omega, hcl, _, z, rfl, z1, z2, z3, _, rfl, a, l, R, 10, rfl, w5, by decide, log_lt (by decide) (by decide), fun y H4 y0 y1 w6 => ⟨_, _, rfl, rfl, ?_⟩⟩
    refine ⟨_, rfl, _, rfl, _, rfl, _, rfl, _, rfl, by show 6 ≤ sizeLine; decide, fun t2 ht2 => ?_⟩
    refine ⟨a, l, t2, _, _, rfl, w6.new ht2, sq_of upd_same, by simp, by show 6 ≤ 100; decide, fun v H5 hv w7 => ?_⟩
    have w8 := w7.weak (Ex.new (w6.free ht2))
    rcases List.mem_cons.mp hv with rfl | hv
    · exact k _ _ w8
    rcases List.mem_cons.mp hv with rfl | hv
    · exact k _ _ w8
    rcases List.mem_cons.mp hv with rfl | hv
    · exact k _ _ w8
    rcases List.mem_cons.mp hv with rfl | hv
    · exact k _ _ w8
    rcases List.mem_cons.mp hv with rfl | hv
    · exact k _ _ w8
    rcases List.mem_cons.mp hv with rfl | hv
    · exact k _ _ w8
    · cases hv
end
end K02

namespace K02
open PySem PySem.Spec PyProof.Rows L2 Evl Own
theorem kb_worth_one_letters_other {K : PySem.W.Frag} {f : Addr} {fd : FuncData} (F : FnP K "worth" s_worth f fd) : KBinds K fd ["letters", "one", "other"] ["one", "letters", "other"] (pick 3 [1, 0, 2]) (pick 3 [1, 0, 2]) := kb_of 3 [1, 0, 2] F (by decide) (fun kV doc pm an cdv ct ws hw => match ws, hw with | [w0, w1, w2], _ => rfl)
theorem kb_added_other_one_letters {K : PySem.W.Frag} {f : Addr} {fd : FuncData} (F : FnP K "added" s_added f fd) : KBinds K fd ["letters", "one", "other"] ["other", "one", "letters"] (pick 3 [2, 1, 0]) (pick 3 [2, 1, 0]) := kb_of 3 [2, 1, 0] F (by decide) (fun kV doc pm an cdv ct ws hw => match ws, hw with | [w0, w1, w2], _ => rfl)
theorem kb_apart_other_one {K : PySem.W.Frag} {f : Addr} {fd : FuncData} (F : FnP K "apart" s_apart f fd) : KBinds K fd ["one", "other"] ["other", "one"] (pick 2 [1, 0]) (pick 2 [1, 0]) := kb_of 2 [1, 0] F (by decide) (fun kV doc pm an cdv ct ws hw => match ws, hw with | [w0, w1], _ => rfl)
theorem kb_weight_row {K : PySem.W.Frag} {f : Addr} {fd : FuncData} (F : FnP K "weight" s_weight f fd) : KBinds K fd ["row"] ["row"] (pick 1 [0]) (pick 1 [0]) := kb_of 1 [0] F (by decide) (fun kV doc pm an cdv ct ws hw => match ws, hw with | [w0], _ => rfl)
theorem kb_row_of_number_number_letters_length {K : PySem.W.Frag} {f : Addr} {fd : FuncData} (F : FnP K "row_of_number" s_row_of_number f fd) : KBinds K fd ["letters", "length", "number"] ["number", "letters", "length"] (pick 3 [1, 2, 0]) (pick 3 [1, 2, 0]) := kb_of 3 [1, 2, 0] F (by decide) (fun kV doc pm an cdv ct ws hw => match ws, hw with | [w0, w1, w2], _ => rfl)
/-- two rows of one room -/
structure Two (K : PySem.W.Frag) (H : Hp) (q : Int) (a b : Addr) (xs ys : List Int) : Prop where
  ta : Tp K H a (xs.map V.int)
  tb : Tp K H b (ys.map V.int)
  len : xs.length = ys.length
  few : xs.length ≤ 1000
  q0 : 0 < q
  q1 : q ≤ 1000
  ina : In0 q xs
  inb : In0 q ys
theorem Two.ex {K : PySem.W.Frag} {H H1 : Hp} {q : Int} {a b : Addr} {xs ys : List Int} (t : Two K H q a b xs ys) (e : Ex H H1) : Two K H1 q a b xs ys := ⟨t.ta.ex e, t.tb.ex e, t.len, t.few, t.q0, t.q1, t.ina, t.inb⟩
def spSums (K : PySem.W.Frag) : Sp := fun vs H Q _ => ∃ (q : Int) (a b : Addr) (xs ys : List Int) (z : Int), vs = [.int q, .ref a, .ref b, .int z] ∧ Two K H q a b xs ys ∧ ∀ H', Ex H H' → Q (.bl true) H'
def spHelds (K : PySem.W.Frag) : Sp := fun vs H Q _ => ∃ (q : Int) (a b : Addr) (xs ys : List Int), vs = [.int q, .ref a, .ref b] ∧ Two K H q a b xs ys ∧ ∀ H', Ex H H' → Q (.bl true) H'
section
variable {P : Program} {w : World} {K : PySem.W.Frag} {mg : Str → Option Value} {base : Heap} {f : Addr} {fd : FuncData}
theorem ok__law_sums_hold (F : FnP K "_law_sums_hold" s__law_sums_hold f fd) (Z : Zs mg) (G_added : Fn P w K mg base CX0 1 "added" s_added ["letters", "one", "other"] (spBin K fun q x y => (x + y) % q))
    (G_less : Fn P w K mg base CX0 1 "less" s_less ["letters", "one", "other"] (spBin K fun q x y => (x - y) % q)) (G_times : Fn P w K mg base CX0 1 "times" s_times ["letters", "row", "number"] (spTimes K))
    (G_turned : Fn P w K mg base CX0 2 "turned" s_turned ["letters", "row"] (spTurned K)) (G_worth : Fn P w K mg base CX0 1 "worth" s_worth ["letters", "one", "other"] (spWorth K))
    (G__law_same : Fn P w K mg base CX0 4 "_law_same" s__law_same ["told", "due"] (spSame K 2)) : FnOk P w K mg base CX0 5 f fd ["letters", "one", "other", "number"] (spSums K) := by
  refine F.ok sc__law_sums_hold (fun vs H Q E h => ?_) (fun cdv A outer s H vs Q E hr h => ⟨_, PSs.nox (pss_cons (ps_set (i := 4) sc__law_sums_hold.nd rfl (by first | exact Or.inl rfl | exact Or.inr rfl) (pe_list_range Z.list Z.range (pe_callB (kc_len (K := K)) (by rfl) Z.len PySem.boot_len (pa_cons (pv 1) pa_nil))))
  (pss_cons (ps_set (i := 5) sc__law_sums_hold.nd rfl (by first | exact Or.inl rfl | exact Or.inr rfl) (pe_callTy (kc_tuple (K := K)) (by rfl) Z.tuple (by decide +kernel) (pa_cons (pe_lc (own := [("at", 6)]) (g := (gName 6)) rfl sc__law_sums_hold.nd (pi_list (pv 4)) (blkOk_by (own := [("at", 6)]) (N := ["letters", "one", "other", "number", "many", "due", "at", "rest"]) (sc := defScope s__law_sums_hold) (by decide +kernel)) (fun _ _ _ _ _ => (pg_name (i := 6) sc__law_sums_hold.nd rfl (Or.inl rfl))) (fun _ _ _ _ _ => pts_nil) (fun _ _ _ _ _ => (pe_op op_mod (pe_callTy call_int1 (by rfl) Z.int (by decide +kernel) (pa_cons (pe_op op_add (pe_ix (kx_tup (K := K)) (pv 1) (pv 6) (fun _ _ => rfl)) (pe_ix (kx_tup (K := K)) (pv 2) (pv 6) (fun _ _ => rfl))) pa_nil)) (pv 0)))) pa_nil)))
  (pss_cons (ps_if (PW.pt (pw_or (pt_not (pt_val (pe_callF G__law_same (hr.mono (by decide)) rfl pass0 (pa_cons (pe_callF G_added (hr.mono (by decide)) rfl pass0 (pa_cons (pv 0) (pa_cons (pv 1) (pa_cons (pv 2) pa_nil)))) (pa_cons (pv 5) pa_nil))))) (pw_or1 (pt_not (pt_val (pe_callF G__law_same (hr.mono (by decide)) rfl pass0 (pa_cons (pe_call0KF G_added (hr.mono (by decide)) kb_added_other_one_letters pass0 (pk_cons (pv 1) (pk_cons (pv 2) (pk_cons (pv 0) pk_nil)))) (pa_cons (pv 5) pa_nil)))))))) (pss_one (ps_ret pe_bl)) pss_nil)
  (pss_cons (ps_if (pt_not (pt_val (pe_callF G__law_same (hr.mono (by decide)) rfl pass0 (pa_cons (pe_callF G_less (hr.mono (by decide)) rfl pass0 (pa_cons (pv 0) (pa_cons (pv 1) (pa_cons (pv 2) pa_nil)))) (pa_cons (pe_callTy (kc_tuple (K := K)) (by rfl) Z.tuple (by decide +kernel) (pa_cons (pe_lc (own := [("at", 6)]) (g := (gName 6)) rfl sc__law_sums_hold.nd (pi_list (pv 4)) (blkOk_by (own := [("at", 6)]) (N := ["letters", "one", "other", "number", "many", "due", "at", "rest"]) (sc := defScope s__law_sums_hold) (by decide +kernel)) (fun _ _ _ _ _ => (pg_name (i := 6) sc__law_sums_hold.nd rfl (Or.inl rfl))) (fun _ _ _ _ _ => pts_nil) (fun _ _ _ _ _ => (pe_op op_mod (pe_callTy call_int1 (by rfl) Z.int (by decide +kernel) (pa_cons (pe_op op_sub (pe_op op_add (pe_ix (kx_tup (K := K)) (pv 1) (pv 6) (fun _ _ => rfl)) (pe_op op_mul pe_int (pv 0))) (pe_ix (kx_tup (K := K)) (pv 2) (pv 6) (fun _ _ => rfl))) pa_nil)) (pv 0)))) pa_nil)) pa_nil))))) (pss_one (ps_ret pe_bl)) pss_nil)
  (pss_cons (ps_set (i := 7) sc__law_sums_hold.nd rfl (by first | exact Or.inl rfl | exact Or.inr rfl) (pe_op op_mod (pe_callTy call_int1 (by rfl) Z.int (by decide +kernel) (pa_cons (pv 3) pa_nil)) (pv 0)))
  (pss_cons (ps_if (pt_not (pt_val (pe_callF G__law_same (hr.mono (by decide)) rfl pass0 (pa_cons (pe_callF G_times (hr.mono (by decide)) rfl pass0 (pa_cons (pv 0) (pa_cons (pv 1) (pa_cons (pv 3) pa_nil)))) (pa_cons (pe_callTy (kc_tuple (K := K)) (by rfl) Z.tuple (by decide +kernel) (pa_cons (pe_lc (own := [("at", 6)]) (g := (gName 6)) rfl sc__law_sums_hold.nd (pi_list (pv 4)) (blkOk_by (own := [("at", 6)]) (N := ["letters", "one", "other", "number", "many", "due", "at", "rest"]) (sc := defScope s__law_sums_hold) (by decide +kernel)) (fun _ _ _ _ _ => (pg_name (i := 6) sc__law_sums_hold.nd rfl (Or.inl rfl))) (fun _ _ _ _ _ => pts_nil) (fun _ _ _ _ _ => (pe_op op_mod (pe_callTy call_int1 (by rfl) Z.int (by decide +kernel) (pa_cons (pe_op op_mul (pe_ix (kx_tup (K := K)) (pv 1) (pv 6) (fun _ _ => rfl)) (pv 7)) pa_nil)) (pv 0)))) pa_nil)) pa_nil))))) (pss_one (ps_ret pe_bl)) pss_nil)
  (pss_cons (ps_if (pt_not (pt_val (pe_callF G__law_same (hr.mono (by decide)) rfl pass0 (pa_cons (pe_callF G_turned (hr.mono (by decide)) rfl pass0 (pa_cons (pv 0) (pa_cons (pv 2) pa_nil))) (pa_cons (pe_callTy (kc_tuple (K := K)) (by rfl) Z.tuple (by decide +kernel) (pa_cons (pe_lc (own := [("at", 6)]) (g := (gName 6)) rfl sc__law_sums_hold.nd (pi_list (pv 4)) (blkOk_by (own := [("at", 6)]) (N := ["letters", "one", "other", "number", "many", "due", "at", "rest"]) (sc := defScope s__law_sums_hold) (by decide +kernel)) (fun _ _ _ _ _ => (pg_name (i := 6) sc__law_sums_hold.nd rfl (Or.inl rfl))) (fun _ _ _ _ _ => pts_nil) (fun _ _ _ _ _ => (pe_op op_mod (pe_callTy call_int1 (by rfl) Z.int (by decide +kernel) (pa_cons (pe_op op_sub (pv 0) (pe_ix (kx_tup (K := K)) (pv 2) (pv 6) (fun _ _ => rfl))) pa_nil)) (pv 0)))) pa_nil)) pa_nil))))) (pss_one (ps_ret pe_bl)) pss_nil)
  (pss_cons (ps_set (i := 5) sc__law_sums_hold.nd rfl (by first | exact Or.inl rfl | exact Or.inr rfl) (pe_op op_mod (pe_callTy call_int1 (by rfl) Z.int (by decide +kernel) (pa_cons (pe_callB (kc_sum (K := K) rfl) (by rfl) Z.sum (by decide +kernel) (pa_cons (pe_lc (own := [("at", 6)]) (g := (gName 6)) rfl sc__law_sums_hold.nd (pi_list (pv 4)) (blkOk_by (own := [("at", 6)]) (N := ["letters", "one", "other", "number", "many", "due", "at", "rest"]) (sc := defScope s__law_sums_hold) (by decide +kernel)) (fun _ _ _ _ _ => (pg_name (i := 6) sc__law_sums_hold.nd rfl (Or.inl rfl))) (fun _ _ _ _ _ => pts_nil) (fun _ _ _ _ _ => (pe_op op_mul (pe_ix (kx_tup (K := K)) (pv 1) (pv 6) (fun _ _ => rfl)) (pe_ix (kx_tup (K := K)) (pv 2) (pv 6) (fun _ _ => rfl))))) pa_nil)) pa_nil)) (pv 0)))
  (pss_one (ps_ret (pe_and (pe_callF G__law_same (hr.mono (by decide)) rfl pass0 (pa_cons (pe_callF G_worth (hr.mono (by decide)) rfl pass0 (pa_cons (pv 0) (pa_cons (pv 1) (pa_cons (pv 2) pa_nil)))) (pa_cons (pv 5) pa_nil))) (pe_one (pe_callF G__law_same (hr.mono (by decide)) rfl pass0 (pa_cons (pe_call0KF G_worth (hr.mono (by decide)) kb_worth_one_letters_other pass0 (pk_cons (pv 2) (pk_cons (pv 0) (pk_cons (pv 1) pk_nil)))) (pa_cons (pv 5) pa_nil))))))))))))))), ?_⟩)
  · obtain ⟨q, a, b, xs, ys, z, rfl, _⟩ := h
    rfl
  · obtain ⟨q, a, b, xs, ys, z, rfl, t, k⟩ := h
    have few := t.few
    refine ⟨_, rfl, a, _, rfl, .inr t.ta.sq, _, rfl, ?_⟩
    rw [List.length_map]
    refine ⟨rg_ok (by omega), fun m hm => ?_⟩
    have em := Ex.new (o := .lst (rgV 0 (xs.length : Int))) hm
    have hm1' : upd H m (.lst (rgV 0 (xs.length : Int))) m = some (.lst (rgV 0 (xs.length : Int))) := upd_same
    generalize upd H m (.lst (rgV 0 (xs.length : Int))) = H1 at em hm1' ⊢
    have hm1 : SqL K H1 m (rgV 0 (xs.length : Int)) := sq_of hm1'
    have t1 := t.ex em
    have l12 : ∀ i, i < xs.length → i < ys.length := fun i h => by have := t.len; omega
    refine ⟨_, rfl, m, rfl, ⟨_, hm1⟩, lcP (walk_list (xs := rgV 0 (xs.length : Int))) (fun H' e => ex_l e hm1) (by rw [rg_len]; omega) (fun _ => true) (fun i => V.int ((xs.getD i 0 + ys.getD i 0) % q)) (fun i H3 x H4 hi e y K1 K0 k1 k0 => ?_) (fun r H2 hr e2 h2 => ?_)⟩
    · obtain ⟨rfl, g⟩ := y
      obtain ⟨rfl, hi⟩ := rg_at g
      exact ⟨rfl, yes_go ⟨_, rfl, _, rfl, a, _, _, _, rfl, rfl, (t1.ta.ex e).sq, atI_int hi, _, rfl, _, rfl, b, _, _, _, rfl, rfl, (t1.tb.ex e).sq, atI_int (l12 i hi), _, _, rfl, rfl, .inl ⟨_, rfl, _, rfl, _, _, rfl, rfl, t.q0, k1 rfl _ (Ex.refl _)⟩⟩⟩
    rw [rg_len, given_all, range_of _ (ys := List.zipWith (fun x y => (x + y) % q) xs ys) (by rw [List.length_zipWith, ← t.len]; omega) (fun i hi => by rw [getD_zip hi (l12 i hi)])] at h2
    refine ⟨r, _, rfl, .inl ⟨sq_of h2, RetU.new (K := K) (H := H1) (fun d H5 e5 hdue => ?_) e2⟩⟩
    have t5 := t1.ex e5
    have len2 : ∀ f : Int → Int → Int, (((List.zipWith f xs ys)).map V.int).length ≤ 1000 := fun f => by
      rw [List.length_map, List.length_zipWith]
      omega
    -- added
    refine ⟨_, rfl, _, rfl, _, rfl, q, a, b, xs, ys, rfl, t5.ta, t5.tb, t.len, few, t.q0, fun p6 H6 e6 h6 => ⟨_, rfl, _, _, rfl, .tup h6 (hdue.ex e6) (scal_ints _) (len2 _) 1, fun H7 e7 => ⟨_, rfl, iteF ?_⟩⟩⟩
    have e67 := e6.trans e7
    have t7 := t5.ex e67
    have hdue7 := hdue.ex e67
    have hc : List.zipWith (fun x y => (x + y) % q) ys xs = List.zipWith (fun x y => (x + y) % q) xs ys := by
      rw [List.zipWith_comm]
      congr 1
      funext x y
      rw [Int.add_comm]
    refine ⟨_, rfl, _, rfl, _, rfl, q, b, a, ys, xs, rfl, t7.tb, t7.ta, t.len.symm, by have := t.len; omega, t.q0, fun p8 H8 e8 h8 => ?_⟩
    rw [hc] at h8
    refine ⟨_, rfl, _, _, rfl, .tup h8 (hdue7.ex e8) (scal_ints _) (len2 _) 1, fun H9 e9 => ⟨_, rfl, iteF ?_⟩⟩
    have t9 := t7.ex (e8.trans e9)
    have hm9 := ex_l (e5.trans (e67.trans (e8.trans e9))) hm1
    clear hdue hdue7 h2 h6 h8
    -- less
    refine ⟨_, rfl, _, rfl, _, rfl, q, a, b, xs, ys, rfl, t9.ta, t9.tb, t.len, few, t.q0, fun p10 H10 e10 h10 => ?_⟩
    have t10 := t9.ex e10
    refine ⟨_, rfl, m, rfl, ⟨_, ex_l e10 hm9⟩, lcP (walk_list (xs := rgV 0 (xs.length : Int))) (fun H' e => ex_l (e10.trans e) hm9) (by rw [rg_len]; omega) (fun _ => true) (fun i => V.int ((xs.getD i 0 + 2 * q - ys.getD i 0) % q)) (fun i H3 x H4 hi e y K1 K0 k1 k0 => ?_) (fun r H2 hr e2 h2 => ?_)⟩
    · obtain ⟨rfl, g⟩ := y
      obtain ⟨rfl, hi⟩ := rg_at g
      exact ⟨rfl, yes_go ⟨_, rfl, _, rfl, a, _, _, _, rfl, rfl, (t10.ta.ex e).sq, atI_int hi, _, rfl, _, _, rfl, rfl, .inl ⟨by decide, by decide⟩, _, _, rfl, rfl, _, rfl, _, rfl, b, _, _, _, rfl, rfl, (t10.tb.ex e).sq, atI_int (l12 i hi), _, _, rfl, rfl, .inl ⟨_, rfl, _, rfl, _, _, rfl, rfl, t.q0, k1 rfl _ (Ex.refl _)⟩⟩⟩
    rw [rg_len, given_all, range_of _ (ys := List.zipWith (fun x y => (x - y) % q) xs ys) (by rw [List.length_zipWith, ← t.len]; omega) (fun i hi => by rw [getD_zip hi (l12 i hi), less_is])] at h2
    refine ⟨r, _, rfl, .inl ⟨sq_of h2, RetU.new (K := K) (H := H10) (fun d H11 e11 hd => ?_) e2⟩⟩
    refine ⟨_, _, rfl, .tup (h10.ex e11) hd (scal_ints _) (len2 _) 1, fun H12 e12 => ⟨_, rfl, iteF ?_⟩⟩
    have t12 := t10.ex (e11.trans e12)
    have hm12 := ex_l (e10.trans (e11.trans e12)) hm9
    clear h2 h10 hd
    -- times
    refine ⟨_, rfl, .inl ⟨_, rfl, _, rfl, _, _, rfl, rfl, t.q0, ?_⟩⟩
    refine ⟨_, rfl, _, rfl, _, rfl, q, z, a, xs, rfl, t12.ta, few, t.q0, t.q1, fun p13 H13 e13 h13 => ?_⟩
    have t13 := t12.ex e13
    have r0 := Int.emod_nonneg z (show q ≠ 0 by have := t.q0; omega)
    have r1 := Int.emod_lt_of_pos z t.q0
    have q1 := t.q1
    refine ⟨_, rfl, m, rfl, ⟨_, ex_l e13 hm12⟩, lcP (walk_list (xs := rgV 0 (xs.length : Int))) (fun H' e => ex_l (e13.trans e) hm12) (by rw [rg_len]; omega) (fun _ => true) (fun i => V.int (xs.getD i 0 * (z % q) % q)) (fun i H3 x H4 hi e y K1 K0 k1 k0 => ?_) (fun r H2 hr e2 h2 => ?_)⟩
    · obtain ⟨rfl, g⟩ := y
      obtain ⟨rfl, hi⟩ := rg_at g
      exact ⟨rfl, yes_go ⟨_, rfl, _, rfl, a, _, _, _, rfl, rfl, (t13.ta.ex e).sq, atI_int hi, _, rfl, _, _, rfl, rfl, .inr ⟨by omega, by omega⟩, .inl ⟨_, rfl, _, rfl, _, _, rfl, rfl, t.q0, k1 rfl _ (Ex.refl _)⟩⟩⟩
    rw [rg_len, given_all, range_of _ (ys := xs.map fun x => x * (z % q) % q) (by rw [List.length_map]) (fun i hi => by rw [getD_map hi])] at h2
    refine ⟨r, _, rfl, .inl ⟨sq_of h2, RetU.new (K := K) (H := H13) (fun d H14 e14 hd => ?_) e2⟩⟩
    refine ⟨_, _, rfl, .tup (h13.ex e14) hd (scal_ints _) (by rw [List.length_map, List.length_map]; exact few) 1, fun H15 e15 => ⟨_, rfl, iteF ?_⟩⟩
    have t15 := t13.ex (e14.trans e15)
    have hm15 := ex_l (e13.trans (e14.trans e15)) hm12
    clear h2 h13 hd
    -- turned
    refine ⟨_, rfl, _, rfl, q, b, ys, rfl, t15.tb, by have := t.len; omega, t.q0, t.q1, fun p16 H16 e16 h16 => ?_⟩
    have t16 := t15.ex e16
    refine ⟨_, rfl, m, rfl, ⟨_, ex_l e16 hm15⟩, lcP (walk_list (xs := rgV 0 (xs.length : Int))) (fun H' e => ex_l (e16.trans e) hm15) (by rw [rg_len]; omega) (fun _ => true) (fun i => V.int ((q - ys.getD i 0) % q)) (fun i H3 x H4 hi e y K1 K0 k1 k0 => ?_) (fun r H2 hr e2 h2 => ?_)⟩
    · obtain ⟨rfl, g⟩ := y
      obtain ⟨rfl, hi⟩ := rg_at g
      exact ⟨rfl, yes_go ⟨_, rfl, _, rfl, _, rfl, b, _, _, _, rfl, rfl, (t16.tb.ex e).sq, atI_int (l12 i hi), _, _, rfl, rfl, .inl ⟨_, rfl, _, rfl, _, _, rfl, rfl, t.q0, k1 rfl _ (Ex.refl _)⟩⟩⟩
    rw [rg_len, given_all, range_of _ (ys := ys.map fun x => x * (-1 % q) % q) (by rw [List.length_map]; exact t.len.symm) (fun i hi => by rw [getD_map (l12 i hi), turned_is])] at h2
    refine ⟨r, _, rfl, .inl ⟨sq_of h2, RetU.new (K := K) (H := H16) (fun d H17 e17 hd => ?_) e2⟩⟩
    refine ⟨_, _, rfl, .tup (h16.ex e17) hd (scal_ints _) (by rw [List.length_map, List.length_map]; have := t.len; omega) 1, fun H18 e18 => ⟨_, rfl, iteF ?_⟩⟩
    have t18 := t16.ex (e17.trans e18)
    have hm18 := ex_l (e16.trans (e17.trans e18)) hm15
    clear h2 h16 hd
    -- worth
    refine ⟨_, rfl, m, rfl, ⟨_, hm18⟩, lcP (walk_list (xs := rgV 0 (xs.length : Int))) (fun H' e => ex_l e hm18) (by rw [rg_len]; omega) (fun _ => true) (fun i => V.int (xs.getD i 0 * ys.getD i 0)) (fun i H3 x H4 hi e y K1 K0 k1 k0 => ?_) (fun r H19 hr e19 h2 => ?_)⟩
    · obtain ⟨rfl, g⟩ := y
      obtain ⟨rfl, hi⟩ := rg_at g
      have := t.ina _ (Own.getD_mem hi)
      exact ⟨rfl, yes_go ⟨_, rfl, _, rfl, a, _, _, _, rfl, rfl, (t18.ta.ex e).sq, atI_int hi, _, rfl, _, rfl, b, _, _, _, rfl, rfl, (t18.tb.ex e).sq, atI_int (l12 i hi), _, _, rfl, rfl, .inl ⟨by omega, by omega⟩, k1 rfl _ (Ex.refl _)⟩⟩
    rw [rg_len, given_all, range_of _ (ys := List.zipWith (fun x y => x * y) xs ys) (by rw [List.length_zipWith, ← t.len]; omega) (fun i hi => by rw [getD_zip hi (l12 i hi)])] at h2
    have t19 := t18.ex e19
    have hc2 : List.zipWith (fun x y => x * y) ys xs = List.zipWith (fun x y => x * y) xs ys := by
      rw [List.zipWith_comm]
      congr 1
      funext x y
      rw [Int.mul_comm]
    refine ⟨r, _, rfl, sq_of h2, .inl ⟨_, rfl, _, rfl, _, _, rfl, rfl, t.q0, ?_⟩⟩
    refine ⟨_, rfl, _, rfl, _, rfl, q, a, b, xs, ys, rfl, t19.ta, t19.tb, t.len, few, t.q0, fun x hx => by have := t.ina x hx; omega, fun H20 e20 => ?_⟩
    refine ⟨_, rfl, _, _, rfl, Sm.scal rfl _, fun H21 e21 => ⟨_, rfl, iteT ?_⟩⟩
    have t21 := t19.ex (e20.trans e21)
    refine ⟨_, rfl, _, rfl, _, rfl, q, b, a, ys, xs, rfl, t21.tb, t21.ta, t.len.symm, by have := t.len; omega, t.q0, fun x hx => by have := t.inb x hx; omega, fun H22 e22 => ?_⟩
    rw [hc2]
    refine ⟨_, rfl, _, _, rfl, Sm.scal rfl _, fun H23 e23 => k H23 ?_⟩
    exact em.trans (e5.trans (e67.trans (e8.trans (e9.trans (e10.trans (e11.trans (e12.trans (e13.trans (e14.trans (e15.trans (e16.trans (e17.trans (e18.trans (e19.trans (e20.trans (e21.trans (e22.trans e23)))))))))))))))))
end
end K02

namespace K02
open PySem PySem.Spec PyProof.Rows L2 Evl Own
def spNums (K : PySem.W.Frag) : Sp := fun vs H Q _ => ∃ (a l : Addr) (R : Hp) (q : Int) (p : Addr) (xs : List Int), vs = [.ref a, .int q, .ref p] ∧ Wl a l R H ∧ Tp K R p (xs.map V.int) ∧ xs.length ≤ 1000 ∧ 0 < q ∧ q ≤ 1000 ∧ In0 q xs ∧ ∀ H', Wl a l R H' → Q (.bl true) H'
theorem rowNum_more (q : Int) (xs : List Int) (x : Int) : rowNum q (xs ++ [x]) = rowNum q xs * q + x := by
  unfold rowNum
  rw [List.foldl_append]
  rfl
theorem digs_rowNum {q : Int} (hq : 0 < q) : ∀ n (xs : List Int), xs.length = n → In0 q xs → (digs q n (rowNum q xs)).reverse = xs
  | 0, xs, h, _ => by
    rw [List.eq_nil_of_length_eq_zero h]
    rfl
  | n + 1, xs, h, hin => by
    rcases cases_last xs with rfl | ⟨ds, x, rfl⟩
    · cases h
    · have hx := hin x (by simp)
      rw [rowNum_more]
      show ((rowNum q ds * q + x) % q :: digs q n ((rowNum q ds * q + x) / q)).reverse = _
      have e1 : (rowNum q ds * q + x) % q = x := by
        rw [Int.add_comm, Int.mul_comm, Int.add_mul_emod_self_left, Int.emod_eq_of_lt hx.1 hx.2]
      have e2 : (rowNum q ds * q + x) / q = rowNum q ds := by
        rw [Int.add_comm, Int.add_mul_ediv_right _ _ (by omega), Int.ediv_eq_zero_of_lt hx.1 hx.2, Int.zero_add]
      rw [e1, e2, List.reverse_cons, digs_rowNum hq n ds (by rw [List.length_append, List.length_singleton] at h; omega) fun y hy => hin y (List.mem_append_left _ hy)]
section
variable {P : Program} {w : World} {K : PySem.W.Frag} {mg : Str → Option Value} {base : Heap} {f : Addr} {fd : FuncData}
theorem ok__law_held_hold (F : FnP K "_law_held_hold" s__law_held_hold f fd) (Z : Zs mg) (G_held : Fn P w K mg base CX0 1 "held" s_held ["row"] (spHeld K)) (G_weight : Fn P w K mg base CX0 1 "weight" s_weight ["row"] (spWeight K)) (G_apart : Fn P w K mg base CX0 1 "apart" s_apart ["one", "other"] (spApart K))
    (G__law_same : Fn P w K mg base CX0 4 "_law_same" s__law_same ["told", "due"] (spSame K 2)) : FnOk P w K mg base CX0 5 f fd ["letters", "one", "other"] (spHelds K) := by
  refine F.ok sc__law_held_hold (fun vs H Q E h => ?_) (fun cdv A outer s H vs Q E hr h => ⟨_, PSs.nox (pss_cons (ps_set (i := 3) sc__law_held_hold.nd rfl (by first | exact Or.inl rfl | exact Or.inr rfl) (pe_callTy (kc_tuple (K := K)) (by rfl) Z.tuple (by decide +kernel) (pa_cons (pe_lc (own := [("at", 4)]) (g := (gName 4)) rfl sc__law_held_hold.nd (pi_range1 (by rfl) Z.range (pa_cons (pe_callB (kc_len (K := K)) (by rfl) Z.len PySem.boot_len (pa_cons (pv 1) pa_nil)) pa_nil)) (blkOk_by (own := [("at", 4)]) (N := ["letters", "one", "other", "places", "at", "unlike"]) (sc := defScope s__law_held_hold) (by decide +kernel)) (fun _ _ _ _ _ => (pg_name (i := 4) sc__law_held_hold.nd rfl (Or.inl rfl))) (fun _ _ _ _ _ => (pts_one (pt_cmpR op_gt (pe_ix (kx_tup (K := K)) (pv 1) (pv 4) (fun _ _ => rfl)) pe_int (nomark _)))) (fun _ _ _ _ _ => (pv 4))) pa_nil)))
  (pss_cons (ps_if (PW.pt (pw_or (pt_not (pt_val (pe_callF G__law_same (hr.mono (by decide)) rfl pass0 (pa_cons (pe_callF G_held (hr.mono (by decide)) rfl pass0 (pa_cons (pv 1) pa_nil)) (pa_cons (pv 3) pa_nil))))) (pw_or1 (pt_not (pt_val (pe_callF G__law_same (hr.mono (by decide)) rfl pass0 (pa_cons (pe_call0KF G_weight (hr.mono (by decide)) kb_weight_row pass0 (pk_cons (pv 1) pk_nil)) (pa_cons (pe_callB (kc_len (K := K)) (by rfl) Z.len PySem.boot_len (pa_cons (pv 3) pa_nil)) pa_nil)))))))) (pss_one (ps_ret pe_bl)) pss_nil)
  (pss_cons (ps_set (i := 5) sc__law_held_hold.nd rfl (by first | exact Or.inl rfl | exact Or.inr rfl) (pe_callB (kc_len (K := K)) (by rfl) Z.len PySem.boot_len (pa_cons (pe_lc (own := [("at", 4)]) (g := (gName 4)) rfl sc__law_held_hold.nd (pi_range1 (by rfl) Z.range (pa_cons (pe_callB (kc_len (K := K)) (by rfl) Z.len PySem.boot_len (pa_cons (pv 1) pa_nil)) pa_nil)) (blkOk_by (own := [("at", 4)]) (N := ["letters", "one", "other", "places", "at", "unlike"]) (sc := defScope s__law_held_hold) (by decide +kernel)) (fun _ _ _ _ _ => (pg_name (i := 4) sc__law_held_hold.nd rfl (Or.inl rfl))) (fun _ _ _ _ _ => (pts_one (pt_cmpR op_ne (pe_ix (kx_tup (K := K)) (pv 1) (pv 4) (fun _ _ => rfl)) (pe_ix (kx_tup (K := K)) (pv 2) (pv 4) (fun _ _ => rfl)) (nomark _)))) (fun _ _ _ _ _ => (pv 4))) pa_nil)))
  (pss_one (ps_ret (pe_and (pe_callF G__law_same (hr.mono (by decide)) rfl pass0 (pa_cons (pe_callF G_apart (hr.mono (by decide)) rfl pass0 (pa_cons (pv 1) (pa_cons (pv 2) pa_nil))) (pa_cons (pv 5) pa_nil))) (pe_one (pe_callF G__law_same (hr.mono (by decide)) rfl pass0 (pa_cons (pe_call0KF G_apart (hr.mono (by decide)) kb_apart_other_one pass0 (pk_cons (pv 1) (pk_cons (pv 2) pk_nil))) (pa_cons (pv 5) pa_nil)))))))))), ?_⟩)
  · obtain ⟨q, a, b, xs, ys, rfl, _⟩ := h
    rfl
  · obtain ⟨q, a, b, xs, ys, rfl, t, k⟩ := h
    have few := t.few
    have l12 : ∀ i, i < xs.length → i < ys.length := fun i h => by have := t.len; omega
    have hin : ∀ i, i < xs.length → decide (0 < xs.getD i 0) = decide (xs.getD i 0 ≠ 0) := fun i hi => by
      have := t.ina _ (Own.getD_mem hi)
      by_cases h0 : xs.getD i 0 = 0
      · rw [h0]; rfl
      · rw [decide_eq_true h0, decide_eq_true (by omega)]
    refine ⟨_, rfl, a, _, rfl, .inr t.ta.sq, _, rfl, by omega, by rw [List.length_map]; omega, ?_⟩
    rw [show (((xs.map V.int).length : Nat) : Int).toNat = xs.length by rw [List.length_map]; omega]
    refine lcP (walk_range (lo := 0)) (fun _ _ => trivial) (by omega) (fun i => decide (0 < xs.getD i 0)) (fun i => V.int (i : Int)) (fun i H1 x H2 hi e y K1 K0 k1 k0 => ?_) (fun r H2 hr e2 h2 => ?_)
    · obtain ⟨rfl, rfl⟩ := y
      have e0 : (0 : Int) + (i : Int) = (i : Int) := by omega
      show gName _ (V.int ((0 : Int) + (i : Int))) _ _ _
      rw [e0]
      refine ⟨rfl, _, rfl, _, rfl, a, _, _, _, rfl, rfl, (t.ta.ex e).sq, atI_int hi, _, _, rfl, rfl, _, rfl, ?_⟩
      by_cases h0 : 0 < xs.getD i 0
      · rw [decide_eq_true h0]
        exact iteT ⟨_, rfl, k1 (decide_eq_true h0) _ (Ex.refl _)⟩
      · rw [decide_eq_false h0]
        exact iteF (k0 (decide_eq_false h0) _ (Ex.refl _))
    rw [given_congr hin] at h2
    refine ⟨r, _, rfl, .inl ⟨sq_of h2, RetU.new (K := K) (H := H) (fun d H5 e5 hd => ?_) e2⟩⟩
    have t5 := t.ex e5
    have glen : (given xs.length (fun i => decide (xs.getD i 0 ≠ 0)) (fun i => V.int (i : Int))).length ≤ 1000 := Nat.le_trans (given_len _ _ _) few
    have gw := given_weight xs (fun i => V.int (i : Int))
    refine ⟨_, rfl, a, xs, rfl, t5.ta, few, fun p6 H6 e6 h6 => ⟨_, rfl, _, _, rfl, .tup h6 (hd.ex e6) ?_ glen 1, fun H7 e7 => ⟨_, rfl, iteF ?_⟩⟩⟩
    · rw [given_ints]
      exact scal_ints _
    have t7 := t5.ex (e6.trans e7)
    refine ⟨_, rfl, a, xs, rfl, t7.ta, _, rfl, d, _, rfl, .inr (hd.ex (e6.trans e7)).sq, ?_⟩
    rw [gw]
    refine ⟨_, _, rfl, Sm.scal rfl _, fun H8 e8 => ⟨_, rfl, iteF ?_⟩⟩
    have t8 := t7.ex e8
    clear h2 h6 hd
    have ee : ∀ H9, Ex H8 H9 → Ex H H9 := fun H9 e9 => e5.trans (e6.trans (e7.trans (e8.trans e9)))
    refine ⟨_, rfl, a, _, rfl, .inr t8.ta.sq, _, rfl, by omega, by rw [List.length_map]; omega, ?_⟩
    rw [show (((xs.map V.int).length : Nat) : Int).toNat = xs.length by rw [List.length_map]; omega]
    refine lcP (walk_range (lo := 0)) (fun _ _ => trivial) (by omega) (fun i => decide (xs.getD i 0 ≠ ys.getD i 0)) (fun i => V.int (i : Int)) (fun i H1 x H2 hi e y K1 K0 k1 k0 => ?_) (fun r H9 hr e9 h9 => ?_)
    · obtain ⟨rfl, rfl⟩ := y
      have e0 : (0 : Int) + (i : Int) = (i : Int) := by omega
      show gName _ (V.int ((0 : Int) + (i : Int))) _ _ _
      rw [e0]
      refine ⟨rfl, _, rfl, _, rfl, a, _, _, _, rfl, rfl, (t8.ta.ex e).sq, atI_int hi, _, rfl, _, rfl, b, _, _, _, rfl, rfl, (t8.tb.ex e).sq, atI_int (l12 i hi), rfl, _, rfl, ?_⟩
      rw [dec_int]
      by_cases h0 : xs.getD i 0 = ys.getD i 0
      · rw [h0, beq_self_eq_true]
        exact iteF (k0 (decide_eq_false (fun h => h h0)) _ (Ex.refl _))
      · rw [beq_eq_false_iff_ne.mpr h0]
        exact iteT ⟨_, rfl, k1 (decide_eq_true h0) _ (Ex.refl _)⟩
    have t9 := t8.ex e9
    refine ⟨r, _, rfl, .inl (sq_of h9), ?_⟩
    refine ⟨_, rfl, _, rfl, a, b, xs, ys, rfl, t9.ta, t9.tb, t.len, few, fun H10 e10 => ?_⟩
    refine ⟨_, rfl, _, _, rfl, Sm.scal rfl _, fun H11 e11 => ⟨_, rfl, iteT ?_⟩⟩
    have t11 := t9.ex (e10.trans e11)
    refine ⟨_, rfl, _, rfl, b, a, ys, xs, rfl, t11.tb, t11.ta, t.len.symm, by have := t.len; omega, fun H12 e12 => ?_⟩
    have hsw : given ys.length (fun i => decide (ys.getD i 0 ≠ xs.getD i 0)) (fun i => V.int (i : Int)) = given xs.length (fun i => decide (xs.getD i 0 ≠ ys.getD i 0)) (fun i => V.int (i : Int)) := by
      rw [← t.len]
      refine given_congr fun i hi => ?_
      exact decide_eq_decide.mpr ⟨fun h e => h e.symm, fun h e => h e.symm⟩
    rw [hsw]
    exact ⟨_, rfl, _, _, rfl, Sm.scal rfl _, fun H13 e13 => k H13 (ee _ (e9.trans (e10.trans (e11.trans (e12.trans e13)))))⟩
theorem most_more (q : Int) (i : Nat) : rowNum q (List.replicate i (q - 1)) * q + q - 1 = rowNum q (List.replicate (i + 1) (q - 1)) := by
  rw [List.replicate_succ', rowNum_more]
  omega
theorem ok__law_numbers_hold (F : FnP K "_law_numbers_hold" s__law_numbers_hold f fd) (Z : Zs mg) (G__law_any : Fn P w K mg base CX0 1 "_law_any" s__law_any ["deal", "bound"] spAny) (G_row_number : Fn P w K mg base CX0 1 "row_number" s_row_number ["letters", "row"] (spRowNum K))
    (G_row_of_number : Fn P w K mg base CX0 1 "row_of_number" s_row_of_number ["letters", "length", "number"] (spRowOf K)) (G_unit_row : Fn P w K mg base CX0 2 "unit_row" s_unit_row ["length", "place"] (spUnit K))
    (G__law_same : Fn P w K mg base CX0 4 "_law_same" s__law_same ["told", "due"] (spSame K 2)) : FnOk P w K mg base CX0 5 f fd ["deal", "letters", "one"] (spNums K) := by
  refine F.ok sc__law_numbers_hold (fun vs H Q E h => ?_) (fun cdv A outer s H vs Q E hr h => ⟨_, PSs.nox (pss_cons (ps_par (i := 3) (j := 4) rfl sc__law_numbers_hold.nd rfl rfl (by decide) rfl rfl (pa_cons pe_int (pa_cons (pe_callB (kc_len (K := K)) (by rfl) Z.len PySem.boot_len (pa_cons (pv 2) pa_nil)) pa_nil)) (by rfl))
  (pss_cons (ps_for PassesOwn.never rfl (pi_tup (pv 2)) (pg_name (i := 5) sc__law_numbers_hold.nd rfl (by first | exact Or.inl rfl | exact Or.inr rfl)) (pss_one (ps_set (i := 3) sc__law_numbers_hold.nd rfl (by first | exact Or.inl rfl | exact Or.inr rfl) (pe_op op_add (pe_op op_mul (pv 3) (pv 1)) (pv 5)))))
  (pss_cons (ps_if (PW.pt (pw_or (pt_not (pt_val (pe_callF G__law_same (hr.mono (by decide)) rfl pass0 (pa_cons (pe_callF G_row_number (hr.mono (by decide)) rfl pass0 (pa_cons (pv 1) (pa_cons (pv 2) pa_nil))) (pa_cons (pv 3) pa_nil))))) (pw_or1 (pt_not (pt_val (pe_callF G__law_same (hr.mono (by decide)) rfl pass0 (pa_cons (pe_callF G_row_of_number (hr.mono (by decide)) rfl pass0 (pa_cons (pv 1) (pa_cons (pv 4) (pa_cons (pv 3) pa_nil)))) (pa_cons (pv 2) pa_nil)))))))) (pss_one (ps_ret pe_bl)) pss_nil)
  (pss_cons (ps_if (pt_cmpR op_eq (pv 4) pe_int (nomark _)) (pss_one (ps_ret pe_bl)) pss_nil)
  (pss_cons (ps_par (i := 6) (j := 7) rfl sc__law_numbers_hold.nd rfl rfl (by decide) rfl rfl (pa_cons (pe_callF G__law_any (hr.mono (by decide)) rfl pass0 (pa_cons (pv 0) (pa_cons (pv 4) pa_nil))) (pa_cons pe_int pa_nil)) (by rfl))
  (pss_cons (ps_for PassesOwn.never rfl (pi_range1 (by rfl) Z.range (pa_cons (pv 4) pa_nil)) (pg_name (i := 8) sc__law_numbers_hold.nd rfl (by first | exact Or.inl rfl | exact Or.inr rfl)) (pss_one (ps_set (i := 7) sc__law_numbers_hold.nd rfl (by first | exact Or.inl rfl | exact Or.inr rfl) (pe_op op_sub (pe_op op_add (pe_op op_mul (pv 7) (pv 1)) (pv 1)) pe_int))))
  (pss_cons (ps_if (pt_not (pt_val (pe_callF G__law_same (hr.mono (by decide)) rfl pass0 (pa_cons (pe_call0KF G_row_of_number (hr.mono (by decide)) kb_row_of_number_number_letters_length pass0 (pk_cons (pv 7) (pk_cons (pv 1) (pk_cons (pv 4) pk_nil)))) (pa_cons (pe_op (ko_rep (K := K)) (pe_tupF (pa_cons (pe_op op_sub (pv 1) pe_int) pa_nil)) (pv 4)) pa_nil))))) (pss_one (ps_ret pe_bl)) pss_nil)
  (pss_one (ps_ret (pe_callF G__law_same (hr.mono (by decide)) rfl pass0 (pa_cons (pe_callF G_unit_row (hr.mono (by decide)) rfl pass0 (pa_cons (pv 4) (pa_cons (pv 6) pa_nil))) (pa_cons (pe_op (ko_cat (K := K)) (pe_op (ko_cat (K := K)) (pe_op (ko_rep (K := K)) (pe_tupF (pa_cons pe_int pa_nil)) (pv 6)) (pe_tupF (pa_cons pe_int pa_nil))) (pe_op (ko_rep (K := K)) (pe_tupF (pa_cons pe_int pa_nil)) (pe_op op_sub (pe_op op_sub (pv 4) (pv 6)) pe_int))) pa_nil)))))))))))), ?_⟩)
  · obtain ⟨a, l, R, q, p, xs, rfl, _⟩ := h
    rfl
  · obtain ⟨a, l, R, q, p, xs, rfl, hw, hp, few, q0, q1, hin, k⟩ := h
    have hpH := hp.ex hw.ex
    refine ⟨_, rfl, p, _, rfl, .inr hpH.sq, _, _, rfl, ?_⟩
    rw [List.length_map]
    refine ⟨_, rfl, p, rfl, ⟨_, hpH.sq⟩, for_tup (xs := xs.map V.int) (fun i σ H' => H' = H ∧ ∃ v, σ = [some (.ref a), some (.int q), some (.ref p), some (.int (rowNum q (xs.take i))), some (.int (xs.length : Int)), v, none, none, none]) ⟨rfl, none, rfl⟩ (fun i σ H' _ h => h.1 ▸ hpH.sq) (fun i x σ H' hx z => ?_) (fun σ H' z => ?_)⟩
    · obtain ⟨rfl, v, rfl⟩ := z
      obtain ⟨rfl, hi⟩ := int_at hx
      refine ⟨_, rfl, _, rfl, _, _, rfl, rfl, .inr ⟨by omega, by omega⟩, _, rfl, _, _, rfl, rfl, rfl, some (.int (xs.getD i 0)), ?_⟩
      have := foldl_take (fun n x => n * q + x) 0 (xs := xs) (i := i) (x := xs.getD i 0) (by rw [List.getD_eq_getElem?_getD, List.getElem?_eq_getElem hi]; rfl)
      unfold rowNum
      rw [this]
      rfl
    · obtain ⟨rfl, v, rfl⟩ := z
      rw [List.length_map, List.take_length]
      refine ⟨_, rfl, _, rfl, q, p, xs, rfl, hpH, few, q0, q1, _, rfl, _, _, rfl, Sm.scal rfl _, fun H2 e2 => ⟨_, rfl, iteF ?_⟩⟩
      refine ⟨_, rfl, _, rfl, _, rfl, q, (xs.length : Int), _, rfl, q0, q1, by omega, by omega, fun p3 H3 e3 h3 => ?_⟩
      rw [show ((xs.length : Nat) : Int).toNat = xs.length by omega, digs_rowNum q0 _ xs rfl hin] at h3
      refine ⟨_, rfl, _, _, rfl, .tup h3 (hpH.ex (e2.trans e3)) (scal_ints _) (by rw [List.length_map]; exact few) 1, fun H4 e4 => ⟨_, rfl, iteF ?_⟩⟩
      have w4 := hw.keep (e2.trans (e3.trans e4))
      clear h3
      refine ⟨_, rfl, rfl, _, rfl, ?_⟩
      rw [dec_int]
      by_cases h0 : (xs.length : Int) = 0
      · rw [h0]
        exact iteT (k H4 w4)
      · rw [beq_eq_false_iff_ne.mpr h0]
        have hpos : (0 : Int) < xs.length := by omega
        refine iteF ⟨_, rfl, _, rfl, a, l, R, (xs.length : Int), rfl, w4, hpos, log_lt hpos (by omega), fun place H5 pl0 pl1 w5 => ⟨_, _, rfl, ?_⟩⟩
        refine ⟨_, rfl, (xs.length : Int), rfl, by omega, by omega, for_range (lo := 0) (n := (xs.length : Int).toNat) (fun i σ H' => H' = H5 ∧ ∃ v, σ = [some (.ref a), some (.int q), some (.ref p), some (.int (rowNum q xs)), some (.int (xs.length : Int)), v.1, some (.int place), some (.int (rowNum q (List.replicate i (q - 1)))), v.2]) ⟨rfl, (_, _), rfl⟩ (fun i σ H' hi z => ?_) (fun σ H' z => ?_)⟩
        · obtain ⟨rfl, ⟨v1, v2⟩, rfl⟩ := z
          refine ⟨_, rfl, _, rfl, _, _, rfl, rfl, .inr ⟨by omega, by omega⟩, _, rfl, _, _, rfl, rfl, _, _, rfl, rfl, rfl, (v1, some (.int (0 + (i : Int)))), ?_⟩
          rw [← most_more]
          rfl
        · obtain ⟨rfl, ⟨v1, v2⟩, rfl⟩ := z
          rw [show ((xs.length : Nat) : Int).toNat = xs.length by omega]
          refine ⟨_, rfl, _, rfl, _, rfl, q, (xs.length : Int), _, rfl, q0, q1, by omega, by omega, fun p6 H6 e6 h6 => ?_⟩
          rw [show ((xs.length : Nat) : Int).toNat = xs.length by omega, digs_rowNum q0 _ (List.replicate xs.length (q - 1)) (List.length_replicate ..) (fun y hy => by rw [List.eq_of_mem_replicate hy]; omega)] at h6
          have w6 := w5.keep e6
          refine ⟨_, rfl, _, _, rfl, rfl, by show 1 ≤ sizeLine; decide, fun p7 o7 hp7 ho7 => ⟨_, rfl, rep_one (by omega) (by omega) (fun p8 H8 e8 h8 => ?_) p7 o7 hp7 ho7⟩⟩
          rw [show ((xs.length : Nat) : Int).toNat = xs.length by omega, ← List.map_replicate] at h8
          refine ⟨_, _, rfl, .tup (h6.ex e8) h8 (scal_ints _) (by rw [List.length_map, List.length_replicate]; exact few) 1, fun H9 e9 => ⟨_, rfl, iteF ?_⟩⟩
          have w9 := w6.keep (e8.trans e9)
          clear h6 h8
          refine ⟨_, rfl, _, rfl, (xs.length : Int), place, rfl, pl0, pl1, by omega, fun p10 H10 e10 h10 => ?_⟩
          refine ⟨by show 1 ≤ sizeLine; decide, fun p11 o11 hp11 ho11 => ⟨_, rfl, rep_one (by omega) (by omega) (fun p12 H12 e12 h12 => ?_) p11 o11 hp11 ho11⟩⟩
          refine ⟨by show 1 ≤ sizeLine; decide, fun p13 o13 hp13 ho13 => ?_⟩
          have e13 := Ex.new (o := .frz o13 (.tup [V.int 1])) hp13
          refine cat_ret (h12.ex e13) (Tp.of ho13 upd_same) (Nat.le_of_lt (sz_lt (by rw [List.length_replicate]; simp only [List.length_singleton]; omega))) (Ex.refl _) fun c H14 e14 hc => ?_
          refine ⟨by show 1 ≤ sizeLine; decide, fun p15 o15 hp15 ho15 => ?_⟩
          refine ⟨_, rfl, _, rfl, _, _, rfl, rfl, _, _, rfl, rfl, rep_one (by omega) (by omega) (fun p16 H16 e16 h16 => ?_) p15 o15 hp15 ho15⟩
          refine cat_ret (hc.ex e16) h16 (Nat.le_of_lt (sz_lt (by simp only [List.length_append, List.length_replicate, List.length_singleton]; omega))) (Ex.refl _) fun g H17 e17 hg => ?_
          have ee : (unitL xs.length place).map V.int = List.replicate place.toNat (V.int 0) ++ [V.int 1] ++ List.replicate ((xs.length : Int) - place - 1).toNat (V.int 0) := by
            unfold unitL
            rw [List.map_append, List.map_append, List.map_replicate, List.map_replicate]
            rfl
          rw [← ee] at hg
          have e1217 := e12.trans (e13.trans (e14.trans (e16.trans e17)))
          refine ⟨_, _, rfl, .tup (h10.ex e1217) hg (scal_ints _) ?_ 1, fun H18 e18 => k H18 (w9.keep (e10.trans (e1217.trans e18)))⟩
          rw [ee]
          simp only [List.length_append, List.length_replicate, List.length_singleton]
          omega
end
end K02

namespace K02
open PySem PySem.Spec PyProof.Rows L2 Evl Own
/-- what need_row says, as it is told -/
def toldL : Option Nat → List V
  | none => [.str "told", .non]
  | some 0 => [.str "row", .int (-1)]
  | some (k + 1) => [.str "row", .int (k : Int)]
def NeedR (K : PySem.W.Frag) (H : Hp) (q n : Int) (x : V) : Option Nat → Prop
  | none => ∃ p xs, x = .ref p ∧ Tp K H p xs ∧ (xs.length : Int) = n ∧ (∀ v ∈ xs, ∃ T, Vk K H v T) ∧ ∀ v ∈ xs, okV 0 (q - 1) v = true
  | some 0 => (∃ T, Vk K H x T ∧ T ≠ "tuple") ∨ ∃ p xs, x = .ref p ∧ Tp K H p xs ∧ ¬ (xs.length : Int) = n
  | some (i + 1) => ∃ p xs, x = .ref p ∧ Tp K H p xs ∧ (xs.length : Int) = n ∧ (∀ v ∈ xs, ∃ T, Vk K H v T) ∧ ∃ v, xs[i]? = some v ∧ okV 0 (q - 1) v = false ∧ ∀ (j : Nat) (u : V), j < i → xs[j]? = some u → okV 0 (q - 1) u = true
def spTold (K : PySem.W.Frag) : Sp := fun vs H Q _ => ∃ q n x r, vs = [.int q, .int n, x] ∧ 0 ≤ n ∧ n ≤ 1000 ∧ NeedR K H q n x r ∧ RetU K (toldL r) H Q
theorem NeedR.ex {K : PySem.W.Frag} {H H1 : Hp} {q n : Int} {x : V} {r : Option Nat} (h : NeedR K H q n x r) (e : Ex H H1) : NeedR K H1 q n x r := by
  rcases r with _ | _ | i
  · obtain ⟨p, xs, h1, h2, h3, h4, h5⟩ := h
    exact ⟨p, xs, h1, h2.ex e, h3, fun v hv => (h4 v hv).imp fun _ t => t.ex e, h5⟩
  · rcases h with ⟨T, h, hT⟩ | ⟨p, xs, h1, h2, h3⟩
    · exact .inl ⟨T, h.ex e, hT⟩
    · exact .inr ⟨p, xs, h1, h2.ex e, h3⟩
  · obtain ⟨p, xs, h1, h2, h3, h4, h5⟩ := h
    exact ⟨p, xs, h1, h2.ex e, h3, fun v hv => (h4 v hv).imp fun _ t => t.ex e, h5⟩
/-- need_row's promise, from that -/
theorem need_of {K : PySem.W.Frag} {C : Addr} {H : Hp} {q n : Int} {x : V} {r : Option Nat} {Q : VK} {E : XK} (h : NeedR K H q n x r) (h0 : 0 ≤ n) (h1 : n ≤ 1000) (h2 : r = none → Q .non H) (h3 : ∀ k : Int, toldL r = [.str "row", .int k] → RaisesAt C k H E) :
    spNeed K C [.int q, .int n, x] H Q E := by
  rcases r with _ | _ | i
  · obtain ⟨p, xs, rfl, g2, g3, g4, g5⟩ := h
    exact ⟨q, n, _, "tuple", rfl, .tup g2, h0, h1, .inr ⟨p, xs, rfl, g2, .inr ⟨g3, g4, .inl ⟨g5, h2 rfl⟩⟩⟩⟩
  · rcases h with ⟨T, h, hT⟩ | ⟨p, xs, rfl, g2, g3⟩
    · exact ⟨q, n, x, T, rfl, h, h0, h1, .inl ⟨hT, h3 (-1) rfl⟩⟩
    · exact ⟨q, n, _, "tuple", rfl, .tup g2, h0, h1, .inr ⟨p, xs, rfl, g2, .inl ⟨g3, h3 (-1) rfl⟩⟩⟩
  · obtain ⟨p, xs, rfl, g2, g3, g4, v, g5, g6, g7⟩ := h
    exact ⟨q, n, _, "tuple", rfl, .tup g2, h0, h1, .inr ⟨p, xs, rfl, g2, .inr ⟨g3, g4, .inr ⟨i, v, g5, g6, g7, h3 _ rfl⟩⟩⟩⟩
section
variable {P : Program} {w : World} {K : PySem.W.Frag} {mg : Str → Option Value} {base : Heap} {f : Addr} {fd : FuncData}
theorem ok__law_told (F : FnP K "_law_told" s__law_told f fd) (Z : Zs mg) {C M fI : Addr} (X_InvalidRow : PySem.OwXat.OexT P K C M fI) (g_InvalidRow : mg "InvalidRow" = some (.ref C)) (G_need_row : Fn P w K mg base (L2.CX P w) 3 "need_row" s_need_row ["letters", "length", "value"] (spNeed K C)) :
    FnOk P w K mg base CX0 4 f fd ["letters", "length", "value"] (spTold K) := by
  refine F.ok sc__law_told (fun vs H Q E h => ?_) (fun cdv A outer s H vs Q E hr h => ⟨_, PSs.nox (pss_one (ps_try_as (i := 3) (tb := fun W => tRet (tTupF (tCons (tC (.str "told")) (tCons (tCallS (spNeed K C) (WE W) (tCons (tVar 0) (tCons (tVar 1) (tCons (tVar 2) tNil)))) tNil)))) (ts := fun a cls d => tRet (tTupF (tCons (tC (.str "row")) (tCons (tBy_at C a cls d (tVar 3)) tNil)))) (Wout := fun _ _ _ _ => False) rfl rfl sc__law_told.nd rfl rfl ⟨rfl, by decide, Or.inl g_InvalidRow⟩ takes0
    (fun W pn xe tk _ => pss_one (ps_ret (pe_tupF (pa_cons pe_str (pa_cons (pe_callSF G_need_row (hr.mono (by decide)) rfl (fun σ => passAt tk σ) (pa_cons (pv 0) (pa_cons (pv 1) (pa_cons (pv 2) pa_nil)))) pa_nil)))))
    (fun a oe cls d pn hz hf => pss_one (ps_ret (pe_tupF (pa_cons pe_str (pa_cons (pe_by_at X_InvalidRow hz hf (pv 3)) pa_nil))))))), ?_⟩)
  · obtain ⟨q, n, x, r, rfl, _⟩ := h
    rfl
  · obtain ⟨q, n, x, r, rfl, h0, h1, h, k⟩ := h
    refine ⟨_, rfl, _, rfl, _, rfl, ?_⟩
    dsimp only [tNil]
    refine need_of h h0 h1 (fun e => ?_) (fun z e => ?_)
    · subst e
      exact ⟨by show 2 ≤ sizeLine; decide, k.new (Ex.refl _)⟩
    · intro d hd
      refine ⟨true, X_InvalidRow.te, fun _ a0 _ => ?_, fun q => Bool.noConfusion q⟩
      refine ⟨_, rfl, rfl, rfl, d, _, rfl, upd_same, ⟨by show 2 ≤ sizeLine; decide, ?_⟩⟩
      rw [← e]
      exact k.new (Ex.new hd)
end
end K02

namespace K02
open PySem PySem.Spec PyProof.Rows L2 Evl Own
/-- a row with some places made wrong -/
structure Wrong (K : PySem.W.Frag) (a l : Addr) (R H : Hp) (q : Int) (n : Nat) (pl wr : Addr) (i : Nat) (ps : List Int) (ws : List V) (R' : Hp) : Prop where
  ex : Ex R R'
  wl : Wl a l R' H
  hpl : R' pl = some (.lst (ps.map V.int))
  hwr : R' wr = some (.lst ws)
  pn : ps.length = i
  pin : ∀ x ∈ ps, 0 ≤ x ∧ x < (n : Int)
  wn : ws.length = n
  vk : ∀ v ∈ ws, ∃ T, Vk K R' v T
  ok : ∀ (j : Nat) (v : V), ws[j]? = some v → okV 0 (q - 1) v = !decide ((j : Int) ∈ ps)
theorem okV_not {q : Int} {v : V} (h : ∀ z, v = .int z → ¬ (0 ≤ z ∧ z ≤ q - 1)) : okV 0 (q - 1) v = false := by
  cases v with
  | int z =>
    show (decide (0 ≤ z) && decide (z ≤ q - 1)) = false
    have := h z rfl
    by_cases c : 0 ≤ z
    · rw [decide_eq_true c, decide_eq_false (fun h => this ⟨c, h⟩)]
      rfl
    · rw [decide_eq_false c]
      rfl
  | _ => rfl
section
variable {P : Program} {w : World} {K : PySem.W.Frag} {mg : Str → Option Value} {base : Heap} {f : Addr} {fd : FuncData}
theorem ok__law_needs_hold (F : FnP K "_law_needs_hold" s__law_needs_hold f fd) (Z : Zs mg) (hdig : PySem.W.nsIn K cStatics "sys.int_max_str_digits" = some none) (G__law_any : Fn P w K mg base CX0 1 "_law_any" s__law_any ["deal", "bound"] spAny) (G__law_of : Fn P w K mg base CX0 2 "_law_of" s__law_of ["deal", "some"] (spOf K))
    (G__law_told : Fn P w K mg base CX0 4 "_law_told" s__law_told ["letters", "length", "value"] (spTold K))
    (G__law_same : Fn P w K mg base CX0 4 "_law_same" s__law_same ["told", "due"] (spSame K 2)) : FnOk P w K mg base CX0 5 f fd ["deal", "letters", "one"] (spNums K) := by
  refine F.ok sc__law_needs_hold (fun vs H Q E h => ?_) (fun cdv A outer s H vs Q E hr h => ⟨_, PSs.nox (pss_cons (ps_par (i := 3) (j := 4) rfl sc__law_needs_hold.nd rfl rfl (by decide) rfl rfl (pa_cons (pe_callB (kc_len (K := K)) (by rfl) Z.len PySem.boot_len (pa_cons (pv 2) pa_nil)) (pa_cons (pe_lst pa_nil) pa_nil)) (by rfl))
  (pss_cons (ps_if (pt_not (pt_val (pe_callF G__law_same (hr.mono (by decide)) rfl pass0 (pa_cons (pe_callF G__law_told (hr.mono (by decide)) rfl pass0 (pa_cons (pv 1) (pa_cons (pv 3) (pa_cons (pv 2) pa_nil)))) (pa_cons (pe_tupF (pa_cons pe_str (pa_cons pe_non pa_nil))) pa_nil))))) (pss_one (ps_ret pe_bl)) pss_nil)
  (pss_cons (ps_set (i := 5) sc__law_needs_hold.nd rfl (by first | exact Or.inl rfl | exact Or.inr rfl) (pe_lst (pa_cons (pe_op (ko_cat (K := K)) (pv 2) (pe_tupF (pa_cons pe_int pa_nil))) (pa_cons (pe_op (ko_cat (K := K)) (pe_slice (ksl_tup (K := K)) (pv 2) (po_some pe_int) po_none) (pe_op (ko_rep (K := K)) (pe_tupF (pa_cons (pe_tupF pa_nil) pa_nil)) (pe_callTy call_int1 (by rfl) Z.int (by decide +kernel) (pa_cons (pe_cmpR (ko_eq (K := K) hr.units) (pv 2) (pe_tupF pa_nil) (nomark _)) pa_nil)))) (pa_cons (pe_callTy (kc_list (K := K)) (by rfl) Z.list (by decide +kernel) (pa_cons (pv 2) pa_nil)) (pa_cons pe_non (pa_cons (pe_op op_repS pe_str (pv 3)) (pa_cons (pv 3) (pa_cons (pe_tupF (pa_cons (pv 2) pa_nil)) (pa_cons (pe_op (ko_cat (K := K)) (pe_op (ko_cat (K := K)) (pv 2) (pv 2)) (pe_tupF (pa_cons pe_int pa_nil))) pa_nil))))))))))
  (pss_cons (ps_if (PW.pt (pw_and (pt_not (pt_cmpR op_eq (pv 3) pe_int (nomark _))) (pw_and1 (pt_not (pt_val (pe_callF G__law_same (hr.mono (by decide)) rfl pass0 (pa_cons (pe_callF G__law_told (hr.mono (by decide)) rfl pass0 (pa_cons (pv 1) (pa_cons (pv 3) (pa_cons (pe_callF G__law_of (hr.mono (by decide)) rfl pass0 (pa_cons (pv 0) (pa_cons (pv 5) pa_nil))) pa_nil)))) (pa_cons (pe_tupF (pa_cons pe_str (pa_cons (pe_un un_neg pe_int) pa_nil))) pa_nil)))))))) (pss_one (ps_ret pe_bl)) pss_nil)
  (pss_cons (ps_if (pt_cmpR op_eq (pv 3) pe_int (nomark _)) (pss_one (ps_ret pe_bl)) pss_nil)
  (pss_cons (ps_set (i := 6) sc__law_needs_hold.nd rfl (by first | exact Or.inl rfl | exact Or.inr rfl) (pe_callTy (kc_list (K := K)) (by rfl) Z.list (by decide +kernel) (pa_cons (pv 2) pa_nil)))
  (pss_cons (ps_for PassesOwn.never rfl (pi_range1 (by rfl) Z.range (pa_cons (pe_callF G__law_of (hr.mono (by decide)) rfl pass0 (pa_cons (pv 0) (pa_cons (pe_lst (pa_cons pe_int (pa_cons pe_int (pa_cons pe_int pa_nil)))) pa_nil))) pa_nil)) (pg_name (i := 7) sc__law_needs_hold.nd rfl (by first | exact Or.inl rfl | exact Or.inr rfl)) (pss_cons (ps_set (i := 8) sc__law_needs_hold.nd rfl (by first | exact Or.inl rfl | exact Or.inr rfl) (pe_callF G__law_any (hr.mono (by decide)) rfl pass0 (pa_cons (pv 0) (pa_cons (pv 3) pa_nil))))
  (pss_cons (ps_expr (km_bm (K := K) PySem.F.plainAttrs_list PySem.F.slot_list_append PySem.F.type_list_append mt_append (pv 4) (pa_cons (pv 8) pa_nil)))
  (pss_cons (ps_set (i := 9) sc__law_needs_hold.nd rfl (by first | exact Or.inl rfl | exact Or.inr rfl) (pe_lst (pa_cons (pv 1) (pa_cons (pe_op op_add (pv 1) pe_int) (pa_cons (pe_un un_neg pe_int) (pa_cons pe_bl (pa_cons pe_bl (pa_cons pe_non (pa_cons pe_str (pa_cons (pe_tupF (pa_cons pe_int pa_nil)) (pa_cons (pe_lst (pa_cons pe_int pa_nil)) (pa_cons (pe_op op_pow pe_int pe_int) (pa_cons (pe_un un_neg (pv 1)) (pa_cons (pe_callTy (call_intS hdig) (by rfl) Z.int (by decide +kernel) (pa_cons (pe_op op_repS pe_str pe_int) pa_nil)) pa_nil))))))))))))))
  (pss_one (ps_asg (pe_callF G__law_of (hr.mono (by decide)) rfl pass0 (pa_cons (pv 0) (pa_cons (pv 9) pa_nil))) (pg_sub (pv 6) (pv 8) set_list)))))))
  (pss_one (ps_ret (pe_callF G__law_same (hr.mono (by decide)) rfl pass0 (pa_cons (pe_callF G__law_told (hr.mono (by decide)) rfl pass0 (pa_cons (pv 1) (pa_cons (pv 3) (pa_cons (pe_callTy (kc_tuple (K := K)) (by rfl) Z.tuple (by decide +kernel) (pa_cons (pv 6) pa_nil)) pa_nil)))) (pa_cons (pe_tupF (pa_cons pe_str (pa_cons (pe_callB (kc_min (K := K) rfl) (by rfl) Z.min (by decide +kernel) (pa_cons (pv 4) pa_nil)) pa_nil))) pa_nil)))))))))))), ?_⟩)
  · obtain ⟨a, l, R, q, p, xs, rfl, _⟩ := h
    rfl
  · obtain ⟨a, l, R, q, p, xs, rfl, hw, hp, few, q0, q1, hin, k⟩ := h
    have hpH := hp.ex hw.ex
    refine ⟨_, rfl, p, _, rfl, .inr hpH.sq, by decide, fun pl hpl => ⟨_, _, rfl, ?_⟩⟩
    rw [List.length_map]
    have w1 := hw.new (o := .lst []) hpl
    have eR1 : Ex R (upd R pl (.lst [])) := Ex.new (hw.free hpl)
    have plR : R pl = none := hw.free hpl
    have hpl1 : (upd R pl (.lst [])) pl = some (.lst []) := upd_same
    have hp1 := hp.ex eR1
    generalize upd R pl (.lst []) = R1 at w1 eR1 hpl1 hp1
    generalize upd H pl (.lst []) = H1 at w1 ⊢
    have hone : NeedR K H1 q (xs.length : Int) (.ref p) none := by
      refine ⟨p, _, rfl, hp1.ex w1.ex, by rw [List.length_map], fun v hv => ?_, fun v hv => ?_⟩
      · obtain ⟨x, _, rfl⟩ := List.mem_map.mp hv
        exact ⟨_, .int x⟩
      · obtain ⟨x, hx, rfl⟩ := List.mem_map.mp hv
        have := hin x hx
        show (decide (0 ≤ x) && decide (x ≤ q - 1)) = true
        rw [decide_eq_true this.1, decide_eq_true (by omega)]
        rfl
    refine ⟨_, rfl, _, rfl, _, rfl, q, (xs.length : Int), _, none, rfl, by omega, by omega, hone, fun p2 H2 e2 h2 => ?_⟩
    refine ⟨by show 2 ≤ sizeLine; decide, RetU.new (K := K) (H := H2) (fun p3 H3 e3 h3 => ?_) (Ex.refl _)⟩
    refine ⟨_, _, rfl, .tup (h2.ex e3) h3 (by decide) (by decide) 1, fun H4 e4 => ⟨_, rfl, iteF ?_⟩⟩
    have w4 := w1.keep (e2.trans (e3.trans e4))
    clear h2 h3 hone hpH
    have hp4 := hp1.ex w4.ex
    generalize e2.trans (e3.trans e4) = e14
    -- some
    have few' : (xs.map V.int).length ≤ 1000 := by rw [List.length_map]; exact few
    refine ⟨_, rfl, by show 1 ≤ sizeLine; decide, RetU.new (K := K) (H := H4) (fun p5 H5 e5 h5 => ?_) (Ex.refl _)⟩
    refine cat_ret (hp4.ex e5) h5 (Nat.le_of_lt (sz_lt (by simp only [List.length_singleton]; omega))) (Ex.refl _) fun c1 H6 e6 hc1 => ?_
    have e46 := e5.trans e6
    clear h5
    refine ⟨_, rfl, _, rfl, ?_⟩
    dsimp only [tNoPart]
    refine sl_ret (hp4.ex e46) fun p7 H7 e7 h7 => ?_
    rw [cut_from1] at h7
    refine ⟨by show 0 ≤ sizeLine; decide, RetU.new (K := K) (H := H7) (fun p8 H8 e8 h8 => ?_) (Ex.refl _)⟩
    refine ⟨by show 1 ≤ sizeLine; decide, RetU.new (K := K) (H := H8) (fun p9 H9 e9 h9 => ?_) (Ex.refl _)⟩
    refine ⟨_, rfl, by show 0 ≤ sizeLine; decide, RetU.new (K := K) (H := H9) (fun p10 H10 e10 h10 => ?_) (Ex.refl _)⟩
    have e410 := e46.trans (e7.trans (e8.trans (e9.trans e10)))
    refine ⟨.tuple (xs.map PyData.int), .tuple [], .tup (hp4.ex e410).sq (dp_ints xs), .tup h10.sq .nil, sh_tup_ints xs, rfl, .inr ⟨_, rfl, ?_⟩⟩
    rw [eqv_tup_nil]
    refine rep_ret (h9.ex e10) (by split <;> omega) (by split <;> omega) (by show 1 ≤ 1000; omega) fun p11 H11 e11 h11 => ?_
    have hl2 : ((xs.map V.int).drop 1 ++ (List.replicate (if xs.isEmpty = true then (1 : Int) else 0).toNat [V.ref p8]).flatten).length ≤ 1001 ∧ ((xs.map V.int).drop 1 ++ (List.replicate (if xs.isEmpty = true then (1 : Int) else 0).toNat [V.ref p8]).flatten).length ≠ xs.length := by
      cases xs with
      | nil => exact ⟨by show 1 ≤ 1001; omega, by show 1 ≠ 0; omega⟩
      | cons x r =>
        have : ((x :: r).map V.int).drop 1 ++ (List.replicate (if (x :: r).isEmpty = true then (1 : Int) else 0).toNat [V.ref p8]).flatten = r.map V.int := by
          show r.map V.int ++ [] = _
          rw [List.append_nil]
        rw [this, List.length_map]
        have : (x :: r).length = r.length + 1 := rfl
        exact ⟨by omega, by omega⟩
    refine cat_ret (h7.ex (e8.trans (e9.trans (e10.trans e11)))) h11 (by rw [← List.length_append]; exact Nat.le_of_lt (sz_lt (by omega))) (Ex.refl _) fun c2 H12 e12 hc2 => ?_
    clear h7 h8 h9 h10 h11
    generalize ((xs.map V.int).drop 1 ++ (List.replicate (if xs.isEmpty = true then (1 : Int) else 0).toNat [V.ref p8]).flatten) = us at hc2 hl2
    have e612 := e7.trans (e8.trans (e9.trans (e10.trans (e11.trans e12))))
    have hp12 := hp4.ex (e46.trans e612)
    refine ⟨_, rfl, p, _, rfl, .inr hp12.sq, fun l3 hl3 => ?_⟩
    have e13 := Ex.new (o := .lst (xs.map V.int)) hl3
    have hl3' : upd H12 l3 (.lst (xs.map V.int)) l3 = some (.lst (xs.map V.int)) := upd_same
    generalize upd H12 l3 (.lst (xs.map V.int)) = H13 at e13 hl3' ⊢
    have hp13 := hp12.ex e13
    refine ⟨_, rfl, _, (xs.length : Int), rfl, rfl, by omega, by omega, by decide, _, rfl, _, rfl, by show 1 ≤ sizeLine; decide, RetU.new (K := K) (H := H13) (fun c4 H14 e14 hc4 => ?_) (Ex.refl _)⟩
    have hp14 := hp13.ex e14
    refine ⟨_, rfl, _, rfl, cat_ret hp14 hp14 (Nat.le_of_lt (sz_lt (by omega))) (Ex.refl _) fun c5 H15 e15 hc5 => ?_⟩
    refine ⟨by show 1 ≤ sizeLine; decide, RetU.new (K := K) (H := H15) (fun c6 H16 e16 hc6 => ?_) (Ex.refl _)⟩
    refine cat_ret (hc5.ex e16) hc6 (Nat.le_of_lt (sz_lt (by simp only [List.length_append, List.length_singleton]; omega))) (Ex.refl _) fun c7 H17 e17 hc7 => ?_
    refine ⟨by show 8 ≤ sizeLine; decide, fun so hso => ?_⟩
    have e417 := e46.trans (e612.trans (e13.trans (e14.trans (e15.trans (e16.trans e17)))))
    have e1217 := e13.trans (e14.trans (e15.trans (e16.trans e17)))
    have w17 := w4.keep e417
    have hso' : upd H17 so (.lst [V.ref c1, .ref c2, .ref l3, .non, .str (repS "0" (xs.length : Int).toNat), .int xs.length, .ref c4, .ref c7]) so = some (.lst [V.ref c1, .ref c2, .ref l3, .non, .str (repS "0" (xs.length : Int).toNat), .int xs.length, .ref c4, .ref c7]) := upd_same
    have e18 := Ex.new (o := .lst [V.ref c1, .ref c2, .ref l3, .non, .str (repS "0" (xs.length : Int).toNat), .int xs.length, .ref c4, .ref c7]) hso
    have so1 := w17.deal.off hso
    have l3n := (w4.keep (e46.trans e612)).deal.off hl3
    have s8 : [V.ref c1, .ref c2, .ref l3, .non, .str (repS "0" (xs.length : Int).toNat), .int xs.length, .ref c4, .ref c7] ≠ [] ∧ [V.ref c1, .ref c2, .ref l3, .non, .str (repS "0" (xs.length : Int).toNat), .int xs.length, .ref c4, .ref c7].length ≤ 100 := ⟨by simp, by show 8 ≤ 100; omega⟩
    generalize upd H17 so (.lst [V.ref c1, .ref c2, .ref l3, .non, .str (repS "0" (xs.length : Int).toNat), .int xs.length, .ref c4, .ref c7]) = H18 at hso' e18 ⊢
    obtain ⟨R18, eR18, w18, known⟩ := (w17.keep e18).more (Ex.refl _)
    have sR : SqL K R18 so [V.ref c1, .ref c2, .ref l3, .non, .str (repS "0" (xs.length : Int).toNat), .int xs.length, .ref c4, .ref c7] := sq_of (known _ _ so1.1 so1.2 hso')
    have tk : ∀ {p : Addr} {us : List V}, Tp K H18 p us → Tp K R18 p us := fun h => tp_known h w18.deal known
    have bad : ∀ v ∈ [V.ref c1, .ref c2, .ref l3, .non, .str (repS "0" (xs.length : Int).toNat), .int xs.length, .ref c4, .ref c7], xs.length ≠ 1 → NeedR K R18 q (xs.length : Int) v (some 0) := by
      intro v hv n1
      rcases List.mem_cons.mp hv with rfl | hv
      · exact .inr ⟨_, _, rfl, tk (hc1.ex (e612.trans (e1217.trans e18))), by rw [List.length_append, List.length_map]; simp only [List.length_singleton]; omega⟩
      rcases List.mem_cons.mp hv with rfl | hv
      · exact .inr ⟨_, _, rfl, tk (hc2.ex (e1217.trans e18)), by have := hl2.2; omega⟩
      rcases List.mem_cons.mp hv with rfl | hv
      · exact .inl ⟨_, .lst (known _ _ l3n.1 l3n.2 ((e14.trans (e15.trans (e16.trans (e17.trans e18)))) _ _ hl3')), by decide⟩
      rcases List.mem_cons.mp hv with rfl | hv
      · exact .inl ⟨_, .non, by decide⟩
      rcases List.mem_cons.mp hv with rfl | hv
      · exact .inl ⟨_, .str _, by decide⟩
      rcases List.mem_cons.mp hv with rfl | hv
      · exact .inl ⟨_, .int _, by decide⟩
      rcases List.mem_cons.mp hv with rfl | hv
      · exact .inr ⟨_, _, rfl, tk (hc4.ex (e15.trans (e16.trans (e17.trans e18)))), by simp only [List.length_singleton]; omega⟩
      rcases List.mem_cons.mp hv with rfl | hv
      · exact .inr ⟨_, _, rfl, tk (hc7.ex e18), by simp only [List.length_append, List.length_map, List.length_singleton]; omega⟩
      · cases hv
    generalize [V.ref c1, .ref c2, .ref l3, .non, .str (repS "0" (xs.length : Int).toNat), .int xs.length, .ref c4, .ref c7] = some8 at bad s8 sR
    clear hc1 hc2 hc4 hc5 hc6 hc7
    refine if_skip (Wl a l R18) (fun H19 w19 => ?_) (fun nx hn => ?_)
    · clear bad
      refine ⟨_, rfl, rfl, _, rfl, ?_⟩
      rw [dec_int]
      by_cases n0 : (xs.length : Int) = 0
      · rw [n0]
        exact iteT (k _ (w19.weak (eR1.trans eR18)))
      rw [beq_eq_false_iff_ne.mpr n0]
      have npos : (0 : Int) < xs.length := by omega
      refine iteF ⟨_, rfl, p, _, rfl, .inr ((hp1.ex eR18).ex w19.ex).sq, fun wr hwr => ?_⟩
      have hpl18 : R18 pl = some (.lst []) := eR18 _ _ hpl1
      have wR : R18 wr = none := w19.free hwr
      have plwr : pl ≠ wr := fun e => by
        rw [e, wR] at hpl18
        cases hpl18
      have w20 := w19.new (o := .lst (xs.map V.int)) hwr
      have start : Wrong K a l R (upd H19 wr (.lst (xs.map V.int))) q xs.length pl wr 0 [] (xs.map V.int) (upd R18 wr (.lst (xs.map V.int))) := by
        refine ⟨eR1.trans (eR18.trans (Ex.new wR)), w20, by rw [upd_ne plwr]; exact hpl18, upd_same, rfl, fun x h => (List.not_mem_nil h).elim, by rw [List.length_map], fun v hv => ?_, fun j v hv => ?_⟩
        · obtain ⟨x, _, rfl⟩ := List.mem_map.mp hv
          exact ⟨_, .int x⟩
        · obtain ⟨rfl, hj⟩ := int_at hv
          have := hin _ (Own.getD_mem hj)
          show (decide (0 ≤ xs.getD j 0) && decide (xs.getD j 0 ≤ q - 1)) = true
          rw [decide_eq_true this.1, decide_eq_true (by omega)]
          rfl
      generalize upd R18 wr (.lst (xs.map V.int)) = R20 at start w20
      generalize upd H19 wr (.lst (xs.map V.int)) = H20 at start w20 ⊢
      refine ⟨_, rfl, by decide, fun t ht => ?_⟩
      have w21 := w20.new (o := .lst [V.int 1, .int 1, .int 2]) ht
      refine ⟨a, l, t, _, [V.int 1, .int 1, .int 2], rfl, w21, sq_of upd_same, by decide, by decide, fun v H22 hv w22 => ?_⟩
      have w23 := w22.weak (Ex.new (w20.free ht))
      have hn : ∃ n : Int, v = .int n ∧ 1 ≤ n ∧ n ≤ 2 := by
        rcases List.mem_cons.mp hv with rfl | hv
        · exact ⟨1, rfl, by decide, by decide⟩
        rcases List.mem_cons.mp hv with rfl | hv
        · exact ⟨1, rfl, by decide, by decide⟩
        rcases List.mem_cons.mp hv with rfl | hv
        · exact ⟨2, rfl, by decide, by decide⟩
        · cases hv
      obtain ⟨m, rfl, m0, m1⟩ := hn
      have start' : Wrong K a l R H22 q xs.length pl wr 0 [] (xs.map V.int) R20 := ⟨start.ex, w23, start.hpl, start.hwr, start.pn, start.pin, start.wn, start.vk, start.ok⟩
      refine ⟨m, rfl, by omega, by omega, for_range (lo := 0) (n := m.toNat) (fun i σ H' => ∃ (v1 v2 v3 : Option V) (ps : List Int) (ws : List V) (R' : Hp), σ = [some (.ref a), some (.int q), some (.ref p), some (.int (xs.length : Int)), some (.ref pl), some (.ref so), some (.ref wr), v1, v2, v3] ∧ Wrong K a l R H' q xs.length pl wr i ps ws R') ⟨none, none, none, [], _, R20, rfl, start'⟩ (fun i σ H' hi z => ?_) (fun σ H' z => ?_)⟩
      · obtain ⟨v1, v2, v3, ps, ws, R', rfl, s⟩ := z
        have hwR : R wr = none := fresh_back (eR1.trans eR18) wR
        refine ⟨_, rfl, _, rfl, a, l, R', (xs.length : Int), rfl, s.wl, npos, log_lt npos (by omega), fun x H1 x0 x1 w1 => ?_⟩
        have hpl1 := w1.ex _ _ s.hpl
        have pn := s.pn
        have wn := s.wn
        refine ⟨_, rfl, .inl ⟨rfl, _, sq_of hpl1⟩, _, rfl, pl, _, _, rfl, rfl, hpl1, sz_lt (by rw [List.length_map]; omega), ?_⟩
        have w2 := w1.mut (o' := .lst (ps.map V.int ++ [.int x])) s.hpl
        have ex2 : Ex R (upd R' pl (.lst (ps.map V.int ++ [.int x]))) := ex_side s.ex plR
        have hpl2 : (upd R' pl (.lst (ps.map V.int ++ [.int x]))) pl = some (.lst (ps.map V.int ++ [.int x])) := upd_same
        have hwr2 : (upd R' pl (.lst (ps.map V.int ++ [.int x]))) wr = some (.lst ws) := by rw [upd_ne plwr.symm]; exact s.hwr
        have vk2 : ∀ v ∈ ws, ∃ T, Vk K (upd R' pl (.lst (ps.map V.int ++ [.int x]))) v T := fun v hv => (s.vk v hv).imp fun _ t => t.mut s.hpl
        generalize upd R' pl (.lst (ps.map V.int ++ [.int x])) = R2 at w2 ex2 hpl2 hwr2 vk2
        generalize upd H1 pl (.lst (ps.map V.int ++ [.int x])) = H2 at w2 ⊢
        obtain ⟨z3, i4, i1, i2, i3⟩ := fig_three (n := 4000) (by decide) (by decide)
        refine ⟨_, rfl, _, rfl, _, _, rfl, rfl, _, rfl, by show 1 ≤ sizeLine; decide, RetU.new (K := K) (H := H2) (fun c3 H3 e3 hc3 => ?_) (Ex.refl _)⟩
        refine ⟨by show 1 ≤ sizeLine; decide, fun l4 hl4 => ?_⟩
        have e4 := Ex.new (o := .lst [V.int 0]) hl4
        have hl4' : upd H3 l4 (.lst [V.int 0]) l4 = some (.lst [V.int 0]) := upd_same
        have l4n := (w2.keep e3).deal.off hl4
        generalize upd H3 l4 (.lst [V.int 0]) = H4 at e4 hl4' ⊢
        refine ⟨_, _, rfl, rfl, ⟨by decide, by decide, by decide⟩, _, rfl, _, rfl, _, _, rfl, rfl, by decide, by decide, by decide, _, _, rfl, i1, i2, i3, by show 12 ≤ sizeLine; decide, fun mu hmu => ?_⟩
        clear i1 i2 i3
        have w4 := w2.keep (e3.trans e4)
        have mun := w4.deal.off hmu
        have e5 := Ex.new (o := .lst [V.int q, .int (q + 1), .int (-1), .bl true, .bl false, .non, .str "1", .ref c3, .ref l4, .int (10 ^ (9 : Int).toNat), .int (-q), .int z3]) hmu
        have hmu' : upd H4 mu (.lst [V.int q, .int (q + 1), .int (-1), .bl true, .bl false, .non, .str "1", .ref c3, .ref l4, .int (10 ^ (9 : Int).toNat), .int (-q), .int z3]) mu = some (.lst [V.int q, .int (q + 1), .int (-1), .bl true, .bl false, .non, .str "1", .ref c3, .ref l4, .int (10 ^ (9 : Int).toNat), .int (-q), .int z3]) := upd_same
        have ml : [V.int q, .int (q + 1), .int (-1), .bl true, .bl false, .non, .str "1", .ref c3, .ref l4, .int (10 ^ (9 : Int).toNat), .int (-q), .int z3] ≠ [] ∧ [V.int q, .int (q + 1), .int (-1), .bl true, .bl false, .non, .str "1", .ref c3, .ref l4, .int (10 ^ (9 : Int).toNat), .int (-q), .int z3].length ≤ 100 := ⟨by simp, by show 12 ≤ 100; omega⟩
        generalize upd H4 mu (.lst [V.int q, .int (q + 1), .int (-1), .bl true, .bl false, .non, .str "1", .ref c3, .ref l4, .int (10 ^ (9 : Int).toNat), .int (-q), .int z3]) = H5 at e5 hmu' ⊢
        obtain ⟨R5, eR5, w5, known⟩ := (w4.keep e5).more (Ex.refl _)
        have sM : SqL K R5 mu [V.int q, .int (q + 1), .int (-1), .bl true, .bl false, .non, .str "1", .ref c3, .ref l4, .int (10 ^ (9 : Int).toNat), .int (-q), .int z3] := sq_of (known _ _ mun.1 mun.2 hmu')
        have bad : ∀ v ∈ [V.int q, .int (q + 1), .int (-1), .bl true, .bl false, .non, .str "1", .ref c3, .ref l4, .int (10 ^ (9 : Int).toNat), .int (-q), .int z3], okV 0 (q - 1) v = false ∧ ∃ T, Vk K R5 v T := by
          intro v hv
          rcases List.mem_cons.mp hv with rfl | hv
          · exact ⟨okV_not fun z e => by cases e; omega, _, .int _⟩
          rcases List.mem_cons.mp hv with rfl | hv
          · exact ⟨okV_not fun z e => by cases e; omega, _, .int _⟩
          rcases List.mem_cons.mp hv with rfl | hv
          · exact ⟨okV_not fun z e => by cases e; omega, _, .int _⟩
          rcases List.mem_cons.mp hv with rfl | hv
          · exact ⟨rfl, _, .bl _⟩
          rcases List.mem_cons.mp hv with rfl | hv
          · exact ⟨rfl, _, .bl _⟩
          rcases List.mem_cons.mp hv with rfl | hv
          · exact ⟨rfl, _, .non⟩
          rcases List.mem_cons.mp hv with rfl | hv
          · exact ⟨rfl, _, .str _⟩
          rcases List.mem_cons.mp hv with rfl | hv
          · exact ⟨rfl, _, .tup (tp_known (hc3.ex (e4.trans e5)) w5.deal known)⟩
          rcases List.mem_cons.mp hv with rfl | hv
          · exact ⟨rfl, _, .lst (known _ _ l4n.1 l4n.2 (e5 _ _ hl4'))⟩
          rcases List.mem_cons.mp hv with rfl | hv
          · exact ⟨okV_not fun z e => by cases e; have : (10 : Int) ^ (9 : Int).toNat = 1000000000 := rfl; omega, _, .int _⟩
          rcases List.mem_cons.mp hv with rfl | hv
          · exact ⟨okV_not fun z e => by cases e; omega, _, .int _⟩
          rcases List.mem_cons.mp hv with rfl | hv
          · exact ⟨okV_not fun z e => by
              have := V.int.inj e
              omega, _, .int _⟩
          · cases hv
        generalize [V.int q, .int (q + 1), .int (-1), .bl true, .bl false, .non, .str "1", .ref c3, .ref l4, .int (10 ^ (9 : Int).toNat), .int (-q), .int z3] = menu at sM ml bad
        refine ⟨_, rfl, _, rfl, a, l, mu, R5, menu, rfl, w5, sM, ml.1, ml.2, fun v H6 hv w6 => ?_⟩
        obtain ⟨hbad, T, hT⟩ := bad v hv
        have hwr5 := eR5 _ _ hwr2
        have hpl5 := eR5 _ _ hpl2
        have hix : ixN ws.length x = some x.toNat := by
          unfold ixN
          rw [if_pos x0, if_pos (by rw [wn]; exact x1)]
        refine ⟨_, rfl, _, rfl, wr, ws, x, x.toNat, rfl, rfl, w6.ex _ _ hwr5, hix, ?_⟩
        refine ⟨some (.int (0 + (i : Int))), some (.int x), some (.ref mu), ps ++ [x], ws.set x.toNat v, upd R5 wr (.lst (ws.set x.toNat v)), rfl, ?_⟩
        refine ⟨ex_side (ex2.trans eR5) hwR, w6.mut hwr5, ?_, upd_same, by rw [List.length_append, pn]; rfl, fun y hy => ?_, by rw [List.length_set]; exact wn, fun u hu => ?_, fun j u hu => ?_⟩
        · rw [upd_ne plwr, List.map_append]
          exact hpl5
        · rcases List.mem_append.mp hy with h | h
          · exact s.pin y h
          · rw [List.mem_singleton.mp h]
            exact ⟨x0, x1⟩
        · rcases List.mem_or_eq_of_mem_set hu with h | rfl
          · obtain ⟨T', hT'⟩ := vk2 u h
            exact ⟨T', (hT'.ex eR5).mut hwr5⟩
          · exact ⟨T, hT.mut hwr5⟩
        · by_cases hj : x.toNat = j
          · subst hj
            rw [List.getElem?_set_self (by rw [wn]; omega)] at hu
            cases hu
            rw [hbad, decide_eq_true (by rw [show ((x.toNat : Nat) : Int) = x by omega]; simp)]
            rfl
          · rw [List.getElem?_set_ne hj] at hu
            rw [s.ok j u hu]
            congr 1
            apply decide_eq_decide.mpr
            constructor
            · exact fun h => List.mem_append_left _ h
            · intro h
              rcases List.mem_append.mp h with h | h
              · exact h
              · exfalso
                have := List.mem_singleton.mp h
                omega
      · obtain ⟨v1, v2, v3, ps, ws, R', rfl, s⟩ := z
        have hne : ps ≠ [] := fun e => by
          have := s.pn
          rw [e] at this
          have : 0 = m.toNat := this
          omega
        obtain ⟨lo, lo1, lo2⟩ := least ps hne
        have hlo := s.pin _ lo1
        refine ⟨_, rfl, _, rfl, _, rfl, wr, ws, rfl, .inl ⟨sq_of (s.wl.ex _ _ s.hwr), RetU.new (K := K) (H := H') (fun c H23 e23 hc => ?_) (Ex.refl _)⟩⟩
        have hj : lo.toNat < ws.length := by rw [s.wn]; omega
        have hlo' : ((lo.toNat : Nat) : Int) = lo := by omega
        have need : NeedR K H23 q (xs.length : Int) (.ref c) (some (lo.toNat + 1)) := by
          refine ⟨c, ws, rfl, hc, by rw [s.wn], fun v hv => (s.vk v hv).imp fun _ t => (t.ex s.wl.ex).ex e23, ws[lo.toNat], List.getElem?_eq_getElem hj, ?_, fun j u hju hu => ?_⟩
          · rw [s.ok _ _ (List.getElem?_eq_getElem hj), hlo', decide_eq_true lo1]
            rfl
          · rw [s.ok _ _ hu, decide_eq_false (fun h => by have := lo2 _ h; omega)]
            rfl
        refine ⟨q, (xs.length : Int), _, some (lo.toNat + 1), rfl, by omega, by omega, need, fun p24 H24 e24 h24 => ?_⟩
        have w24 := s.wl.keep (e23.trans e24)
        refine ⟨_, rfl, pl, ps, rfl, sq_of (w24.ex _ _ s.hpl), List.length_pos_iff.mpr hne, fun m' hm1 hm2 => ⟨by show 2 ≤ sizeLine; decide, RetU.new (K := K) (H := H24) (fun p25 H25 e25 h25 => ?_) (Ex.refl _)⟩⟩
        have em : m' = lo := Int.le_antisymm (hm2 lo lo1) (lo2 m' hm1)
        subst em
        have h24' : Tp K H24 p24 [V.str "row", .int m'] := by
          have : toldL (some (m'.toNat + 1)) = [V.str "row", .int m'] := by
            show [V.str "row", .int ((m'.toNat : Nat) : Int)] = _
            rw [hlo']
          rw [← this]
          exact h24
        refine ⟨_, _, rfl, .tup (h24'.ex e25) h25 ?_ (by show 2 ≤ 1000; omega) 1, fun H26 e26 => k _ ((w24.keep (e25.trans e26)).weak s.ex)⟩
        intro v hv
        rcases List.mem_cons.mp hv with rfl | hv
        · rfl
        · rw [List.mem_singleton.mp hv]
          rfl
    · refine ⟨_, rfl, rfl, _, rfl, ?_⟩
      rw [dec_int]
      by_cases n1 : (xs.length : Int) = 1
      · rw [n1]
        exact iteF (iteF (hn _ w18))
      · rw [beq_eq_false_iff_ne.mpr n1]
        refine iteT ⟨_, rfl, _, rfl, _, rfl, _, rfl, a, l, so, R18, some8, rfl, w18, sR, s8.1, s8.2, fun v H20 hv w20 => ?_⟩
        have bv := (bad v hv (by omega)).ex w20.ex
        refine ⟨q, (xs.length : Int), v, some 0, rfl, by omega, by omega, bv, fun p21 H21 e21 h21 => ?_⟩
        refine ⟨_, rfl, by show 2 ≤ sizeLine; decide, RetU.new (K := K) (H := H21) (fun p22 H22 e22 h22 => ?_) (Ex.refl _)⟩
        refine ⟨_, _, rfl, .tup (h21.ex e22) h22 (by decide) (by decide) 1, fun H23 e23 => ⟨_, rfl, iteF (hn _ (w20.keep (e21.trans (e22.trans e23))))⟩⟩
end
end K02

namespace K02
open PySem PySem.Spec PyProof.Rows L2 Evl Own
def spLaw (K : PySem.W.Frag) : Sp := fun vs H Q _ => ∃ (a : Addr) (ns : List Int), vs = [.ref a] ∧ SqL K H a (ns.map V.int) ∧ ∀ H', Q (.bl true) H'
section
variable {P : Program} {w : World} {K : PySem.W.Frag} {mg : Str → Option Value} {base : Heap} {f : Addr} {fd : FuncData}
theorem ok_law (F : FnP K "law" s_law f fd) (Z : Zs mg) (G__law_deal : Fn P w K mg base CX0 1 "_law_deal" s__law_deal ["script", "salt"] (spDeal K)) (G__law_any : Fn P w K mg base CX0 1 "_law_any" s__law_any ["deal", "bound"] spAny) (G__law_of : Fn P w K mg base CX0 2 "_law_of" s__law_of ["deal", "some"] (spOf K))
    (G__law_row : Fn P w K mg base CX0 2 "_law_row" s__law_row ["deal", "letters", "length"] (spLawRow K)) (G__law_near : Fn P w K mg base CX0 3 "_law_near" s__law_near ["deal", "letters", "row"] (spLawNear K)) (G__law_great : Fn P w K mg base CX0 3 "_law_great" s__law_great ["deal"] spLawGreat)
    (G__law_sums_hold : Fn P w K mg base CX0 5 "_law_sums_hold" s__law_sums_hold ["letters", "one", "other", "number"] (spSums K)) (G__law_held_hold : Fn P w K mg base CX0 5 "_law_held_hold" s__law_held_hold ["letters", "one", "other"] (spHelds K))
    (G__law_numbers_hold : Fn P w K mg base CX0 5 "_law_numbers_hold" s__law_numbers_hold ["deal", "letters", "one"] (spNums K)) (G__law_needs_hold : Fn P w K mg base CX0 5 "_law_needs_hold" s__law_needs_hold ["deal", "letters", "one"] (spNums K)) : FnOk P w K mg base CX0 6 f fd ["script"] (spLaw K) := by
  refine F.ok sc_law (fun vs H Q E h => ?_) (fun cdv A outer s H vs Q E hr h => ⟨_, PSs.nox (pss_cons (ps_set (i := 1) sc_law.nd rfl (by first | exact Or.inl rfl | exact Or.inr rfl) (pe_callF G__law_deal (hr.mono (by decide)) rfl pass0 (pa_cons (pv 0) (pa_cons pe_int pa_nil))))
  (pss_cons (ps_for PassesOwn.never rfl (pi_range1 (by rfl) Z.range (pa_cons pe_int pa_nil)) (pg_name (i := 2) sc_law.nd rfl (by first | exact Or.inl rfl | exact Or.inr rfl)) (pss_cons (ps_set (i := 3) sc_law.nd rfl (by first | exact Or.inl rfl | exact Or.inr rfl) (pe_op op_add pe_int (pe_callF G__law_any (hr.mono (by decide)) rfl pass0 (pa_cons (pv 1) (pa_cons pe_int pa_nil)))))
  (pss_cons (ps_set (i := 4) sc_law.nd rfl (by first | exact Or.inl rfl | exact Or.inr rfl) (pe_ix (kx_list (K := K)) (pe_lst (pa_cons pe_int (pa_cons pe_int pa_nil))) (pe_op op_sub (pv 3) pe_int) (fun _ _ => rfl)))
  (pss_cons (ps_set (i := 5) sc_law.nd rfl (by first | exact Or.inl rfl | exact Or.inr rfl) (pe_callF G__law_of (hr.mono (by decide)) rfl pass0 (pa_cons (pv 1) (pa_cons (pe_lst (pa_cons (pe_callF G__law_any (hr.mono (by decide)) rfl pass0 (pa_cons (pv 1) (pa_cons (pe_op op_add (pv 4) pe_int) pa_nil))) (pa_cons (pe_callF G__law_any (hr.mono (by decide)) rfl pass0 (pa_cons (pv 1) (pa_cons pe_int pa_nil))) (pa_cons (pv 4) (pa_cons (pe_op op_sub (pv 4) pe_int) pa_nil))))) pa_nil))))
  (pss_cons (ps_set (i := 6) sc_law.nd rfl (by first | exact Or.inl rfl | exact Or.inr rfl) (pe_callF G__law_row (hr.mono (by decide)) rfl pass0 (pa_cons (pv 1) (pa_cons (pv 3) (pa_cons (pv 5) pa_nil)))))
  (pss_cons (ps_set (i := 7) sc_law.nd rfl (by first | exact Or.inl rfl | exact Or.inr rfl) (pe_callF G__law_of (hr.mono (by decide)) rfl pass0 (pa_cons (pv 1) (pa_cons (pe_lst (pa_cons (pe_callF G__law_row (hr.mono (by decide)) rfl pass0 (pa_cons (pv 1) (pa_cons (pv 3) (pa_cons (pv 5) pa_nil)))) (pa_cons (pe_callF G__law_near (hr.mono (by decide)) rfl pass0 (pa_cons (pv 1) (pa_cons (pv 3) (pa_cons (pv 6) pa_nil)))) pa_nil))) pa_nil))))
  (pss_cons (ps_if (PW.pt (pw_or (pt_not (pt_val (pe_callF G__law_sums_hold (hr.mono (by decide)) rfl pass0 (pa_cons (pv 3) (pa_cons (pv 6) (pa_cons (pv 7) (pa_cons (pe_callF G__law_great (hr.mono (by decide)) rfl pass0 (pa_cons (pv 1) pa_nil)) pa_nil))))))) (pw_or1 (pt_not (pt_val (pe_callF G__law_held_hold (hr.mono (by decide)) rfl pass0 (pa_cons (pv 3) (pa_cons (pv 6) (pa_cons (pv 7) pa_nil))))))))) (pss_one (ps_ret pe_bl)) pss_nil)
  (pss_one (ps_if (PW.pt (pw_or (pt_not (pt_val (pe_callF G__law_numbers_hold (hr.mono (by decide)) rfl pass0 (pa_cons (pv 1) (pa_cons (pv 3) (pa_cons (pv 6) pa_nil)))))) (pw_or1 (pt_not (pt_val (pe_callF G__law_needs_hold (hr.mono (by decide)) rfl pass0 (pa_cons (pv 1) (pa_cons (pv 3) (pa_cons (pv 6) pa_nil))))))))) (pss_one (ps_ret pe_bl)) pss_nil)))))))))
  (pss_one (ps_ret pe_bl)))), ?_⟩)
  · obtain ⟨a, ns, rfl, _⟩ := h
    rfl
  · obtain ⟨a, ns, rfl, ha, k⟩ := h
    refine ⟨_, rfl, a, ns, 2, rfl, ha, by decide, by decide, fun d l H1 w1 => ?_⟩
    refine ⟨4, rfl, by decide, by decide, for_range (lo := 0) (n := 4) (fun i σ H' => ∃ v1 : Option V × Option V × Option V × Option V × Option V × Option V, σ = [some (.ref a), some (.ref d), v1.1, v1.2.1, v1.2.2.1, v1.2.2.2.1, v1.2.2.2.2.1, v1.2.2.2.2.2] ∧ Wl d l H H') ⟨(none, none, none, none, none, none), rfl, w1⟩ (fun i σ H' hi z => ?_) (fun σ H' z => ?_)⟩
    · obtain ⟨⟨v1, v2, v3, v4, v5, v6⟩, rfl, w2⟩ := z
      refine ⟨_, rfl, d, l, H, 2, rfl, w2, by decide, log_lt (by decide) (by decide), fun x H3 x0 x1 w3 => ⟨_, _, rfl, rfl, ?_⟩⟩
      refine ⟨by decide, fun t ht => ?_⟩
      have w4 := w3.keep (Ex.new (o := .lst [V.int 24, .int 16]) ht)
      have hx : ∃ top : Int, (top = 24 ∨ top = 16) ∧ atI [V.int 24, .int 16] (2 + x - 2) = some (.int top) := by
        have : x = 0 ∨ x = 1 := by omega
        rcases this with rfl | rfl
        · exact ⟨24, .inl rfl, rfl⟩
        · exact ⟨16, .inr rfl, rfl⟩
      obtain ⟨top, htop, hat⟩ := hx
      refine ⟨_, rfl, _, _, rfl, rfl, t, [V.int 24, .int 16], _, .int top, rfl, rfl, sq_of upd_same, hat, ?_⟩
      generalize upd H3 t (.lst [V.int 24, .int 16]) = H4 at w4 ⊢
      refine ⟨_, rfl, _, rfl, _, rfl, _, _, rfl, rfl, d, l, H, top + 1, rfl, w4, by omega, log_lt (by omega) (by omega), fun n1 H5 n10 n11 w5 => ?_⟩
      refine ⟨_, rfl, d, l, H, 4, rfl, w5, by decide, log_lt (by decide) (by decide), fun n2 H6 n20 n21 w6 => ?_⟩
      refine ⟨_, rfl, _, rfl, _, _, rfl, rfl, by show 4 ≤ sizeLine; decide, fun t2 ht2 => ?_⟩
      have w7 := w6.new (o := .lst [V.int n1, .int n2, .int top, .int (top - 1)]) ht2
      refine ⟨d, l, t2, _, [V.int n1, .int n2, .int top, .int (top - 1)], rfl, w7, sq_of upd_same, by simp, by show 4 ≤ 100; omega, fun v H8 hv w8' => ?_⟩
      have w8 := w8'.weak (Ex.new (w6.free ht2))
      have hn : ∃ n : Int, v = .int n ∧ 0 ≤ n ∧ n ≤ 24 := by
        rcases List.mem_cons.mp hv with rfl | hv
        · exact ⟨_, rfl, by omega, by omega⟩
        rcases List.mem_cons.mp hv with rfl | hv
        · exact ⟨_, rfl, by omega, by omega⟩
        rcases List.mem_cons.mp hv with rfl | hv
        · exact ⟨_, rfl, by omega, by omega⟩
        rcases List.mem_cons.mp hv with rfl | hv
        · exact ⟨_, rfl, by omega, by omega⟩
        · cases hv
      obtain ⟨n, rfl, n0, n24⟩ := hn
      have q0 : 0 < 2 + x := by omega
      refine ⟨_, rfl, _, rfl, _, rfl, d, l, H, 2 + x, n, rfl, w8, q0, by omega, n0, by omega, fun xs hxl hxin p R9 H9 e9 w9 hp => ?_⟩
      refine ⟨_, rfl, _, rfl, _, rfl, _, rfl, d, l, R9, 2 + x, n, rfl, w9, q0, by omega, n0, by omega, fun ys hyl hyin b R10 H10 e10 w10 hb => ?_⟩
      have hp10 := hp.ex e10
      refine ⟨_, rfl, _, rfl, _, rfl, d, l, R10, 2 + x, p, xs, rfl, w10, q0, by omega, hp10, by omega, hxin, fun zs hzl hzin c R11 H11 e11 w11 hc => ?_⟩
      refine ⟨by show 2 ≤ sizeLine; decide, fun t3 ht3 => ?_⟩
      have w12 := w11.new (o := .lst [V.ref b, .ref c]) ht3
      refine ⟨d, l, t3, _, [V.ref b, .ref c], rfl, w12, sq_of upd_same, by simp, by show 2 ≤ 100; omega, fun v H13 hv w13' => ?_⟩
      have w13 := w13'.weak (Ex.new (w11.free ht3))
      have hv' : ∃ (o : Addr) (os : List Int), v = .ref o ∧ Tp K R11 o (os.map V.int) ∧ os.length = xs.length ∧ In0 (2 + x) os := by
        rcases List.mem_cons.mp hv with rfl | hv
        · exact ⟨b, ys, rfl, hb.ex e11, by omega, hyin⟩
        rcases List.mem_cons.mp hv with rfl | hv
        · exact ⟨c, zs, rfl, hc, hzl, hzin⟩
        · cases hv
      obtain ⟨o, os, rfl, ho, hol, hoin⟩ := hv'
      have hp11 := hp10.ex e11
      have two : Two K R11 (2 + x) p o xs os := ⟨hp11, ho, hol.symm, by omega, q0, by omega, hxin, hoin⟩
      refine ⟨_, rfl, _, rfl, _, rfl, _, rfl, d, l, R11, rfl, w13, fun great H14 w14 => ?_⟩
      refine ⟨_, _, _, _, _, _, rfl, two.ex w14.ex, fun H15 e15 => ⟨_, rfl, iteF ?_⟩⟩
      have w15 := w14.keep e15
      refine ⟨_, rfl, _, rfl, _, rfl, _, _, _, _, _, rfl, two.ex w15.ex, fun H16 e16 => ⟨_, rfl, iteF ?_⟩⟩
      have w16 := w15.keep e16
      refine ⟨_, rfl, _, rfl, _, rfl, d, l, R11, 2 + x, p, xs, rfl, w16, hp11, by omega, q0, by omega, hxin, fun H17 w17 => ⟨_, rfl, iteF ?_⟩⟩
      refine ⟨_, rfl, _, rfl, _, rfl, d, l, R11, 2 + x, p, xs, rfl, w17, hp11, by omega, q0, by omega, hxin, fun H18 w18 => ⟨_, rfl, iteF ?_⟩⟩
      exact ⟨(some (.int (0 + (i : Int))), _, _, _, _, _), rfl, w18.weak (e9.trans (e10.trans e11))⟩
    · exact k _
end
end K02

set_option maxHeartbeats 0
namespace K02
open PySem PySem.Spec PyProof.Rows L2 Own
/-! ### the head: facts by names, the run -/
def d_is_integer : He.DefD := ⟨("is_integer", none), "is_integer", "is_integer", defArgs s_is_integer, defBody s_is_integer, defScope s_is_integer, [], []⟩
def d_is_between : He.DefD := ⟨("is_between", none), "is_between", "is_between", defArgs s_is_between, defBody s_is_between, defScope s_is_between, [], []⟩
def d_is_tuple_of : He.DefD := ⟨("is_tuple_of", none), "is_tuple_of", "is_tuple_of", defArgs s_is_tuple_of, defBody s_is_tuple_of, defScope s_is_tuple_of, [], []⟩
def d_need_row : He.DefD := ⟨("need_row", none), "need_row", "need_row", defArgs s_need_row, defBody s_need_row, defScope s_need_row, [], []⟩
def d_added : He.DefD := ⟨("added", none), "added", "added", defArgs s_added, defBody s_added, defScope s_added, [], []⟩
def d_less : He.DefD := ⟨("less", none), "less", "less", defArgs s_less, defBody s_less, defScope s_less, [], []⟩
def d_times : He.DefD := ⟨("times", none), "times", "times", defArgs s_times, defBody s_times, defScope s_times, [], []⟩
def d_turned : He.DefD := ⟨("turned", none), "turned", "turned", defArgs s_turned, defBody s_turned, defScope s_turned, [], []⟩
def d_worth : He.DefD := ⟨("worth", none), "worth", "worth", defArgs s_worth, defBody s_worth, defScope s_worth, [], []⟩
def d_weight : He.DefD := ⟨("weight", none), "weight", "weight", defArgs s_weight, defBody s_weight, defScope s_weight, [], []⟩
def d_held : He.DefD := ⟨("held", none), "held", "held", defArgs s_held, defBody s_held, defScope s_held, [], []⟩
def d_apart : He.DefD := ⟨("apart", none), "apart", "apart", defArgs s_apart, defBody s_apart, defScope s_apart, [], []⟩
def d_nought_row : He.DefD := ⟨("nought_row", none), "nought_row", "nought_row", defArgs s_nought_row, defBody s_nought_row, defScope s_nought_row, [], []⟩
def d_unit_row : He.DefD := ⟨("unit_row", none), "unit_row", "unit_row", defArgs s_unit_row, defBody s_unit_row, defScope s_unit_row, [], []⟩
def d_row_number : He.DefD := ⟨("row_number", none), "row_number", "row_number", defArgs s_row_number, defBody s_row_number, defScope s_row_number, [], []⟩
def d_row_of_number : He.DefD := ⟨("row_of_number", none), "row_of_number", "row_of_number", defArgs s_row_of_number, defBody s_row_of_number, defScope s_row_of_number, [], []⟩
def d__law_deal : He.DefD := ⟨("_law_deal", none), "_law_deal", "_law_deal", defArgs s__law_deal, defBody s__law_deal, defScope s__law_deal, [], []⟩
def d__law_any : He.DefD := ⟨("_law_any", none), "_law_any", "_law_any", defArgs s__law_any, defBody s__law_any, defScope s__law_any, [], []⟩
def d__law_of : He.DefD := ⟨("_law_of", none), "_law_of", "_law_of", defArgs s__law_of, defBody s__law_of, defScope s__law_of, [], []⟩
def d__law_same : He.DefD := ⟨("_law_same", none), "_law_same", "_law_same", defArgs s__law_same, defBody s__law_same, defScope s__law_same, [], []⟩
def d__law_row : He.DefD := ⟨("_law_row", none), "_law_row", "_law_row", defArgs s__law_row, defBody s__law_row, defScope s__law_row, [], []⟩
def d__law_near : He.DefD := ⟨("_law_near", none), "_law_near", "_law_near", defArgs s__law_near, defBody s__law_near, defScope s__law_near, [], []⟩
def d__law_great : He.DefD := ⟨("_law_great", none), "_law_great", "_law_great", defArgs s__law_great, defBody s__law_great, defScope s__law_great, [], []⟩
def d__law_sums_hold : He.DefD := ⟨("_law_sums_hold", none), "_law_sums_hold", "_law_sums_hold", defArgs s__law_sums_hold, defBody s__law_sums_hold, defScope s__law_sums_hold, [], []⟩
def d__law_held_hold : He.DefD := ⟨("_law_held_hold", none), "_law_held_hold", "_law_held_hold", defArgs s__law_held_hold, defBody s__law_held_hold, defScope s__law_held_hold, [], []⟩
def d__law_numbers_hold : He.DefD := ⟨("_law_numbers_hold", none), "_law_numbers_hold", "_law_numbers_hold", defArgs s__law_numbers_hold, defBody s__law_numbers_hold, defScope s__law_numbers_hold, [], []⟩
def d__law_told : He.DefD := ⟨("_law_told", none), "_law_told", "_law_told", defArgs s__law_told, defBody s__law_told, defScope s__law_told, [], []⟩
def d__law_needs_hold : He.DefD := ⟨("_law_needs_hold", none), "_law_needs_hold", "_law_needs_hold", defArgs s__law_needs_hold, defBody s__law_needs_hold, defScope s__law_needs_hold, [], []⟩
def d_law : He.DefD := ⟨("law", none), "law", "law", defArgs s_law, defBody s_law, defScope s_law, [], []⟩
def fnL : List He.DefD := [d_is_integer, d_is_between, d_is_tuple_of, d_need_row, d_added, d_less, d_times, d_turned, d_worth, d_weight, d_held, d_apart, d_nought_row, d_unit_row, d_row_number, d_row_of_number, d__law_deal, d__law_any, d__law_of, d__law_same, d__law_row, d__law_near, d__law_great, d__law_sums_hold, d__law_held_hold, d__law_numbers_hold, d__law_told, d__law_needs_hold, d_law]
def faL : List He.Fa := [.glo "is_integer", .glo "is_between", .glo "is_tuple_of", .glo "need_row", .glo "added", .glo "less", .glo "times", .glo "turned", .glo "worth", .glo "weight", .glo "held", .glo "apart", .glo "nought_row", .glo "unit_row", .glo "row_number", .glo "row_of_number", .glo "_law_deal", .glo "_law_any", .glo "_law_of", .glo "_law_same", .glo "_law_row", .glo "_law_near", .glo "_law_great", .glo "_law_sums_hold", .glo "_law_held_hold", .glo "_law_numbers_hold", .glo "_law_told", .glo "_law_needs_hold", .glo "law", .glo "InvalidRow", .free "abs", .free "bool", .free "int", .free "isinstance", .free "len", .free "list", .free "min", .free "range", .free "reversed", .free "str", .free "sum", .free "tuple", .free "zip"]
def exRow : ExD := exAt "InvalidRow" "MirrorError" "no such row" "InvalidRow.__init__" ⟨6, 17, 6, 21⟩ ⟨6, 23, 6, 25⟩ ⟨7, 8, 7, 13⟩ ⟨7, 8, 7, 15⟩ ⟨7, 8, 7, 24⟩ ⟨7, 25, 7, 38⟩ ⟨7, 8, 7, 39⟩ ⟨7, 8, 7, 39⟩ ⟨8, 8, 8, 12⟩ ⟨8, 8, 8, 15⟩ ⟨8, 18, 8, 20⟩ ⟨8, 8, 8, 20⟩
def exL : List ExD := [exRow]
abbrev RR : PySem.W.OpenRow := PySem.W.OpenLaw.row PySem.Challenge.rw_ownmirrors_k02_rows_place_by_place
abbrev PR : Program := PySem.Challenge.pw_ownmirrors_k02_rows_place_by_place
abbrev fileS : Str := PR.main.file
abbrev hk : PySem.W.Hook := hookE fileS 5 faL fnL exL
def ob (s : PySem.W.SharedT) : AlE := obsEG fileS 5 faL fnL exL (HandSHeadRun.getT s)
theorem ob_eq (s : PySem.W.SharedT) : ob s = hk.obs s.abs := obsEG_eq (HandSHeadRun.getT_eq s)
def looseL : List Str := ["MirrorError", "InvalidRow", "is_integer", "is_between", "is_tuple_of", "need_row", "added", "less", "times", "turned", "worth", "weight", "held", "apart", "nought_row", "unit_row", "row_number", "row_of_number", "_law_deal", "_law_any", "_law_of", "_law_same", "_law_row", "_law_near", "_law_great", "_law_sums_hold", "_law_held_hold", "_law_numbers_hold", "_law_told", "_law_needs_hold"]
theorem run (w : World) : HandSHeadRun.RunEq RR (PySem.W.view RR.prog [34]) hk ob 4000 looseL w := by
  intro os
  kernel_rfl
theorem exRow_ok {K : PySem.W.Frag} (c : SaysE fileS faL fnL exL K) : PySem.OwXat.OexT PR K (He.ga K "InvalidRow") (He.ga K "MirrorError") (He.ma K (He.ga K "InvalidRow") "__init__") :=
  oex_at c.st (c.ex_ 0 (e := exRow) rfl) (by decide +kernel) (fun env => ⟨_, rfl⟩) (fun env => rfl) (fun env => rfl)
theorem facts {w : World} {K : PySem.W.Frag} {h : Heap} {mg : Str → Option Value} {f : Addr} (X : K.In h) (G : h.Ns mainGlobals mg) (hfa : mg ("law" : Str) = some (.ref f)) (c : SaysE fileS faL fnL exL K) :
    ∃ fd : FuncData, (∀ (s : Shared) (v : Value), BindsTo s fd ⟨[v], []⟩ [("script", v)]) ∧ ∀ base : Heap, K.In base → base.Ns mainGlobals mg → FnOk PR w K mg base CX0 6 f fd ["script"] (spLaw K) := by
  obtain ⟨fd_is_integer, F_is_integer⟩ := c.saysD.def_ 0 (d := d_is_integer) rfl
  have m_is_integer : mg "is_integer" = some (.ref (He.ga K "is_integer")) := He.glo_ok X G (c.saysD.fact 0 (f := .glo "is_integer") rfl)
  have b_is_integer : Binds K fd_is_integer ["value"] [] := FunD.bindsN F_is_integer fun _ _ _ _ _ _ us hl => match us, hl with | [_], _ => rfl
  obtain ⟨fd_is_between, F_is_between⟩ := c.saysD.def_ 1 (d := d_is_between) rfl
  have m_is_between : mg "is_between" = some (.ref (He.ga K "is_between")) := He.glo_ok X G (c.saysD.fact 1 (f := .glo "is_between") rfl)
  have b_is_between : Binds K fd_is_between ["value", "low", "high"] [] := FunD.bindsN F_is_between fun _ _ _ _ _ _ us hl => match us, hl with | [_, _, _], _ => rfl
  obtain ⟨fd_is_tuple_of, F_is_tuple_of⟩ := c.saysD.def_ 2 (d := d_is_tuple_of) rfl
  have m_is_tuple_of : mg "is_tuple_of" = some (.ref (He.ga K "is_tuple_of")) := He.glo_ok X G (c.saysD.fact 2 (f := .glo "is_tuple_of") rfl)
  have b_is_tuple_of : Binds K fd_is_tuple_of ["value", "size"] [] := FunD.bindsN F_is_tuple_of fun _ _ _ _ _ _ us hl => match us, hl with | [_, _], _ => rfl
  obtain ⟨fd_need_row, F_need_row⟩ := c.saysD.def_ 3 (d := d_need_row) rfl
  have m_need_row : mg "need_row" = some (.ref (He.ga K "need_row")) := He.glo_ok X G (c.saysD.fact 3 (f := .glo "need_row") rfl)
  have b_need_row : Binds K fd_need_row ["letters", "length", "value"] [] := FunD.bindsN F_need_row fun _ _ _ _ _ _ us hl => match us, hl with | [_, _, _], _ => rfl
  obtain ⟨fd_added, F_added⟩ := c.saysD.def_ 4 (d := d_added) rfl
  have m_added : mg "added" = some (.ref (He.ga K "added")) := He.glo_ok X G (c.saysD.fact 4 (f := .glo "added") rfl)
  have b_added : Binds K fd_added ["letters", "one", "other"] [] := FunD.bindsN F_added fun _ _ _ _ _ _ us hl => match us, hl with | [_, _, _], _ => rfl
  obtain ⟨fd_less, F_less⟩ := c.saysD.def_ 5 (d := d_less) rfl
  have m_less : mg "less" = some (.ref (He.ga K "less")) := He.glo_ok X G (c.saysD.fact 5 (f := .glo "less") rfl)
  have b_less : Binds K fd_less ["letters", "one", "other"] [] := FunD.bindsN F_less fun _ _ _ _ _ _ us hl => match us, hl with | [_, _, _], _ => rfl
  obtain ⟨fd_times, F_times⟩ := c.saysD.def_ 6 (d := d_times) rfl
  have m_times : mg "times" = some (.ref (He.ga K "times")) := He.glo_ok X G (c.saysD.fact 6 (f := .glo "times") rfl)
  have b_times : Binds K fd_times ["letters", "row", "number"] [] := FunD.bindsN F_times fun _ _ _ _ _ _ us hl => match us, hl with | [_, _, _], _ => rfl
  obtain ⟨fd_turned, F_turned⟩ := c.saysD.def_ 7 (d := d_turned) rfl
  have m_turned : mg "turned" = some (.ref (He.ga K "turned")) := He.glo_ok X G (c.saysD.fact 7 (f := .glo "turned") rfl)
  have b_turned : Binds K fd_turned ["letters", "row"] [] := FunD.bindsN F_turned fun _ _ _ _ _ _ us hl => match us, hl with | [_, _], _ => rfl
  obtain ⟨fd_worth, F_worth⟩ := c.saysD.def_ 8 (d := d_worth) rfl
  have m_worth : mg "worth" = some (.ref (He.ga K "worth")) := He.glo_ok X G (c.saysD.fact 8 (f := .glo "worth") rfl)
  have b_worth : Binds K fd_worth ["letters", "one", "other"] [] := FunD.bindsN F_worth fun _ _ _ _ _ _ us hl => match us, hl with | [_, _, _], _ => rfl
  obtain ⟨fd_weight, F_weight⟩ := c.saysD.def_ 9 (d := d_weight) rfl
  have m_weight : mg "weight" = some (.ref (He.ga K "weight")) := He.glo_ok X G (c.saysD.fact 9 (f := .glo "weight") rfl)
  have b_weight : Binds K fd_weight ["row"] [] := FunD.bindsN F_weight fun _ _ _ _ _ _ us hl => match us, hl with | [_], _ => rfl
  obtain ⟨fd_held, F_held⟩ := c.saysD.def_ 10 (d := d_held) rfl
  have m_held : mg "held" = some (.ref (He.ga K "held")) := He.glo_ok X G (c.saysD.fact 10 (f := .glo "held") rfl)
  have b_held : Binds K fd_held ["row"] [] := FunD.bindsN F_held fun _ _ _ _ _ _ us hl => match us, hl with | [_], _ => rfl
  obtain ⟨fd_apart, F_apart⟩ := c.saysD.def_ 11 (d := d_apart) rfl
  have m_apart : mg "apart" = some (.ref (He.ga K "apart")) := He.glo_ok X G (c.saysD.fact 11 (f := .glo "apart") rfl)
  have b_apart : Binds K fd_apart ["one", "other"] [] := FunD.bindsN F_apart fun _ _ _ _ _ _ us hl => match us, hl with | [_, _], _ => rfl
  obtain ⟨fd_nought_row, F_nought_row⟩ := c.saysD.def_ 12 (d := d_nought_row) rfl
  have m_nought_row : mg "nought_row" = some (.ref (He.ga K "nought_row")) := He.glo_ok X G (c.saysD.fact 12 (f := .glo "nought_row") rfl)
  have b_nought_row : Binds K fd_nought_row ["length"] [] := FunD.bindsN F_nought_row fun _ _ _ _ _ _ us hl => match us, hl with | [_], _ => rfl
  obtain ⟨fd_unit_row, F_unit_row⟩ := c.saysD.def_ 13 (d := d_unit_row) rfl
  have m_unit_row : mg "unit_row" = some (.ref (He.ga K "unit_row")) := He.glo_ok X G (c.saysD.fact 13 (f := .glo "unit_row") rfl)
  have b_unit_row : Binds K fd_unit_row ["length", "place"] [] := FunD.bindsN F_unit_row fun _ _ _ _ _ _ us hl => match us, hl with | [_, _], _ => rfl
  obtain ⟨fd_row_number, F_row_number⟩ := c.saysD.def_ 14 (d := d_row_number) rfl
  have m_row_number : mg "row_number" = some (.ref (He.ga K "row_number")) := He.glo_ok X G (c.saysD.fact 14 (f := .glo "row_number") rfl)
  have b_row_number : Binds K fd_row_number ["letters", "row"] [] := FunD.bindsN F_row_number fun _ _ _ _ _ _ us hl => match us, hl with | [_, _], _ => rfl
  obtain ⟨fd_row_of_number, F_row_of_number⟩ := c.saysD.def_ 15 (d := d_row_of_number) rfl
  have m_row_of_number : mg "row_of_number" = some (.ref (He.ga K "row_of_number")) := He.glo_ok X G (c.saysD.fact 15 (f := .glo "row_of_number") rfl)
  have b_row_of_number : Binds K fd_row_of_number ["letters", "length", "number"] [] := FunD.bindsN F_row_of_number fun _ _ _ _ _ _ us hl => match us, hl with | [_, _, _], _ => rfl
  obtain ⟨fd__law_deal, F__law_deal⟩ := c.saysD.def_ 16 (d := d__law_deal) rfl
  have m__law_deal : mg "_law_deal" = some (.ref (He.ga K "_law_deal")) := He.glo_ok X G (c.saysD.fact 16 (f := .glo "_law_deal") rfl)
  have b__law_deal : Binds K fd__law_deal ["script", "salt"] [] := FunD.bindsN F__law_deal fun _ _ _ _ _ _ us hl => match us, hl with | [_, _], _ => rfl
  obtain ⟨fd__law_any, F__law_any⟩ := c.saysD.def_ 17 (d := d__law_any) rfl
  have m__law_any : mg "_law_any" = some (.ref (He.ga K "_law_any")) := He.glo_ok X G (c.saysD.fact 17 (f := .glo "_law_any") rfl)
  have b__law_any : Binds K fd__law_any ["deal", "bound"] [] := FunD.bindsN F__law_any fun _ _ _ _ _ _ us hl => match us, hl with | [_, _], _ => rfl
  obtain ⟨fd__law_of, F__law_of⟩ := c.saysD.def_ 18 (d := d__law_of) rfl
  have m__law_of : mg "_law_of" = some (.ref (He.ga K "_law_of")) := He.glo_ok X G (c.saysD.fact 18 (f := .glo "_law_of") rfl)
  have b__law_of : Binds K fd__law_of ["deal", "some"] [] := FunD.bindsN F__law_of fun _ _ _ _ _ _ us hl => match us, hl with | [_, _], _ => rfl
  obtain ⟨fd__law_same, F__law_same⟩ := c.saysD.def_ 19 (d := d__law_same) rfl
  have m__law_same : mg "_law_same" = some (.ref (He.ga K "_law_same")) := He.glo_ok X G (c.saysD.fact 19 (f := .glo "_law_same") rfl)
  have b__law_same : Binds K fd__law_same ["told", "due"] [] := FunD.bindsN F__law_same fun _ _ _ _ _ _ us hl => match us, hl with | [_, _], _ => rfl
  obtain ⟨fd__law_row, F__law_row⟩ := c.saysD.def_ 20 (d := d__law_row) rfl
  have m__law_row : mg "_law_row" = some (.ref (He.ga K "_law_row")) := He.glo_ok X G (c.saysD.fact 20 (f := .glo "_law_row") rfl)
  have b__law_row : Binds K fd__law_row ["deal", "letters", "length"] [] := FunD.bindsN F__law_row fun _ _ _ _ _ _ us hl => match us, hl with | [_, _, _], _ => rfl
  obtain ⟨fd__law_near, F__law_near⟩ := c.saysD.def_ 21 (d := d__law_near) rfl
  have m__law_near : mg "_law_near" = some (.ref (He.ga K "_law_near")) := He.glo_ok X G (c.saysD.fact 21 (f := .glo "_law_near") rfl)
  have b__law_near : Binds K fd__law_near ["deal", "letters", "row"] [] := FunD.bindsN F__law_near fun _ _ _ _ _ _ us hl => match us, hl with | [_, _, _], _ => rfl
  obtain ⟨fd__law_great, F__law_great⟩ := c.saysD.def_ 22 (d := d__law_great) rfl
  have m__law_great : mg "_law_great" = some (.ref (He.ga K "_law_great")) := He.glo_ok X G (c.saysD.fact 22 (f := .glo "_law_great") rfl)
  have b__law_great : Binds K fd__law_great ["deal"] [] := FunD.bindsN F__law_great fun _ _ _ _ _ _ us hl => match us, hl with | [_], _ => rfl
  obtain ⟨fd__law_sums_hold, F__law_sums_hold⟩ := c.saysD.def_ 23 (d := d__law_sums_hold) rfl
  have m__law_sums_hold : mg "_law_sums_hold" = some (.ref (He.ga K "_law_sums_hold")) := He.glo_ok X G (c.saysD.fact 23 (f := .glo "_law_sums_hold") rfl)
  have b__law_sums_hold : Binds K fd__law_sums_hold ["letters", "one", "other", "number"] [] := FunD.bindsN F__law_sums_hold fun _ _ _ _ _ _ us hl => match us, hl with | [_, _, _, _], _ => rfl
  obtain ⟨fd__law_held_hold, F__law_held_hold⟩ := c.saysD.def_ 24 (d := d__law_held_hold) rfl
  have m__law_held_hold : mg "_law_held_hold" = some (.ref (He.ga K "_law_held_hold")) := He.glo_ok X G (c.saysD.fact 24 (f := .glo "_law_held_hold") rfl)
  have b__law_held_hold : Binds K fd__law_held_hold ["letters", "one", "other"] [] := FunD.bindsN F__law_held_hold fun _ _ _ _ _ _ us hl => match us, hl with | [_, _, _], _ => rfl
  obtain ⟨fd__law_numbers_hold, F__law_numbers_hold⟩ := c.saysD.def_ 25 (d := d__law_numbers_hold) rfl
  have m__law_numbers_hold : mg "_law_numbers_hold" = some (.ref (He.ga K "_law_numbers_hold")) := He.glo_ok X G (c.saysD.fact 25 (f := .glo "_law_numbers_hold") rfl)
  have b__law_numbers_hold : Binds K fd__law_numbers_hold ["deal", "letters", "one"] [] := FunD.bindsN F__law_numbers_hold fun _ _ _ _ _ _ us hl => match us, hl with | [_, _, _], _ => rfl
  obtain ⟨fd__law_told, F__law_told⟩ := c.saysD.def_ 26 (d := d__law_told) rfl
  have m__law_told : mg "_law_told" = some (.ref (He.ga K "_law_told")) := He.glo_ok X G (c.saysD.fact 26 (f := .glo "_law_told") rfl)
  have b__law_told : Binds K fd__law_told ["letters", "length", "value"] [] := FunD.bindsN F__law_told fun _ _ _ _ _ _ us hl => match us, hl with | [_, _, _], _ => rfl
  obtain ⟨fd__law_needs_hold, F__law_needs_hold⟩ := c.saysD.def_ 27 (d := d__law_needs_hold) rfl
  have m__law_needs_hold : mg "_law_needs_hold" = some (.ref (He.ga K "_law_needs_hold")) := He.glo_ok X G (c.saysD.fact 27 (f := .glo "_law_needs_hold") rfl)
  have b__law_needs_hold : Binds K fd__law_needs_hold ["deal", "letters", "one"] [] := FunD.bindsN F__law_needs_hold fun _ _ _ _ _ _ us hl => match us, hl with | [_, _, _], _ => rfl
  obtain ⟨fd_law, F_law⟩ := c.saysD.def_ 28 (d := d_law) rfl
  have m_law : mg "law" = some (.ref (He.ga K "law")) := He.glo_ok X G (c.saysD.fact 28 (f := .glo "law") rfl)
  have b_law : Binds K fd_law ["script"] [] := FunD.bindsN F_law fun _ _ _ _ _ _ us hl => match us, hl with | [_], _ => rfl
  have g_InvalidRow : mg "InvalidRow" = some (.ref (He.ga K "InvalidRow")) := He.glo_ok X G (c.saysD.fact 29 (f := .glo "InvalidRow") rfl)
  have Z : Zs mg := ⟨He.free_ok X G (c.saysD.fact 30 (f := .free "abs") rfl), He.free_ok X G (c.saysD.fact 31 (f := .free "bool") rfl), He.free_ok X G (c.saysD.fact 32 (f := .free "int") rfl), He.free_ok X G (c.saysD.fact 33 (f := .free "isinstance") rfl), He.free_ok X G (c.saysD.fact 34 (f := .free "len") rfl), He.free_ok X G (c.saysD.fact 35 (f := .free "list") rfl), He.free_ok X G (c.saysD.fact 36 (f := .free "min") rfl), He.free_ok X G (c.saysD.fact 37 (f := .free "range") rfl), He.free_ok X G (c.saysD.fact 38 (f := .free "reversed") rfl), He.free_ok X G (c.saysD.fact 39 (f := .free "str") rfl), He.free_ok X G (c.saysD.fact 40 (f := .free "sum") rfl), He.free_ok X G (c.saysD.fact 41 (f := .free "tuple") rfl), He.free_ok X G (c.saysD.fact 42 (f := .free "zip") rfl)⟩
  have e := hfa.symm.trans m_law
  cases e
  have b := FunD.bindsA (ps := ["script"]) F_law fun _ _ _ _ _ _ us hl => match us, hl with | [_], _ => rfl
  have X_InvalidRow := exRow_ok c
  refine ⟨fd_law, fun s v => b s [v] rfl, fun base _ _ => ?_⟩
  have G_is_integer : Fn PR w K mg base CX0 1 "is_integer" s_is_integer ["value"] (spIsInt K) := ⟨_, _, m_is_integer, F_is_integer, b_is_integer, ok_is_integer F_is_integer Z⟩
  have G_is_between : Fn PR w K mg base CX0 2 "is_between" s_is_between ["value", "low", "high"] (spBetween K) := ⟨_, _, m_is_between, F_is_between, b_is_between, ok_is_between F_is_between Z G_is_integer⟩
  have G_is_tuple_of : Fn PR w K mg base CX0 1 "is_tuple_of" s_is_tuple_of ["value", "size"] (spTupOf K) := ⟨_, _, m_is_tuple_of, F_is_tuple_of, b_is_tuple_of, ok_is_tuple_of F_is_tuple_of Z⟩
  have G_need_row : Fn PR w K mg base (L2.CX PR w) 3 "need_row" s_need_row ["letters", "length", "value"] (spNeed K (He.ga K "InvalidRow")) := ⟨_, _, m_need_row, F_need_row, b_need_row, ok_need_row F_need_row Z X_InvalidRow g_InvalidRow G_is_tuple_of G_is_between⟩
  have G_added : Fn PR w K mg base CX0 1 "added" s_added ["letters", "one", "other"] (spBin K fun q x y => (x + y) % q) := ⟨_, _, m_added, F_added, b_added, ok_added F_added Z⟩
  have G_less : Fn PR w K mg base CX0 1 "less" s_less ["letters", "one", "other"] (spBin K fun q x y => (x - y) % q) := ⟨_, _, m_less, F_less, b_less, ok_less F_less Z⟩
  have G_times : Fn PR w K mg base CX0 1 "times" s_times ["letters", "row", "number"] (spTimes K) := ⟨_, _, m_times, F_times, b_times, ok_times F_times Z⟩
  have G_turned : Fn PR w K mg base CX0 2 "turned" s_turned ["letters", "row"] (spTurned K) := ⟨_, _, m_turned, F_turned, b_turned, ok_turned F_turned Z G_times⟩
  have G_worth : Fn PR w K mg base CX0 1 "worth" s_worth ["letters", "one", "other"] (spWorth K) := ⟨_, _, m_worth, F_worth, b_worth, ok_worth F_worth Z⟩
  have G_weight : Fn PR w K mg base CX0 1 "weight" s_weight ["row"] (spWeight K) := ⟨_, _, m_weight, F_weight, b_weight, ok_weight F_weight Z⟩
  have G_held : Fn PR w K mg base CX0 1 "held" s_held ["row"] (spHeld K) := ⟨_, _, m_held, F_held, b_held, ok_held F_held Z⟩
  have G_apart : Fn PR w K mg base CX0 1 "apart" s_apart ["one", "other"] (spApart K) := ⟨_, _, m_apart, F_apart, b_apart, ok_apart F_apart Z⟩
  have G_nought_row : Fn PR w K mg base CX0 1 "nought_row" s_nought_row ["length"] (spNought K) := ⟨_, _, m_nought_row, F_nought_row, b_nought_row, ok_nought_row F_nought_row Z⟩
  have G_unit_row : Fn PR w K mg base CX0 2 "unit_row" s_unit_row ["length", "place"] (spUnit K) := ⟨_, _, m_unit_row, F_unit_row, b_unit_row, ok_unit_row F_unit_row Z G_nought_row⟩
  have G_row_number : Fn PR w K mg base CX0 1 "row_number" s_row_number ["letters", "row"] (spRowNum K) := ⟨_, _, m_row_number, F_row_number, b_row_number, ok_row_number F_row_number Z⟩
  have G_row_of_number : Fn PR w K mg base CX0 1 "row_of_number" s_row_of_number ["letters", "length", "number"] (spRowOf K) := ⟨_, _, m_row_of_number, F_row_of_number, b_row_of_number, ok_row_of_number F_row_of_number Z⟩
  have G__law_deal : Fn PR w K mg base CX0 1 "_law_deal" s__law_deal ["script", "salt"] (spDeal K) := ⟨_, _, m__law_deal, F__law_deal, b__law_deal, ok__law_deal F__law_deal Z⟩
  have G__law_any : Fn PR w K mg base CX0 1 "_law_any" s__law_any ["deal", "bound"] spAny := ⟨_, _, m__law_any, F__law_any, b__law_any, ok__law_any F__law_any Z⟩
  have G__law_of : Fn PR w K mg base CX0 2 "_law_of" s__law_of ["deal", "some"] (spOf K) := ⟨_, _, m__law_of, F__law_of, b__law_of, ok__law_of F__law_of Z G__law_any⟩
  have G__law_same : Fn PR w K mg base CX0 4 "_law_same" s__law_same ["told", "due"] (spSame K 2) := ⟨_, _, m__law_same, F__law_same, b__law_same, ok__law_same F__law_same b__law_same m__law_same Z 2⟩
  have G__law_row : Fn PR w K mg base CX0 2 "_law_row" s__law_row ["deal", "letters", "length"] (spLawRow K) := ⟨_, _, m__law_row, F__law_row, b__law_row, ok__law_row F__law_row Z G__law_any⟩
  have G__law_near : Fn PR w K mg base CX0 3 "_law_near" s__law_near ["deal", "letters", "row"] (spLawNear K) := ⟨_, _, m__law_near, F__law_near, b__law_near, ok__law_near F__law_near Z G__law_any G__law_of⟩
  have G__law_great : Fn PR w K mg base CX0 3 "_law_great" s__law_great ["deal"] spLawGreat := ⟨_, _, m__law_great, F__law_great, b__law_great, ok__law_great F__law_great Z c.digits G__law_any G__law_of⟩
  have G__law_sums_hold : Fn PR w K mg base CX0 5 "_law_sums_hold" s__law_sums_hold ["letters", "one", "other", "number"] (spSums K) := ⟨_, _, m__law_sums_hold, F__law_sums_hold, b__law_sums_hold, ok__law_sums_hold F__law_sums_hold Z G_added G_less G_times G_turned G_worth G__law_same⟩
  have G__law_held_hold : Fn PR w K mg base CX0 5 "_law_held_hold" s__law_held_hold ["letters", "one", "other"] (spHelds K) := ⟨_, _, m__law_held_hold, F__law_held_hold, b__law_held_hold, ok__law_held_hold F__law_held_hold Z G_held G_weight G_apart G__law_same⟩
  have G__law_numbers_hold : Fn PR w K mg base CX0 5 "_law_numbers_hold" s__law_numbers_hold ["deal", "letters", "one"] (spNums K) := ⟨_, _, m__law_numbers_hold, F__law_numbers_hold, b__law_numbers_hold, ok__law_numbers_hold F__law_numbers_hold Z G__law_any G_row_number G_row_of_number G_unit_row G__law_same⟩
  have G__law_told : Fn PR w K mg base CX0 4 "_law_told" s__law_told ["letters", "length", "value"] (spTold K) := ⟨_, _, m__law_told, F__law_told, b__law_told, ok__law_told F__law_told Z X_InvalidRow g_InvalidRow G_need_row⟩
  have G__law_needs_hold : Fn PR w K mg base CX0 5 "_law_needs_hold" s__law_needs_hold ["deal", "letters", "one"] (spNums K) := ⟨_, _, m__law_needs_hold, F__law_needs_hold, b__law_needs_hold, ok__law_needs_hold F__law_needs_hold Z c.digits G__law_any G__law_of G__law_told G__law_same⟩
  exact ok_law F_law Z G__law_deal G__law_any G__law_of G__law_row G__law_near G__law_great G__law_sums_hold G__law_held_hold G__law_numbers_hold G__law_needs_hold
end K02
open PySem PySem.W PySem.Calls PyProof.Rows
theorem PySem.Challenge.cw_ownmirrors_k02_rows_place_by_place_holds : PySem.Challenge.rw_ownmirrors_k02_rows_place_by_place.Holds := by
  w_on; o_law
  refine HandSHeadRun.head_any (r := OpenLaw.row PySem.Challenge.rw_ownmirrors_k02_rows_place_by_place) (q := view (OpenLaw.row PySem.Challenge.rw_ownmirrors_k02_rows_place_by_place).prog [34]) (H := K02.hk) (ob := K02.ob) (M := 4000) (loose := K02.looseL) (d := HandSHeadRun.topDef (OpenLaw.row PySem.Challenge.rw_ownmirrors_k02_rows_place_by_place).prog 34) (kwd := []) K02.ob_eq
    (by kernel_rfl) (fun s => by kernel_rfl) K02.run (by kernel_rfl) (by kernel_rfl) (by kernel_rfl) (by rfl) (by first | assumption | decide +kernel) (by decide +kernel) ⟨rfl, rfl, rfl, rfl, rfl, by decide +kernel⟩ ?hw ?hc
  case hw => w_witness2
  case hc =>
    refine L2.walk_ofE (l := PySem.Challenge.rw_ownmirrors_k02_rows_place_by_place) (n := 63) (k := 6) (x := "script") (CX := L2.CX0) rfl (by decide) (by kernel_rfl) ⟨rfl, by decide, by decide⟩ ?F (fun _ _ _ _ z => z)
    intro w mg fa h Y G hmg0
    obtain ⟨K, KX, c⟩ := Y
    have hmg : mg ("law" : PySem.Str) = some (.ref fa) := by
      have e : (HandSHeadRun.topDef (OpenLaw.row PySem.Challenge.rw_ownmirrors_k02_rows_place_by_place).prog 34).name = ("law" : PySem.Str) := by kernel_rfl
      rw [← e]
      exact hmg0
    obtain ⟨fd, hb, hF⟩ := K02.facts (w := w) KX G hmg c
    exact ⟨K, fd, K02.spLaw K, KX, hb, fun H a ns hl _ hS => ⟨a, ns, rfl, hS, fun _ => rfl⟩, hF⟩
