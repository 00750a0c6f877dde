import PyProof.Rows.All
import Wide.All
import OpenK.AllK
import Wide.FinOn
import HandS.Base
import HandS.Call
import HandS.List
import HandS.Comp
import HandS.Words
import HandS.TupMul
import HandS.TupAny
import PyProof.ListMulRoad
import PyProof.FactsAll.tuple_2
import HandS.SetFor
import HandS.More
import PyProof.EqAt
import OpenK.KMore
import HandS.ExcSuper
import HandS.Exc
import KE.KSuper
import KE.KExcSuper
import HandS.Defaults
import HandS.Walk
import HandS.Evl
import HandS.Zip
import HandS.Style
import HandS.IsInst
import HandS.Text
import HandS.TupLe
import HandS.TryOnly
import HandS.Conv
import HandS.RevTup
import HandS.HeadHook2
import HandS.HeadEnd
import HandS.Head0
import HandS.Head1
import HandS.Head2
import KE.KIntText
import KE.IntTextLaws
import PyProof.Conv_int
import PyProof.StrOps2
import HandS.Wide
import KE.KEqSeq
import HandS.ExcOwn
import HandS.WordsExc
import HandS.HeadHook1
import PySem.Challenge.RW_ownmirrors_k31_exchanges_one_behind_anot
set_option Elab.async false
set_option linter.all false
set_option maxRecDepth 100000
set_option maxHeartbeats 2000000
/-! Tuples tracked together with their very object, so that their methods can be called. -/
namespace Own
open PySem PySem.Spec PyProof.Rows L2

def Tp (K : PySem.W.Frag) (H : Hp) (p : Addr) (xs : List V) : Prop :=
  (∃ o : Obj, o.dict = none ∧ H p = some (.frz o (.tup xs))) ∨
    ∃ (o : Obj) (its : Array Value) (n : Nat), K.lookup p = some o ∧ o.cls = .type "tuple" ∧ o.dict = none ∧ o.data = .seq its n ∧ its.size ≤ sizeLine ∧ Vals xs its.toList
theorem Tp.sq {K : PySem.W.Frag} {H : Hp} {p : Addr} {xs : List V} (h : Tp K H p xs) : SqT K H p xs := by
  rcases h with ⟨o, _, h⟩ | ⟨o, its, n, h1, h2, _, h4, h5, h6⟩
  · exact .inl (.inr ⟨o, h⟩)
  · exact .inr ⟨o, its, n, h1, h2, h4, h5, h6⟩
theorem Tp.of {K : PySem.W.Frag} {H : Hp} {p : Addr} {o : Obj} {xs : List V} (hd : o.dict = none) (h : H p = some (.frz o (.tup xs))) : Tp K H p xs := .inl ⟨o, hd, h⟩
/-- a new tuple: what is wanted of it -/
def NewT (xs : List V) (H : Hp) (Q : VK) : Prop := ∀ (p : Addr) (o : Obj), H p = none → o.dict = none → Q (.ref p) (upd H p (.frz o (.tup xs)))
section
variable {X : Cx} {pins : List (Addr × Obj)} {σ : L2.St} {H : Hp} {s : Shared} {Q : VK}
theorem newT_end {xs : List V} {its : List Value} {tk : Nat} (I : Inv X pins σ H s) (r : Vals xs its) (z : xs.length ≤ sizeLine) (q : NewT xs H Q) :
    EP X pins σ Q (.ref s.heap.objs.size) { s with heap := s.heap.push { cls := .type "tuple", data := .seq its.toArray }, toks := tk } := by
  have hf : H s.heap.objs.size = none := I.hok.fresh (Nat.le_refl _)
  refine ⟨.ref s.heap.objs.size, _, I.laid (t' := tk) (o := .frz { cls := .type "tuple", data := .seq its.toArray } (.tup xs)) (fun b u e => Heap.get?_push_of_some _ e) (Nat.le_refl _) ⟨Heap.get?_push_size _ rfl, z, its, r, IsTup.new _ _⟩, rfl, q _ _ hf rfl⟩
end
def tTupF (t : TA) : TE := fun σ H Q => t σ H fun xs H1 => xs.length ≤ sizeLine ∧ NewT xs H1 Q
section
variable {X : Cx} {es : List Expr} {t : TA} {pos : Pos}
/-- (a, b, ..) -/
theorem pe_tupF {x1} (h : PA X es t) : PE X (.Tuple es x1 pos) (tTupF t) := by
  refine ⟨fun pins s σ H Q I hq => ?_⟩
  refine wpAny_Tuple_spliced (thn (h.run pos pins s σ H _ I hq) fun us s1 ⟨xs, H1, I1, r, z, q⟩ => ⟨by rw [← r.length]; exact z, ?_⟩)
  exact newT_end I1 r z q
/-- tuple(list), tuple(tuple) -/
def rTupF (K : PySem.W.Frag) : List V → Hp → VK → Prop := fun xs H Q => ∃ p ys, xs = [.ref p] ∧ ((SqL K H p ys ∧ NewT ys H Q) ∨ (SqT K H p ys ∧ Q (.ref p) H))
theorem call_tupF : CallR X (.type "tuple") (rTupF X.K) := by
  intro pins s σ H xs us Q I r h
  obtain ⟨p, ys, rfl, h⟩ := h
  obtain ⟨u, rfl, rx⟩ := vals1 r
  cases rx
  rcases h with ⟨hq, q⟩ | ⟨hq, q⟩
  · obtain ⟨its, r', pl, hz⟩ := I.list hq
    have hlen := r'.length
    refine call_tuple_list pl.isList (fun h' kp => ?_) (by simp only [List.size_toArray] <;> omega)
    have I1 : Inv X pins σ H { s with heap := h' } := I.kept (t' := s.toks) kp
    exact newT_end (tk := s.toks) I1 r' hz q
  · obtain ⟨its, r', pl, hz⟩ := I.tuple hq
    exact call_tuple_same pl ⟨.ref p, H, I, rfl, q⟩
/-- t + u -/
def rCatF (K : PySem.W.Frag) : R2 := fun x y H Q => ∃ a b xs ys, x = .ref a ∧ y = .ref b ∧ SqT K H a xs ∧ SqT K H b ys ∧ xs.length + ys.length ≤ sizeLine ∧
  (xs = [] → Q (.ref b) H) ∧ (xs ≠ [] → ys = [] → Q (.ref a) H) ∧ (xs ≠ [] → ys ≠ [] → NewT (xs ++ ys) H Q)
theorem op_catF : OpR X (binaryOp .Add) (rCatF X.K) := by
  intro pins s σ H x y v u Q I rx ry h
  obtain ⟨a, b, xs, ys, rfl, rfl, ha, hb, hz, q0, q1, q2⟩ := h
  cases rx
  cases ry
  obtain ⟨its, r1, p1, _⟩ := I.tuple ha
  obtain ⟨its2, r2, p2, _⟩ := I.tuple hb
  by_cases hx : xs = []
  · subst hx
    cases r1
    exact L2.cat_tup0 p1 p2 ⟨.ref b, H, I, rfl, q0 rfl⟩
  · refine HT.cat_tup p1 p2 (fun z => hx (r1.nil_iff.mp z)) (fun z => ⟨.ref a, H, I, rfl, q1 hx (r2.nil_iff.mp z)⟩) (fun z => ?_) (by rw [← r1.length, ← r2.length]; exact hz)
    exact newT_end (tk := s.toks) I (r1.append r2) (by rw [List.length_append]; exact hz) (q2 hx fun w => z (r2.nil_iff.mpr w))
/-- t[lo:hi] -/
def rSlF (K : PySem.W.Frag) : V → Option Int → Option Int → Hp → VK → Prop := fun x lo hi H Q => ∃ a xs, x = .ref a ∧ SqT K H a xs ∧
  (HT.sIx xs.length 0 lo = 0 ∧ HT.sIx xs.length xs.length hi = xs.length → Q (.ref a) H) ∧ (¬ (HT.sIx xs.length 0 lo = 0 ∧ HT.sIx xs.length xs.length hi = xs.length) → NewT (cutV xs lo hi) H Q)
theorem sl_tupF : SlR X (rSlF X.K) := by
  intro pins s σ H x v vl vu lo hi sl Q I rx hs pl pu h
  obtain ⟨a, xs, rfl, hx, q1, q2⟩ := h
  cases rx
  obtain ⟨its, r, ht, hz⟩ := I.tuple hx
  have hlen : its.toArray.size = xs.length := by rw [List.size_toArray]; exact r.length.symm
  refine ⟨"tuple", _, PyProof.Rows.slot_tuple_getitem.lookup, ht.typeIs, ?_⟩
  by_cases hw : HT.sIx xs.length 0 lo = 0 ∧ HT.sIx xs.length xs.length hi = xs.length
  · exact L2.getItem_tuple_whole ht hs pl pu (by rw [hlen]; exact hw) ⟨.ref a, H, I, rfl, q1 hw⟩
  · refine HT.getItem_tuple_cut ht hs pl pu (by rw [hlen]; exact hw) ?_ (by rw [hlen]; exact hz)
    rw [hlen]
    exact newT_end (tk := s.toks) I ((r.drop (HT.sIx xs.length 0 lo)).take (HT.sIx xs.length xs.length hi - HT.sIx xs.length 0 lo)) (Nat.le_trans (cutV_length xs lo hi) hz) (q2 hw)
end
end Own

namespace Own
open PySem PySem.Spec PyProof.Rows L2
/-- t * 1 (or an empty t): t itself; t * 0 .. : a new empty one -/
theorem tuple_mul_same (l : Addr) (items : Array Value) (n : Nat) (dd : Option Addr) (sl : Array (Option Value)) (x : Int) (u : Tok) (c0 : (decide (x < -(2 ^ 63)) || decide (x ≥ 2 ^ 63)) = false) (c1 : (items.isEmpty || x == 1) = true) :
    Meets (Builtin.«tuple.__mul__» ⟨[.ref l, .int x u], []⟩) (fun _ R s => s.heap.get? l = some { cls := .type "tuple", dict := dd, data := .seq items n, slots := sl } ∧ R (.ok (.ret (Value.ref l))) s) :=
  .of_wp fun prog w A R s h => by
    obtain ⟨hp, g, d, tk, os⟩ := s
    obtain ⟨hl, h⟩ := h
    have f1 := AutoSeq1.idx_int
    wp_walk using wpAny_loadPart' hl
    refine wpAny_ite_false (decide_eq_false (by rw [c0]; exact Bool.false_ne_true)) ?_
    wp_walk using wpAny_loadPart' hl
    exact ⟨_, rfl, h⟩
theorem tuple_mul_none (l : Addr) (items : Array Value) (n : Nat) (dd : Option Addr) (sl : Array (Option Value)) (x : Int) (u : Tok) (c0 : (decide (x < -(2 ^ 63)) || decide (x ≥ 2 ^ 63)) = false) (c1 : (items.isEmpty || x == 1) = false) (c2 : (decide (x ≤ 0) || items.isEmpty) = true) :
    Meets (Builtin.«tuple.__mul__» ⟨[.ref l, .int x u], []⟩) (fun _ R s => s.heap.get? l = some { cls := .type "tuple", dict := dd, data := .seq items n, slots := sl } ∧ R (.ok (.ret (Value.ref s.heap.objs.size))) { s with heap := s.heap.push { cls := .type "tuple", data := .seq #[] } }) :=
  .of_wp fun prog w A R s h => by
    obtain ⟨hp, g, d, tk, os⟩ := s
    obtain ⟨hl, h⟩ := h
    have f1 := AutoSeq1.idx_int
    wp_walk using wpAny_loadPart' hl
    refine wpAny_ite_false (decide_eq_false (by rw [c0]; exact Bool.false_ne_true)) ?_
    wp_walk using wpAny_loadPart' hl
    exact ⟨_, rfl, h⟩
/-- t * k, k from below 0 to 1000 -/
def rRepF (K : PySem.W.Frag) : R2 := fun x y H Q => ∃ l k xs, x = .ref l ∧ y = .int k ∧ SqT K H l xs ∧ -1000 ≤ k ∧ k ≤ 1000 ∧ xs.length ≤ 1000 ∧
  ((xs = [] ∨ k = 1) → Q (.ref l) H) ∧ (xs ≠ [] → k ≠ 1 → NewT (List.replicate k.toNat xs).flatten H Q)
section
variable {X : Cx}
theorem op_repF : OpR X (binaryOp .Mult) (rRepF X.K) := by
  intro pins s σ H x y v u Q I rx ry h
  obtain ⟨l, k, xs, rfl, rfl, hT, h1, h2, hz, q0, q1⟩ := h
  cases rx
  obtain ⟨t, rfl⟩ := ry
  obtain ⟨its, r, ⟨⟨cls, dd, data, sl⟩, ho, hc, n, hd⟩, hs⟩ := I.tuple hT
  simp only at hc hd
  subst hc hd
  have hle : its.length = xs.length := r.length.symm
  have hsz0 : its.toArray.size = xs.length := by rw [List.size_toArray, hle]
  have c0 : (decide (k < -(2 ^ 63)) || decide (k ≥ 2 ^ 63)) = false := by
    rw [decide_eq_false (by omega), decide_eq_false (by omega)] <;> rfl
  have mul : ∀ Q' : Value → Shared → Prop, wpAny (model X.prog X.w) X.A (call (.builtin "tuple.__mul__") [.ref l, .int k t]) Q' X.xe s → wpAny (model X.prog X.w) X.A (binaryOp .Mult (.ref l) (.int k t)) Q' X.xe s := fun Q' hc =>
    wpAny_binaryOp_repeat_ref (T := "tuple") (U := "int") (by decide) ⟨_, ho, rfl⟩ (fun s' => typeIs_int s' k t) noFill_tuple_mul F.fills_int_mul F.slot_int_rmul repeat_tuple F.slot_int_index.lookup
      (call_meets F.slot_int_rmul (typeIs_int s k t) F.entry_int_rmul (F.args_int_rmul_2 _ _) (int_rmul_tuple k t l its.toArray n dd sl) ⟨ho, rfl, ⟨_, ho, rfl⟩, hc⟩)
  refine mul _ ?_
  by_cases hs1 : xs = [] ∨ k = 1
  · have c1 : (its.toArray.isEmpty || k == 1) = true := by
      rcases hs1 with e | e
      · rw [show its = [] from List.eq_nil_of_length_eq_zero (by rw [hle, e] <;> rfl)]
        rfl
      · rw [e, beq_self_eq_true, Bool.or_true]
    exact call_meets F.slot_tuple_mul ⟨_, ho, rfl⟩ F.entry_tuple_mul (F.args_tuple_mul_2 _ _) (tuple_mul_same l its.toArray n dd sl k t c0 c1) ⟨ho, .ref l, H, I, rfl, q0 hs1⟩
  · have hne : xs ≠ [] := fun e => hs1 (.inl e)
    have hk1 : k ≠ 1 := fun e => hs1 (.inr e)
    have hn : its ≠ [] := fun e => hne (List.eq_nil_of_length_eq_zero (by rw [← hle, e] <;> rfl))
    have hi : its.toArray.isEmpty = false := by
      cases its with
      | nil => exact absurd rfl hn
      | cons a b => rfl
    have c1 : (its.toArray.isEmpty || k == 1) = false := by
      rw [hi, Bool.false_or]
      exact beq_eq_false_iff_ne.mpr hk1
    by_cases hk0 : k ≤ 0
    · have c2 : (decide (k ≤ 0) || its.toArray.isEmpty) = true := by rw [decide_eq_true hk0, Bool.true_or]
      refine call_meets F.slot_tuple_mul ⟨_, ho, rfl⟩ F.entry_tuple_mul (F.args_tuple_mul_2 _ _) (tuple_mul_none l its.toArray n dd sl k t c0 c1 c2) ⟨ho, ?_⟩
      have z : k.toNat = 0 := by omega
      have q := q1 hne hk1
      rw [z] at q
      exact newT_end (tk := s.toks) (xs := []) (its := []) I .nil (Nat.zero_le _) q
    · have hm : ((its.toArray.size : Nat) : Int) * k ≤ 1000000 := by
        rw [hsz0]
        have a1 : ((xs.length : Nat) : Int) * k ≤ 1000 * k := Int.mul_le_mul_of_nonneg_right (by omega) (by omega)
        omega
      have flen : k.toNat * xs.length ≤ sizeLine := by
        rw [sizeLine_eq]
        have a1 : k.toNat * xs.length ≤ 1000 * 1000 := Nat.mul_le_mul (by omega) hz
        omega
      have c2 : (decide (k ≤ 0) || its.toArray.isEmpty) = false := by
        rw [hi, Bool.or_false]
        exact decide_eq_false hk0
      have c4 : Builtin.Tuple.tupleTooMany (((its.toArray.size : Nat) : Int) * k) = false := by
        unfold Builtin.Tuple.tupleTooMany
        rw [sizeLine_eq]
        exact decide_eq_false (by omega)
      refine call_meets F.slot_tuple_mul ⟨_, ho, rfl⟩ F.entry_tuple_mul (F.args_tuple_mul_2 _ _) (tuple_mulW l its.toArray n dd sl k t c0 c1 c2 (by omega) c4 (by rw [size_rep, List.size_toArray, PyProof.Rows.lm_len_rep_flat, hle]; exact flen)) ⟨ho, ?_⟩
      rw [size_rep]
      exact newT_end (tk := s.toks) I (r.rep k.toNat) (by rw [PyProof.Rows.lm_len_rep_flat]; exact flen) (q1 hne hk1)
end
end Own

namespace Own
open PySem PySem.Spec PyProof.Rows L2
/-! ### t.count(k) -/
theorem Tp.at {K : PySem.W.Frag} {X : Cx} {pins : List (Addr × Obj)} {σ : L2.St} {H : Hp} {s : Shared} {p : Addr} {xs : List V} (I : Inv X pins σ H s) (h : Tp X.K H p xs) :
    ∃ (its : List Value) (o : Obj) (n : Nat), Vals xs its ∧ s.heap.get? p = some o ∧ o.cls = .type "tuple" ∧ o.dict = none ∧ o.data = .seq its.toArray n := by
  rcases h with ⟨o, hd, h⟩ | ⟨o, its, n, h1, h2, h3, h4, h5, h6⟩
  · obtain ⟨e, _, its, r, ob, e2, c, n, d⟩ := I.hok p _ h
    rw [e] at e2
    cases e2
    exact ⟨its, o, n, r, e, c, hd, d⟩
  · exact ⟨its.toList, o, n, h6, I.kIn p o h1, h2, h3, h4⟩
def rTCnt (K : PySem.W.Frag) : V → List V → Hp → VK → Prop := fun x xs H Q => ∃ (p : Addr) (ns : List Int) (k : Int), x = .ref p ∧ xs = [.int k] ∧ Tp K H p (ns.map V.int) ∧ Q (.int (ns.count k : Nat)) H
/-- t.m(e, ..) of a tuple that is tracked with its object -/
def tTM (K : PySem.W.Frag) (r : V → List V → Hp → VK → Prop) (to : TE) (t : TA) : TE := fun σ H Q => to σ H fun x H1 => (∃ p xs, x = .ref p ∧ Tp K H1 p xs) ∧ t σ H1 fun xs H2 => r x xs H2 Q
section
variable {X : Cx} {o e : Expr} {es : List Expr} {to : TE} {t : TA} {name : Str} {apos cpos : Pos} {id : String} {r : V → List V → Hp → VK → Prop}
theorem mt_tcount : MtR X "tuple.count" (rTCnt X.K) := by
  intro pins s σ H x xs v us Q I rx rxs h
  obtain ⟨p, ns, k, rfl, rfl, hs, q⟩ := h
  cases rx
  obtain ⟨u, rfl, ru⟩ := rxs.one
  obtain ⟨t, rfl⟩ := ru
  obtain ⟨its, ⟨cls, dd, data, sl⟩, n, rv, ho, hc, hdn, hd⟩ := Tp.at (K := X.K) I hs
  simp only at hc hd
  subst hc hd
  have hi := ints_of_vals rv
  refine call_meets PySem.F.slot_tuple_count ⟨_, ho, rfl⟩ PySem.F.entry_tuple_count (PySem.F.args_tuple_count_2 _ _)
    (SeqAt.tuple_countAt p its.toArray n dd sl (.int k t) (eqk k)) ⟨ho, fun y hy => (eqk_gives hi y (by simpa using hy)).at _ _, ?_⟩
  have ec : its.toArray.toList.countP (eqk k) = ns.count k := eqk_count hi
  refine ⟨.int (ns.count k : Nat), H, I.tok _, ⟨s.toks, ?_⟩, q⟩
  show Value.int ((its.toArray.toList.countP (eqk k) : Nat) : Int) s.toks = Value.int ((ns.count k : Nat) : Int) s.toks
  rw [ec]
theorem pe_tm (pa : PlainAttrs "tuple") (slot : Slot "tuple" name id) (hty : typeOf (.builtin id) = pure (.type "method_descriptor")) (hm : MtR X id r) (ho : PE X o to) (ha : PA X (e :: es) t)
    (hbase : attributeBase o name X.env (eval o X.env) = eval o X.env := by rfl)
    (hfew : ((backTo cpos (starEach (e :: es) X.env)).all (fun x => !x.1) && (backToKw cpos (keywordEach [] X.env)).all (fun x => x.1.isSome)
      && decide ((e :: es).length + ([] : List Keyword).length + (if ([] : List Keyword).isEmpty then 0 else 1) < 30)) = true := by rfl)
    (hline : (apos.endLine == cpos.line) = true := by rfl) (hs : starEach (e :: es) X.env = (false, eval e X.env) :: starEach es X.env := by rfl) (hplain : (backTo cpos (starEach es X.env)).any (·.1) = false := by rfl) :
    PE X (.Call (.Attribute o name apos) (e :: es) [] cpos) (tTM X.K r to t) := by
  refine ⟨fun pins s σ H Q I h => ?_⟩
  refine wpAny_Call_method_late hbase hfew hline rfl (thn (ho.run pins s σ H _ I h) fun v s1 ⟨x, H1, I1, r1, ⟨p, xs, ex, ty⟩, q1⟩ => ?_)
  subst ex
  obtain rfl : v = Value.ref p := r1
  obtain ⟨its, ob, n, _, g1, g2, g3, _⟩ := Tp.at (K := X.K) I1 ty
  refine ⟨"tuple", id, pa, slot, hty, ⟨ob, g1, g2⟩, fun a ea => ?_, ?_⟩
  · cases ea
    exact ⟨ob, g1, g3⟩
  have hA := ha.run cpos pins s1 σ H1 _ I1 q1
  rw [hs] at hA ⊢
  refine Calls.callWith_builtin (by show (false || (backTo cpos (starEach es X.env)).any (·.1)) = false; rw [hplain] <;> rfl) (Calls.evalArgs_plain ?_)
  exact thn hA fun us s2 ⟨vs, H2, I2, r2, q2⟩ => hm pins s2 σ H2 (.ref p) vs _ us Q I2 (show RelV (V.ref p) (Value.ref p) from rfl) r2 q2
/-- f(k = v, ..): every argument by its name -/
def tCall0K (sp : Sp) (gV : List V → List V → List V) (E : XK) (tk : TA) : TE := fun σ H Q => tk σ H fun zs H2 => sp (gV [] zs) H2 Q E
theorem pe_call0K {CX : CXT} {k : Nat} {f : Addr} {fd : FuncData} {ps ks : List Str} {sp : Sp} {E : XK} {x : Str} {p pos : Pos} {kws : List Keyword} {tk : TA} {g : List Value → List Value → List Value} {gV : List V → List V → List V}
    (F : FnOk X.prog X.w X.K X.mg X.base CX k f fd ps sp) (hr : Room k X.A) (hg : Gl X x) (hm : X.mg x = some (.ref f)) (hk : PySem.W.keepIn X.K (.ref f) = true) (hb : KBinds X.K fd ps ks g gV) (hx : Passes CX X E)
    (hkw : PK X kws tk) (hall : (backToKw pos (keywordEach kws X.env)).all (·.1.isSome) = true := by rfl) (hks : (backToKw pos (keywordEach kws X.env)).filterMap (·.1) = ks := by rfl)
    (hdb : (x == ("__debug__" : Str)) = false := by decide) (hpl : ((backTo pos (starEach [] X.env)).any (·.1) || (backToKw pos (keywordEach kws X.env)).any (·.1.isNone)) = false := by rfl) : PE X (.Call (.Name x p) [] kws pos) (tCall0K sp gV E tk) := by
  refine ⟨fun pins s σ H Q I h => ?_⟩
  refine wpAny_Call_Name_kw (ld_glob I hg hm ?_ hdb)
  refine PySem.W.callWith_KW0 (h₀ := X.base) I.ok.mod.kin hk hall (thn (hkw.run pos pins s σ H _ I h) fun ws s2 ⟨zs, H2, I2, rz, q2⟩ => ⟨I2.kIn, ?_⟩) hpl
  rw [hks]
  exact run_fnk (us := []) F hr hb hx I2 .nil rz q2
end
end Own

set_option maxHeartbeats 4000000
/-! Own errors two classes below Exception, whose __init__ says super().__init__(text) and then stores its arguments. -/
namespace PySem
namespace OwX
open PySem.W PySem.Calls PyProof.Rows PySem.HandSPX
abbrev exT : List Value := [.type "Exception", .type "BaseException", .type "object"]
section
open Builtin Builtin.ObjectAttr
variable {prog : Program} {w : World} {A : Around} {E : Value → Shared → Prop} {R : Result → Shared → Prop} {hp : Heap} {g : Array GenState} {d : Drawn} {t : Nat} {os : OsState}
theorem tail2_has {C M : Addr} (X : String) (hX : exT.contains (.type X) = true) : (Value.ref C :: .ref M :: exT).contains (.type X) = true := by
  rw [List.contains_cons, List.contains_cons, hX, Bool.or_true, Bool.or_true]
theorem mro2_has {K : W.Frag} {C M : Addr} {cd : ClassData} (hcd : W.clsIn K C = some cd) (hm : cd.mro = .ref C :: .ref M :: exT) {b : Value} (hb : (Value.ref C :: .ref M :: exT).contains b = true) : W.mroIn K C b = some true := by
  unfold W.mroIn
  rw [hcd, Option.bind_some, hm, if_neg (show ¬ (List.isEmpty (Value.ref C :: .ref M :: exT) = true) from Bool.false_ne_true), hb]
/-- up to the object's own dict -/
theorem osa_two {K : W.Frag} {name : Str} {tk : Tok} {v : Value} {x C M : Addr} {ox : Obj} {od : Option Obj} {cd : ClassData}
    (X : K.In hp) (I : W.InstAt hp x ox C od) (hcd : W.clsIn K C = some cd) (hm : cd.mro = .ref C :: .ref M :: exT) (ha : W.findIn K (.ref C) name = some none)
    (hq : wpAny (model prog w) A.in1 (storeInOwnDict (.ref x) (.ref C) (.str name tk) name v false)
      (fun fin s' => match fin with | .done f => R (.ok f) s' | .again c' => c'.quiet = true ∧ codeAny (model prog w) A c' R s') (fun e s' => R (.error e) s') ⟨hp, g, d, t, os⟩) :
    codeAny (model prog w) A (.call (.builtin "object.__setattr__") ⟨[.ref x, .str name tk, v], []⟩) R ⟨hp, g, d, t, os⟩ := by
  have SF := F.store_object
  have sub : W.Looks (model prog w) hp (isInstance (.ref x) (.type "object")) true := I.type.andThen (W.looks_mroIn X (mro2_has hcd hm (tail2_has "object" (by decide +kernel))))
  refine codeAny_call_builtin SF.slot.plain SF.entry (@W.check_slot (model prog w) _ _ ⟨hp, g, d, t, os⟩ "object.__setattr__" "object" "__setattr__" (.ref x) [.str name tk, v] [] _ SF.kind SF.split sub (SF.args (.ref x) (.str name tk) v) ?_)
  have hmr : W.Looks (model prog w) hp (mroOf (.ref C)) cd.mro := (W.looks_clsIn X hcd).andThen .now
  have L3 : W.Looks (model prog w) hp (storeTaker? none) none := .now
  have hpass : refuseLoop (.ref x) "__setattr__" cd.mro = pure () := by
    rw [hm, refuseLoop_ref, refuseLoop_ref]
    exact F.store_Exception.passes _
  rw [W.osa_eq, refuse_eq]
  refine wpAny_bind (wpAny_bind (I.type.at (wpAny_bind (hmr.at ?_))))
  rw [hpass]
  refine wpAny_pure (wpAny_bind (I.type.at (wpAny_bind ((W.looks_findIn X ha).at (wpAny_bind (L3.at ?_))))))
  exact hq
theorem osa_two_new {K : W.Frag} {name : Str} {tk : Tok} {v : Value} {x C M : Addr} {fv : Array Value} {cd : ClassData}
    (X : K.In hp) (hx : hp.get? x = some { cls := .ref C, data := .fields fv }) (hcd : W.clsIn K C = some cd) (hm : cd.mro = .ref C :: .ref M :: exT) (hh : cd.hasDict = true) (ha : W.findIn K (.ref C) name = some none)
    (hq : ∀ h' tk' dx, (∀ b o, b ≠ x → hp.get? b = some o → h'.get? b = some o) → hp.objs.size ≤ dx → dx ≠ x → h'.get? x = some { cls := .ref C, dict := some dx, data := .fields fv } →
      h'.Ns1 dx (fun y => if y = name then some v else none) → R (.ok (.ret .none)) ⟨h', g, d, tk', os⟩) :
    codeAny (model prog w) A (.call (.builtin "object.__setattr__") ⟨[.ref x, .str name tk, v], []⟩) R ⟨hp, g, d, t, os⟩ := by
  have I : W.InstAt hp x { cls := .ref C, data := .fields fv } C none := ⟨hx, rfl, rfl, trivial⟩
  have hxs : x ≠ hp.objs.size := Nat.ne_of_lt (Heap.lt_size hx)
  refine osa_two X I hcd hm ha ?_
  have hcls : W.Looks (model prog w) hp (classData C) cd := W.looks_clsIn X hcd
  obtain ⟨nm, bs, mro, ns, qn, hd, sn, sb, ab, col, del⟩ := cd
  dsimp only at hh
  subst hh
  unfold storeInOwnDict ownDictForStores
  repeat (first | with_reducible refine HandSPX.store_in_new ?_ ?_ | with_reducible refine wpAny_loadPart_at hx ?_ | with_reducible refine hcls.at ?_ | wp_step)
  · exact ⟨_, #[], _, (Heap.get?_update_ne _ _ _ _ hxs.symm).trans (Heap.get?_push_at rfl rfl), rfl, fun e he => absurd he (by simp), fun _ => rfl⟩
  · intro h' tk' hn' hs
    have hx1 : (hp.push { cls := .type "dict", data := .dict #[] }).get? x = some { cls := .ref C, data := .fields fv } := Heap.get?_push_of_some _ hx
    refine hq h' tk' hp.objs.size (fun b o hb ho => ?_) (Nat.le_refl _) hxs.symm ?_ hn'
    · exact (hs.2 b (Nat.ne_of_lt (Heap.lt_size ho))).trans ((Heap.get?_update_ne _ _ _ _ hb).trans (Heap.get?_push_of_some _ ho))
    · exact (hs.2 x hxs).trans (Heap.get?_update_self _ hx1 rfl)
end
end OwX
end PySem

namespace PySem
namespace OwXat
open PySem.W PySem.Calls PyProof.Rows PySem.HandSPX PySem.OwX
/-! ### the text of __init__, for one field -/
def iA (p1 p2 : Pos) : Arguments := { posonlyargs := [], args := [{ arg := "self", annotation := none, pos := p1 }, { arg := "at", annotation := none, pos := p2 }], vararg := none, kwonlyargs := [], kw_defaults := [], kwarg := none, defaults := [] }
def iS : Scope := { kind := .function, names := [(PySem.Str.ofString "self", .local), (PySem.Str.ofString "at", .local), (PySem.Str.ofString "__class__", .free), (PySem.Str.ofString "super", .globalImplicit)], isGenerator := false, isCoroutine := false, more := [] }
def sSup (msg : Str) (p0 p1 p2 p3 p4 p5 : Pos) : Stmt := .Expr (.Call (.Attribute (.Call (.Name "super" p0) [] [] p1) "__init__" p2) [.Constant (.str msg) 0 p3] [] p4) p5
def sStore (q1 q2 q3 q4 : Pos) : Stmt := .Assign [.Attribute (.Name "self" q1) "at" q2] (.Name "at" q3) q4
/-- what the written part says of such a class at C, over the one at M, and of its __init__ at fI -/
structure OexT (P : Program) (K : Frag) (C M fI : Addr) : Prop where
  cls : ∃ nm q N bs sn sub ab col dd k0 k1 k2 k3 k5, K.lookup C = some (excClassObj nm q C N bs (.ref M :: exT) true sn sub ab col dd k0 k1 k2 k3 k5 "Exception.__new__")
  sa : findIn K (.ref C) "__setattr__" = some (some (.builtin "object.__setattr__"))
  ga : findIn K (.ref C) "__getattribute__" = some (some (.builtin "BaseException.__getattribute__"))
  gg : findIn K (.ref C) "__getattr__" = some none
  noN : findIn K (.ref C) "at" = some none
  iC : findIn K (.ref C) "__init__" = some (some (.ref fI))
  tC : typeIn K (.ref fI) = some (.type "function")
  kC : keepIn K (.ref C) = true
  exC : subIn K (.ref C) (.type "BaseException") = some true
  exE : subIn K (.ref C) (.type "Exception") = some true
  tyC : typeIn K (.ref C) = some (.type "type")
  hdC : hasDictIn K C = true
  te : exmOne K (.ref C) (.ref C) = some true
  sI : alongIn K "__init__" (.ref M :: exT) = some (some (.builtin "Exception.__init__"))
  op : nsIn K cStatics "thirdparty.any" = some none
  sup : nsIn K mainGlobals "super" = some none
  top : (P.main.scope.names.lookup ("super" : Str)).isSome = false
  fn : ∃ (qual : Str) (oc : Value) (od : Option Addr) (doc pm : Value) (an : Option Addr) (cda cc : Addr) (ct : Value) (osl : Array (Option Value)) (msg : Str) (p1 p2 r0 r1 r2 r3 r4 r5 q1 q2 q3 q4 : Pos) (ccl cl : Value) (cdd cld : Option Addr) (ccs csl : Array (Option Value)) (vs : Array Value) (tf : Tok),
    K.lookup fI = some ⟨oc, od, .func (ksFn "__init__" qual (iA p1 p2) [sSup msg r0 r1 r2 r3 r4 r5, sStore q1 q2 q3 q4] iS .none .none doc pm an (.ref cda) ct cc), osl⟩ ∧ codeIn K (.ref cda) qual = true ∧
      K.lookup cda = some ⟨ccl, cdd, .fields vs, ccs⟩ ∧ vs[2]? = some (.str P.main.file tf) ∧ K.lookup cc = some ⟨cl, cld, .cell (some (.ref C)), csl⟩ ∧
      (∀ env : Env, ∃ pl : Sem Bool, eval (.Call (.Attribute (.Call (.Name "super" r0) [] [] r1) "__init__" r2) [.Constant (.str msg) 0 r3] [] r4) env = (do
        let ov ← attributeBase (.Call (.Name "super" r0) [] [] r1) "__init__" env (eval (.Call (.Name "super" r0) [] [] r1) env)
        standAt r2.atName
        let (f, first) ← holding [ov] (getMethod ov "__init__" pl)
        callWith r4 f first (backTo r4 (starEach [.Constant (.str msg) 0 r3] env)) [])) ∧
      (∀ env : Env, swapsWith (.Call (.Attribute (.Call (.Name "super" r0) [] [] r1) "__init__" r2) [.Constant (.str msg) 0 r3] [] r4) none r5.line env = pure false) ∧
      (∀ env : Env, swapsWith (.Name "at" q3) (some (.Attribute (.Name "self" q1) "at" q2)) q4.line env = pure false)
/-- what __init__ leaves of a fresh exception at x -/
structure InitEnd (h h' : Heap) (x C dx t1 : Addr) (v : Value) : Prop where
  keep : ∀ b o, b ≠ x → h.get? b = some o → h'.get? b = some o
  obj : h'.get? x = some { cls := .ref C, dict := some dx, data := .fields #[.ref t1, .none, .none, .none, .bool false, .none] }
  dbig : h.objs.size ≤ dx
  dne : dx ≠ x
  ns : h'.Ns1 dx (fun y => if y = "at" then some v else none)
section
variable {prog : Program} {w : World} {A : Around} {E : Value → Shared → Prop} {R : Result → Shared → Prop} {s : Shared} {K : Frag} {mg mb : Str → Option Value} {C M fI : Addr}
theorem inv_init (T : OexT prog K C M fI) {x t0 : Addr} {v : Value} (X : K.In s.heap) (hlim : s.heap.NoLimit) (hg : s.heap.Ns mainGlobals mg) (hb : s.heap.Ns builtinsNs mb) (hbb : ∀ y : Str, y ≠ "__name__" → mb y = bootBuiltins y)
    (hx : s.heap.get? x = some (excO C t0)) (hnx : K.lookup x = none) (hroom : A.depth < recursionLimit)
    (hq : ∀ h' tk dx t1, InitEnd s.heap h' x C dx t1 v → R (.ok (.ret .none)) { s with heap := h', toks := tk }) :
    codeAny (model prog w) A (.call (.ref fI) ⟨[.ref x, v], []⟩) R s := by
  obtain ⟨qual, oc, od, doc, pm, an, cda, cc, ct, osl, msg, p1, p2, r0, r1, r2, r3, r4, r5, q1, q2, q3, q4, ccl, cl, cdd, cld, ccs, csl, vs, tf, ho, hcd, hcda, hvs, hcc, hev, hsw, hsw2⟩ := T.fn
  obtain ⟨nm, q, N, bs, sn, sub, ab, col, dd, k0, k1, k2, k3, k5, hC⟩ := T.cls
  have hcl : clsIn K C = some { name := nm, bases := bs, mro := .ref C :: .ref M :: exT, ns := N, qualname := q, hasDict := true, slotNames := sn, subclasses := sub, abstract := ab, collection := col, hasDel := false } := by unfold clsIn; rw [hC] <;> rfl
  refine ks_codeAny_call_defAt (fd := ksFn "__init__" qual (iA p1 p2) [sSup msg r0 r1 r2 r3 r4 r5, sStore q1 q2 q3 q4] iS .none .none doc pm an (.ref cda) ct cc) (body := [sSup msg r0 r1 r2 r3 r4 r5, sStore q1 q2 q3 q4]) (binds := [("self", .ref x), ("at", v)])
    hroom (X _ _ ho) rfl hlim (codeRec_of X hcd) rfl (BindsTo.of_eq (by first | rfl | with_unfolding_all rfl)) (show ∀ y ∈ iS.names, y.2 ≠ .cell by decide +kernel) (by simp only [List.mem_cons, List.not_mem_nil, or_false]; rintro y (rfl | rfl) <;> rfl) (fun h1 hns hk => ?_) rfl rfl rfl
  have X1 : K.In h1 := X.keeps hk
  have hx1 := hk _ _ hx
  have hD1 : h1.get? C = some (excClassObj nm q C N bs (.ref M :: exT) true sn sub ab col dd k0 k1 k2 k3 k5 "Exception.__new__") := X1 _ _ hC
  have hxC : x ≠ C := fun e => by
    rw [e, hD1] at hx1
    cases hx1
  have hmC : Looks (model prog w) h1 (isSubtype (.ref C) (.ref C)) true := looks_mroIn X1 (OwX.mro2_has hcl rfl (by simp))
  have hmg : mg "super" = none := mg_none_of X hg T.sup
  generalize hen : callEnv (ksFn "__init__" qual (iA p1 p2) [sSup msg r0 r1 r2 r3 r4 r5, sStore q1 q2 q3 q4] iS .none .none doc pm an (.ref cda) ct cc) s.heap.objs.size fI = en
  have en1 : en.scope = iS := by rw [← hen] <;> rfl
  have en2 : en.func = some fI := by rw [← hen] <;> rfl
  have en3 : en.code = .ref cda := by rw [← hen] <;> rfl
  have en4 : en.globals = mainGlobals := by rw [← hen] <;> rfl
  have en5 : en.builtins = builtinsNs := by rw [← hen] <;> rfl
  have en6 : en.cells = [(PySem.Str.ofString "__class__", cc)] := by rw [← hen] <;> rfl
  have en7 : en.locals = s.heap.objs.size := by rw [← hen] <;> rfl
  have kd : ∀ y : Str, en.kindOf y = iS.names.lookup y := fun y => by
    show en.scope.names.lookup y = _
    rw [en1]
  obtain ⟨pl, hev1⟩ := hev en
  -- super()
  refine ks_wpAt_execs_cons (ks_wpAt_Expr_any (ks_wpAt_MethodCall (pl := pl) (ks_wpAt_super_base (hks := by rw [kd]; decide +kernel) (hkc := by rw [kd]; decide +kernel) (hat := by decide) (hfu := en2) (hf := X1 _ _ ho) (hfd := rfl) (hp := rfl) (hco := en3) (hcc := X1 _ _ hcda) (hoc := rfl) (hvs := hvs) (hfile := by simp) (htop := T.top) ?_) hev1) (by unfold interactive; rw [en1]; rfl) (hsw en))
  have kf : en.scope.kind = .function := by rw [en1] <;> rfl
  refine ks_loadName_global kf (by rw [kd]; decide +kernel) (loadGlobal_builtin (by rw [en4]; exact hg.keeps hk) hmg (by rw [en5]; exact hb.keeps hk) ((hbb _ (by decide +kernel)).trans (by decide +kernel)) ⟨rfl, ?_⟩)
  refine wpAny_loadName_free kf (by rw [kd]; decide +kernel) (by rw [en6]; rfl) ⟨_, X1 _ _ hcc, rfl⟩ ?_
  refine wpAny_loadName_local (v := .ref x) kf (show en.kindOf "self" = some .local by rw [kd]; decide +kernel) (by rw [en7]; exact hns) (by rfl) ?_
  refine ks_wpAny_isType_cls hD1 rfl ⟨rfl, ?_⟩
  refine ks_wpAny_call_super hD1 rfl hx1 rfl (fun c e => by cases e) hmC (fun h2 hso k2 => ?_)
  have X2 : K.In h2 := X1.keeps k2
  have hx2 := k2 _ _ hx1
  have I2 : InstAt h2 x (excO C t0) C none := ⟨hx2, rfl, rfl, trivial⟩
  refine ESX.getMethod_super hso (looks_opaque X2 T.op) (l₀ := .ref C :: .ref M :: exT) (l := .ref M :: exT) ?_ (by simp [List.dropWhile_cons]) X2 T.sI hxC (by decide) (I2.type.andThen (looks_subIn X2 T.exE)) ?_
  · exact (looks_clsIn X2 hcl).andThen .now
  refine ESX.callWith_bound (x := x) (first := []) ?_
  refine Calls.spliced_cons (Calls.Constant_str (pos := r3) (k := 0) (Calls.spliced_nil ?_))
  have k3 : ∀ b o, h2.get? b = some o → (h2.push (ESX.bw x)).get? b = some o := fun b o e => Heap.get?_push_of_some _ e
  refine ⟨Heap.get?_push_size _ rfl, ?_⟩
  refine ESX.call_bw (C := C) (e := x) (t0 := t0) (k3 _ _ (k2 _ _ hD1)) (k3 _ _ hx2) (Heap.get?_push_size _ rfl) (by rw [sizeLine_eq]; show (1 : Nat) ≤ 16777216; decide) (fun h4 t1 k4 hx4 => ?_)
  have kk : ∀ b o, b ≠ x → s.heap.get? b = some o → h4.get? b = some o := fun b o hb e => k4 b o hb (k3 b o (k2 b o (hk b o e)))
  have X4 : K.In h4 := fun a o e => kk a o (fun z => by
    rw [z, hnx] at e
    cases e) (X a o e)
  have hns4 : h4.Ns en.locals (fun y => [(PySem.Str.ofString "self", Value.ref x), (PySem.Str.ofString "at", v)].reverse.lookup y) := by
    rw [en7]
    obtain ⟨o, es, ep, e1, e2⟩ := id hns
    exact ⟨o, es, ep, k4 _ _ (fun z => absurd (Heap.lt_size hx) (by rw [← z]; exact Nat.lt_irrefl _)) (k3 _ _ (k2 _ _ e1)), e2⟩
  show wpAt _ _ _ _ _ _ _
  refine wpAt_of_wpAny ?_
  -- self."at" = "at"
  show wpAny _ _ (execs _ _) _ _ _
  refine wpAny_execs_cons (plainObj_wpAny_Assign_Attribute ?_ (hsw2 en))
  refine wpAny_Name (wpAny_loadName_local (v := v) kf (by rw [kd]; decide +kernel) hns4 (by rfl) ?_) (by decide)
  refine wpAny_Name (wpAny_loadName_local (v := .ref x) kf (by rw [kd]; decide +kernel) hns4 (by rfl) ?_) (by decide)
  refine set_plain X4 (ox := excO C t1) (od := none) ⟨hx4, rfl, rfl, trivial⟩ T.sa ?_
  refine OwX.osa_two_new X4 hx4 hcl rfl rfl T.noN (fun h5 tk5 dx k5 dn dne hx5 hn5 => ?_)
  show wpAny _ _ (execs _ _) _ _ _
  refine wpAny_execs_nil (hq h5 tk5 dx t1 ⟨fun b o hb e => k5 b o hb (kk b o hb e), hx5, ?_, dne, hn5⟩)
  obtain ⟨o, es, ep, e1, e2⟩ := hns4
  rw [en7] at e1
  exact Nat.le_trans (Nat.le_of_lt (Heap.lt_size e1)) dn
/-- a made error: what stands at e (its dict at d) -/
structure Made (h h' : Heap) (e C d : Addr) (v : Value) : Prop where
  keep : ∀ b o, h.get? b = some o → h'.get? b = some o
  new : h.objs.size ≤ e
  obj : ∃ oe vs, h'.get? e = some oe ∧ oe.cls = .ref C ∧ oe.dict = some d ∧ oe.data = .fields vs ∧ vs[1]? = some .none
  dbig : h.objs.size ≤ d
  dne : d ≠ e
  ns : h'.Ns1 d (fun y => if y = "at" then some v else none)
theorem inv_made (T : OexT prog K C M fI) {v : Value} (X : K.In s.heap) (hlim : s.heap.NoLimit) (hg : s.heap.Ns mainGlobals mg) (hb : s.heap.Ns builtinsNs mb) (hbb : ∀ y : Str, y ≠ "__name__" → mb y = bootBuiltins y) (hroom : A.depth + 1 < recursionLimit)
    (hq : ∀ h' tk e d, Made s.heap h' e C d v → R (.ok (.ret (.ref e))) { s with heap := h', toks := tk }) :
    codeAny (model prog w) A (.call (.ref C) ⟨[v], []⟩) R s := by
  obtain ⟨nm, q, N, bs, sn, sub, ab, col, dd, k0, k1, k2, k3, k5, hC⟩ := T.cls
  obtain ⟨hp, g, dr, tk, os⟩ := s
  have k : ∀ b o, hp.get? b = some o → ((hp.push (kdv_tup [v])).push (excO C hp.objs.size)).get? b = some o := fun b o e => Heap.get?_push_of_some _ (Heap.get?_push_of_some _ e)
  have hget : ((hp.push (kdv_tup [v])).push (excO C hp.objs.size)).get? (hp.objs.size + 1) = some (excO C hp.objs.size) := by heap_get
  have hnx : K.lookup (hp.objs.size + 1) = none := by
    cases e : K.lookup (hp.objs.size + 1) with
    | none => rfl
    | some o =>
      have z : hp.get? (hp.objs.size + 1) = some o := X _ _ e
      exact absurd (Nat.lt_of_succ_lt (Heap.lt_size z)) (Nat.lt_irrefl _)
  refine call_own F.excBase_Exception (bm := .ref M :: exT) (fun Y => by rw [List.contains_cons]; rfl) (X _ _ hC) (looks_findIn X T.iC) (fun self => bind_fn X self T.tC) (by rw [sizeLine_eq]; show (1 : Nat) ≤ 16777216; decide) ?_
  refine inv_init (s := ⟨(hp.push (kdv_tup [v])).push (excO C hp.objs.size), g, dr, tk, os⟩) T (X.keeps k) (hlim.keeps k) (hg.keeps k) (hb.keeps k) hbb hget hnx ?_ fun h' tk' dx t1 ⟨k', hx, dn, dne, hns⟩ => ?_
  · show A.depth + 1 < recursionLimit
    exact hroom
  · have old : ∀ b o, hp.get? b = some o → h'.get? b = some o := fun b o e => k' b o (Nat.ne_of_lt (Nat.lt_succ_of_lt (Heap.lt_size e))) (k b o e)
    have z : hp.objs.size + 1 + 1 ≤ dx := by
      have q := dn
      rw [Heap.size_push, Heap.size_push] at q
      exact q
    exact ⟨rfl, hq h' tk' (hp.objs.size + 1) dx ⟨old, Nat.le_succ _, ⟨_, _, hx, rfl, rfl, rfl, rfl⟩, Nat.le_trans (Nat.le_trans (Nat.le_succ _) (Nat.le_succ _)) z, dne, hns⟩⟩
end
end OwXat
end PySem

namespace Own
open PySem PySem.Spec PyProof.Rows L2
theorem relO_at {v : V} {v' : Value} (r : RelV v v') (f : Str) : RelO (List.lookup f [(("at" : Str), v)]) (if f = "at" then some v' else none) := by
  by_cases hw : f = "at"
  · subst hw
    rw [if_pos rfl]
    have q : List.lookup ("at" : Str) [(("at" : Str), v)] = some v := by simp [List.lookup]
    rw [q]
    exact r
  · rw [if_neg hw]
    have qw : (f == ("at" : Str)) = false := by simpa using hw
    have q2 : List.lookup f [(("at" : Str), v)] = none := by simp [List.lookup, qw]
    rw [q2]
    trivial
/-- C(e) -/
def tMk_at (C : Addr) (ta : TA) : L2.St → Hp → XK → Prop := fun σ H Q => ta σ H fun vs H1 => ∃ v, vs = [v] ∧ ∀ d, H1 d = none → Q (.ref C) (some d) (upd H1 d (.xd [(("at" : Str), v)]))
section
variable {X : Cx} {C M fI : Addr} {nm : Str}
theorem pmk_at {a : Expr} {ta : TA} {p pos : Pos} {k : Nat} (T : PySem.OwXat.OexT X.prog X.K C M fI) (gC : X.mg nm = some (.ref C)) (hr : Room k X.A) (ha : PA X [a] ta) (hg : Gl X nm) (hdb : (nm == ("__debug__" : Str)) = false := by decide)
    (he : starEach (a :: []) X.env = (false, eval a X.env) :: starEach [] X.env := by rfl) (hpl : (backTo pos (starEach [] X.env)).any (·.1) = false := by rfl) :
    PMk X (.Call (.Name nm p) [a] [] pos) (tMk_at C ta) := by
  intro pins s σ H Q I h
  refine wpAny_Call_Name_kw (ld_glob I hg gC ?_ hdb)
  refine PySem.W.callWith_K (h₀ := X.base) I.ok.mod.kin T.kC (thn (ha.run pos pins s σ H _ I h) fun us s1 hh => ?_) he hpl
  obtain ⟨vs, H1, I1, r1, v, ev, q1⟩ := hh
  subst ev
  refine ⟨I1.kIn, ?_⟩
  cases r1 with
  | cons rv rn =>
    rename_i v' us'
    cases rn
    show wpAny _ _ (call (.ref C) [v']) _ _ _
    have hlim := I1.nolimit
    obtain ⟨mb, hb, hbb⟩ := I1.ok.mod.blt
    have hg1 := I1.ok.mod.glob.keeps I1.bk
    have hb1 := hb.keeps I1.bk
    obtain ⟨hp, g, dr, tk, os⟩ := s1
    refine wpAny_call (PySem.OwXat.inv_made T I1.kIn hlim hg1 hb1 hbb (by have := hr.dp; omega) fun h' tk' e d M => ?_)
    show MkP X pins σ Q (.ref e) ⟨h', g, dr, tk', os⟩
    obtain ⟨oe, fv, hoe, hc, hd, hdat, h1⟩ := M.obj
    have hns := M.ns
    obtain ⟨G', g1, g2⟩ := restrict h' fun b => decide (b ≠ e)
    have gk : ∀ b, b ≠ e → G'.get? b = h'.get? b := fun b hb => g1 b (decide_eq_true hb)
    have ge : G'.get? e = none := g2 e (by simp)
    have old : ∀ b o, hp.get? b = some o → G'.get? b = some o := fun b o q => (gk b (Nat.ne_of_lt (Nat.lt_of_lt_of_le (Heap.lt_size q) M.new))).trans (M.keep b o q)
    have ob : ObjOk X.prog X.w (upd H1 d (.xd [(("at" : Str), v)])) G' d (.xd [(("at" : Str), v)]) :=
      ⟨_, hns.at (fun o q => (gk d M.dne).trans q), fun f => relO_at rv f⟩
    have J : Inv X pins σ (upd H1 d (.xd [(("at" : Str), v)])) ⟨G', g, dr, tk', os⟩ := I1.laid (t' := tk') old M.dbig ob
    refine ⟨e, oe, fv, ⟨G', g, dr, tk', os⟩, _, .ref C, some d, rfl, J, fun b o q => ?_, ge, hoe, ⟨hc, hd⟩, hdat, h1, ?_, rfl, I1.bare, raises_own T.exC T.tyC, q1 d (I1.hok.fresh M.dbig)⟩
    · by_cases hb : b = e
      · have q' : G'.get? b = some o := q
        rw [hb, ge] at q'
        cases q'
      · exact (gk b hb).symm.trans q
    · rw [upd_ne (Ne.symm M.dne)]
      exact I1.hok.fresh M.new
/-- e."at" of the exception that the suite holds -/
def tBy_at (C : Addr) (a : Addr) (cls : Value) (d : Option Addr) (te : TE) : TE := fun σ H Q => te σ H fun x H1 => x = .ref a ∧ cls = .ref C ∧ ∃ (dd : Addr) (v : V), d = some dd ∧ H1 dd = some (.xd [(("at" : Str), v)]) ∧ Q v H1
theorem pe_by_at {a : Addr} {oe : Obj} {cls : Value} {d : Option Addr} {pn : List (Addr × Obj)} {e : Expr} {te : TE} {pos : Pos} (T : PySem.OwXat.OexT X.prog X.K C M fI) (hz : Zc cls d oe) (hf : ∃ vs, oe.data = .fields vs) (he : PE (X.suite a ((a, oe) :: pn)) e te)
    (hb : attributeBase e "at" X.env (eval e X.env) = eval e X.env := by rfl) :
    PE (X.suite a ((a, oe) :: pn)) (.Attribute e "at" pos) (tBy_at C a cls d te) := by
  refine ⟨fun pins s σ H Q I h => ?_⟩
  refine attr_of hb (thn (he.run pins s σ H _ I h) fun u s1 hh => ?_)
  obtain ⟨x, H1, I1, rx, ex, ec, dd, v, ed, ea, q⟩ := hh
  subst ex
  obtain rfl : u = Value.ref a := rx
  subst ec
  subst ed
  obtain ⟨ha, _⟩ := I1.pin (a, oe) (List.mem_append_left _ List.mem_cons_self)
  obtain ⟨vs, hd⟩ := hf
  have hx : ObjOk X.prog X.w H1 s1.heap dd (.xd [(("at" : Str), v)]) := I1.hok dd _ ea
  obtain ⟨mA, hns, hr⟩ := hx
  obtain ⟨od, ho, hl⟩ := lookIn_ns hns
  have l : List.lookup ("at" : Str) [(("at" : Str), v)] = some v := by simp [List.lookup]
  obtain ⟨u, hu, ru⟩ := RelO.some_of (v := v) (o := mA "at") (by rw [← l]; exact hr "at")
  have J : PySem.W.InstAt s1.heap a oe C (some od) := ⟨ha, hz.1, by unfold PySem.W.notCls; rw [hd] <;> rfl, by rw [hz.2]; exact ho⟩
  exact PySem.HandSPX.exc_get I1.kIn J T.ga T.gg T.exC (PySem.W.findObj_own T.hdC T.noN rfl (by rw [hl, hu])) (handed_of ru) ⟨v, H1, I1.tok _, ru, q⟩
end
end Own

namespace Own
open PySem PySem.Spec PyProof.Rows L2 Evl
/-! ### a def of the text and its promise, by its name -/
def Fn (P : Program) (w : World) (K : PySem.W.Frag) (mg : Str → Option Value) (base : Heap) (CX : CXT) (k : Nat) (x : Str) (st : Stmt) (ps : List Str) (sp : Sp) : Prop :=
  ∃ f fd, mg x = some (.ref f) ∧ FunD K x x (defArgs st) (defBody st) (defScope st) [] [] f fd ∧ Binds K fd ps [] ∧ FnOk P w K mg base CX k f fd ps sp
section
variable {X : Cx} {CX : CXT} {k : Nat} {ps ks : List Str} {sp : Sp} {E : XK} {x : Str} {st : Stmt} {p pos : Pos} {e : Expr} {es : List Expr} {t tk : TA}
theorem Fn.imp {P : Program} {w : World} {K : PySem.W.Frag} {mg : Str → Option Value} {base : Heap} {sp' : Sp} (F : Fn P w K mg base CX k x st ps sp) (h : ∀ vs H Q E, sp' vs H Q E → sp vs H Q E) : Fn P w K mg base CX k x st ps sp' := by
  obtain ⟨f, fd, h1, h2, h3, h4⟩ := F
  exact ⟨f, fd, h1, h2, h3, h4.imp h⟩
theorem Fn.mono {P : Program} {w : World} {K : PySem.W.Frag} {mg : Str → Option Value} {base : Heap} {j : Nat} (F : Fn P w K mg base CX j x st ps sp) (h : j ≤ k) : Fn P w K mg base CX k x st ps sp := by
  obtain ⟨f, fd, h1, h2, h3, h4⟩ := F
  exact ⟨f, fd, h1, h2, h3, h4.mono h⟩
theorem pe_callF (F : Fn X.prog X.w X.K X.mg X.base CX k x st ps sp) (hr : Room k X.A) (hg : Gl X x) (hx : Passes CX X E) (ha : PA X (e :: es) t) (hdb : (x == ("__debug__" : Str)) = false := by decide)
    (he : starEach (e :: es) X.env = (false, eval e X.env) :: starEach es X.env := by rfl) (hpl : (backTo pos (starEach es X.env)).any (·.1) = false := by rfl) :
    PE X (.Call (.Name x p) (e :: es) [] pos) (tCall sp [] E t) := by
  obtain ⟨f, fd, h1, h2, h3, h4⟩ := F
  exact pe_call h4 hr hg h1 h2.kp h3 .nil hx ha hdb he hpl
theorem pe_call0F (F : Fn X.prog X.w X.K X.mg X.base CX k x st ps sp) (hr : Room k X.A) (hg : Gl X x) (hx : Passes CX X E) (hdb : (x == ("__debug__" : Str)) = false := by decide) : PE X (.Call (.Name x p) [] [] pos) (tCall sp [] E tNil) := by
  obtain ⟨f, fd, h1, h2, h3, h4⟩ := F
  exact pe_call0 h4 hr hg h1 h2.kp h3 .nil hx hdb
/-- the values in the parameters' order -/
def pick {α : Type} (n : Nat) (ix : List Nat) (us ws : List α) : List α := match us with
  | [] => if ws.length = n then ix.filterMap fun i => ws[i]? else []
  | _ :: _ => []
theorem pick_rel {n : Nat} {ix : List Nat} {vs : List V} {us : List Value} {zs : List V} {ws : List Value} (r1 : Vals vs us) (r2 : Vals zs ws) : Vals (pick n ix vs zs) (pick n ix us ws) := by
  cases r1 with
  | cons a b => exact .nil
  | nil =>
    show Vals (if zs.length = n then ix.filterMap fun i => zs[i]? else []) (if ws.length = n then ix.filterMap fun i => ws[i]? else [])
    rw [← r2.length]
    by_cases h : zs.length = n
    · rw [if_pos h, if_pos h]
      clear h
      induction ix with
      | nil => exact .nil
      | cons i r ih =>
        rw [List.filterMap_cons, List.filterMap_cons]
        cases e : zs[i]? with
        | none =>
          rw [r2.none_of e]
          exact ih
        | some v =>
          obtain ⟨u, hu, ru⟩ := r2.get e
          rw [hu]
          exact .cons ru ih
    · rw [if_neg h, if_neg h]
      exact .nil
theorem kb_of {K : PySem.W.Frag} {qual : Str} {params : Arguments} {body : List Stmt} {scope : Scope} {f : Addr} {fd : FuncData} (n : Nat) (ix : List Nat) (F : FunD K x qual params body scope [] [] f fd) (hps : ps ≠ [])
    (h : ∀ (kV doc pm : Value) (an : Option Addr) (cdv ct : Value) (ws : List Value), ws.length = n → bindArgs (PySem.W.fnOf x qual params body scope .none kV doc pm an cdv ct) ⟨[], ks.zip ws⟩ = pure (ps.zip (ix.filterMap fun i => ws[i]?))) :
    KBinds K fd ps ks (pick n ix) (pick n ix) := by
  refine ⟨fun s us ws _ hl => ?_, fun r1 r2 => pick_rel r1 r2⟩
  obtain ⟨oc, od, dV, kV, doc, pm, an, cdv, ct, osl, rfl, lk, hcd, hD, hK⟩ := F.ex
  have no : ¬ (([] : List Value).length = ps.length) := fun e => hps (List.eq_nil_of_length_eq_zero e.symm)
  rcases hD with ⟨_, rfl⟩ | ⟨e, _⟩
  · cases us with
    | cons a b => exact absurd hl no
    | nil =>
      by_cases hw : ws.length = n
      · have e : pick n ix ([] : List Value) ws = ix.filterMap fun i => ws[i]? := if_pos hw
        rw [e]
        exact .of_eq (h kV doc pm an cdv ct ws hw)
      · have e : pick n ix ([] : List Value) ws = [] := if_neg hw
        rw [e] at hl
        exact absurd hl no
  · exact absurd rfl e
theorem pe_call0KF {n : Nat} {ix : List Nat} {kws : List Keyword} (F : Fn X.prog X.w X.K X.mg X.base CX k x st ps sp) (hr : Room k X.A) (hb : ∀ {f : Addr} {fd : FuncData}, FunD X.K x x (defArgs st) (defBody st) (defScope st) [] [] f fd → KBinds X.K fd ps ks (pick n ix) (pick n ix)) (hx : Passes CX X E)
    (hkw : PK X kws tk) (hg : Gl X x := by rfl) (hall : (backToKw pos (keywordEach kws X.env)).all (·.1.isSome) = true := by rfl) (hks : (backToKw pos (keywordEach kws X.env)).filterMap (·.1) = ks := by rfl)
    (hdb : (x == ("__debug__" : Str)) = false := by decide) (hpl : ((backTo pos (starEach [] X.env)).any (·.1) || (backToKw pos (keywordEach kws X.env)).any (·.1.isNone)) = false := by rfl) : PE X (.Call (.Name x p) [] kws pos) (tCall0K sp (pick n ix) E tk) := by
  obtain ⟨f, fd, h1, h2, h3, h4⟩ := F
  exact pe_call0K h4 hr hg h1 h2.kp (hb h2) hx hkw hall hks hdb hpl
end
/-! ### promises that leave all that was known -/
/-- a new tuple -/
def RetU (K : PySem.W.Frag) (xs : List V) (H : Hp) (Q : VK) : Prop := ∀ p H2, Ex H H2 → Tp K H2 p xs → Q (.ref p) H2
theorem RetU.new {K : PySem.W.Frag} {xs : List V} {H H1 : Hp} {Q : VK} (k : RetU K xs H Q) (e : Ex H H1) : NewT xs H1 Q := fun p o hp ho => k p _ (e.trans (Ex.new hp)) (Tp.of ho upd_same)
theorem Tp.ex {K : PySem.W.Frag} {H H1 : Hp} {p : Addr} {xs : List V} (h : Tp K H p xs) (e : Ex H H1) : Tp K H1 p xs := by
  rcases h with ⟨o, h1, h2⟩ | h
  · exact .inl ⟨o, h1, e _ _ h2⟩
  · exact .inr h
theorem NewT.any {xs ys : List V} {H : Hp} {Q : VK} (h : NewT xs H Q) (e : xs = ys) : NewT ys H Q := e ▸ h
/-! ### comprehensions that change nothing that was known -/
section
variable {K : PySem.W.Frag} {J : It} {n : Nat} {G : Hp → Prop} {Y : Nat → Hp → V → Hp → Prop} {g : TG} {tt : TT} {te : TE} {vs : List Nat} {σ : L2.St} {H : Hp}
/-- what a comprehension gives, from the list it walks -/
theorem lcP {Q : Addr → Hp → Prop} (w : Walk J n G Y) (hG : ∀ H', Ex H H' → G H') (hn : n ≤ 40000) (f : Nat → Bool) (v : Nat → V)
    (turn : ∀ i H1 x H2, i < n → Ex H H1 → Y i H1 x H2 → ∀ (K1 : VK) (K0 : Hp → Prop), (f i = true → ∀ H5, Ex H1 H5 → K1 (v i) H5) → (f i = false → ∀ H5, Ex H1 H5 → K0 H5) →
      g x (wipe σ vs) H2 fun σ2 H3 => wipe σ2 vs = wipe σ vs ∧ tt σ2 H3 fun b H4 => if b = true then te σ2 H4 K1 else K0 H4)
    (q : ∀ p H2, H p = none → Ex H H2 → H2 p = some (.lst (given n f v)) → Q p H2) :
    ∀ D, H D = none → ∃ W : Nat → Nat → Hp → Prop, (∃ m, W 0 m (upd H D (.lst []))) ∧ ∀ i m H, W i m H →
      (J.stop i H ∧ Q D H) ∨ (J.go i H ∧ ∃ Nx : Hp → Prop, (∀ H', Nx H' → ∃ m', m' < m ∧ W (i + 1) m' H') ∧ ∀ x H', J.yld i H x H' → g x (wipe σ vs) H' fun σ2 H2 => wipe σ2 vs = wipe σ vs ∧ tt σ2 H2 fun b H3 =>
        if b = true then te σ2 H3 fun y H4 => ∃ acc, H4 D = some (.lst acc) ∧ acc.length < sizeLine ∧ Nx (upd H4 D (.lst (acc ++ [y]))) else Nx H3) := fun D hD =>
  lc_it w (Cw H f v D) ⟨hD, Ex.new hD, upd_same⟩ (fun i H' _ p => hG H' p.2.1) (fun i x H1 H2 hi p y => by
    obtain ⟨p1, p2, p3⟩ := p
    refine turn i H1 x H2 hi p2 y _ _ (fun hf H5 e5 => ?_) (fun hf H5 e5 => ?_)
    · refine ⟨given i f v, e5 D _ p3, sz_lt (by have := given_len i f v; omega), p1, Ex.mut (p2.trans e5) p1, ?_⟩
      rw [given_yes hf]
      exact upd_same
    · refine ⟨p1, p2.trans e5, ?_⟩
      rw [given_no hf]
      exact e5 D _ p3) (fun H' p => q D H' p.1 p.2.1 p.2.2)
end
theorem yes_go {te : TE} {σ : L2.St} {H : Hp} {K1 : VK} {K0 : Hp → Prop} (h : te σ H K1) : tYes σ H (fun b H4 => if b = true then te σ H4 K1 else K0 H4) := by
  show (if true = true then te σ H K1 else K0 H)
  rw [if_pos rfl]
  exact h
theorem given_all (n : Nat) (v : Nat → V) : given n (fun _ => true) v = (List.range n).map v := by
  unfold given
  rw [List.filter_eq_self.mpr (by simp)]
end Own

/-! More rules: int(long text), text * int, list(range(n)), tuple(reversed(list)). -/
namespace PySem
namespace OwI
open PySem PySem.W PySem.Calls PySem.NumText PyProof.Rows
theorem wp_long {M : Model} {A : Around} {E : Value → Shared → Prop} {s : Shared} {Q : Value → Shared → Prop} {v : Value} {text : List Nat} {n : Int}
    (hs : ¬ (text.takeWhile (· != 0)).length ≤ 640) (hr : (int_private% "readNumeral") 4300 10 (text.takeWhile (· != 0)) = (int_private% "Numeral.value") n)
    (ha : ((text.takeWhile (· != 0)).length == text.length) = true) (hk : Looks M s.heap (nsGet cStatics "sys.int_max_str_digits") none) (h : Q (.int n s.toks) { s with toks := s.toks + 1 }) :
    wpAny M A ((int_private% "intFromText") v text 10) Q E s := by
  have hlim : ∀ {Q' : Nat → Shared → Prop}, Q' 4300 s → wpAny M A Builtin.intMaxStrDigits Q' E s := fun {Q'} q => by
    unfold Builtin.intMaxStrDigits
    exact wpAny_bind (hk.at (wpAny_pure q))
  obtain ⟨hp, g, d, tk, os⟩ := s
  repeat (any_goals (first
    | assumption
    | (with_reducible refine wpAny_ite_false (decide_eq_false hs) ?_)
    | (with_reducible refine wpAny_ite_true (decide_eq_true ha) ?_)
    | (with_reducible refine hlim ?_)
    | wp_step))
  all_goals (try rw [hr])
  all_goals (try dsimp only)
  repeat (any_goals (first
    | assumption
    | (with_reducible refine wpAny_ite_false (decide_eq_false hs) ?_)
    | (with_reducible refine wpAny_ite_true (decide_eq_true ha) ?_)
    | wp_step))
structure Hid (p : Prop) : Prop where
  out : p
theorem meets_long {x : PySem.Str} {u : Tok} {n : Int} (hl : x.length ≤ sizeLine) (hl2 : ¬ (numSeenOf x).length ≤ 640) (hn : PySem.intText? x = some n) :
    Meets (Builtin.«int.__new__» ⟨[.type "int", .str x u], []⟩) (fun _ R s => (∀ M : Model, Looks M s.heap (nsGet cStatics "sys.int_max_str_digits") none) ∧ R (.ok (.ret (.int n s.toks))) { s with toks := s.toks + 1 }) :=
  .of_wp fun prog w A R s h => by
    obtain ⟨hk, h⟩ := h
    obtain ⟨hp, g, d, tk, os⟩ := s
    have f1 := F.conv_sub_int
    have f2 := F.madeHere_int
    have f3 := KIN.str_int
    have f4 := KIN.str_idx
    have f5 := KIN.str_trunc
    have f6 : typeOf (.str x u) = pure (.type "str") := rfl
    have hr : (int_private% "readNumeral") 4300 10 (numSeenOf x) = (int_private% "Numeral.value") n ∧ ((numSeenOf x).length == (numTextOf x).length) = true := by
      rcases read4300 x hl with ⟨m, h1, h2, h3⟩ | ⟨h1, _⟩
      · rw [hn] at h1
        injection h1 with h1
        subst h1
        exact ⟨h3, h2⟩
      · rw [hn] at h1
        cases h1
    have hd := Hid.mk (And.intro hl2 hr)
    have hk' := Hid.mk hk
    clear hr hl hl2 hn hk
    repeat (any_goals (first
      | assumption
      | ((with_reducible show wpAny _ _ ((int_private% "intFromText") _ _ _) _ _ _); refine wp_long hd.out.1 hd.out.2.1 hd.out.2.2 (hk'.out _) ?_)
      | wp_step))
    all_goals first | exact ⟨_, rfl, h⟩ | skip
end OwI
end PySem
namespace Own
open PySem PySem.Spec PyProof.Rows L2 Evl
section
variable {X : Cx}
/-- int(text), up to 4,300 figures -/
def rIntS : List V → Hp → VK → Prop := fun xs H Q => ∃ a n, xs = [.str a] ∧ PySem.intText? a = some n ∧ a.length ≤ 4300 ∧ (numSeenOf a).length = a.length ∧ Q (.int n) H
theorem call_intS (hk : PySem.W.nsIn X.K cStatics "sys.int_max_str_digits" = some none) : CallR X (.type "int") rIntS := by
  intro pins s σ H xs us Q I rs h
  obtain ⟨a, n, rfl, hn, hl, hse, h⟩ := h
  cases rs with
  | cons r1 rs =>
    cases rs
    obtain ⟨t, rfl⟩ := r1
    by_cases h6 : (numSeenOf a).length ≤ 640
    · exact PySem.W.KIN.call_text hn (by omega) ⟨.int n, H, I.tok _, ⟨_, rfl⟩, h⟩
    · exact PySem.call_int_1 (PySem.OwI.meets_long (by rw [sizeLine_eq]; omega) h6 hn) ⟨fun M => PySem.W.looks_nsIn I.kIn hk, ⟨rfl, .int n, H, I.tok _, ⟨_, rfl⟩, h⟩⟩
/-- text * k -/
def repS (a : Str) (n : Nat) : Str := ⟨(List.replicate n a.cps).foldl (· ++ ·) #[]⟩
theorem repS_len (a : Str) : ∀ (n : Nat) (acc : Array Nat), ((List.replicate n a.cps).foldl (· ++ ·) acc).size = acc.size + n * a.cps.size
  | 0, acc => by simp
  | n + 1, acc => by
    rw [List.replicate_succ, List.foldl_cons, repS_len a n, Array.size_append, Nat.succ_mul]
    omega
theorem repS_length (a : Str) (n : Nat) : (repS a n).length = n * a.length := by
  show ((List.replicate n a.cps).foldl (· ++ ·) #[]).size = n * a.cps.size
  rw [repS_len]
  simp
theorem repS_mem {a : Str} {c : Nat} : ∀ (n : Nat) (acc : Array Nat), c ∈ ((List.replicate n a.cps).foldl (· ++ ·) acc).toList → c ∈ acc.toList ∨ c ∈ a.cps.toList
  | 0, acc, h => .inl h
  | n + 1, acc, h => by
    rw [List.replicate_succ, List.foldl_cons] at h
    rcases repS_mem n _ h with h | h
    · rw [Array.toList_append, List.mem_append] at h
      exact h
    · exact .inr h
def rRepS : R2 := fun x y H Q => ∃ a k, x = .str a ∧ y = .int k ∧ 0 ≤ k ∧ k ≤ 10000 ∧ a.length ≤ 1000 ∧ Q (.str (repS a k.toNat)) H
theorem op_repS : OpR X (binaryOp .Mult) rRepS := by
  intro pins s σ H x y v u Q I rx ry h
  obtain ⟨a, k, rfl, rfl, h0, h1, hz, q⟩ := h
  obtain ⟨t, rfl⟩ := rx
  obtain ⟨t2, rfl⟩ := ry
  have hm : a.length * k.toNat ≤ 1000 * 10000 := Nat.mul_le_mul hz (by omega)
  refine PySem.P.mul_str (by rw [decide_eq_false (by omega), decide_eq_false (by omega)] <;> rfl) (fun _ _ => ?_) (fun _ _ => ?_) ?_
  · have : (a.length : Int) ≤ 1000 := by omega
    have : (1000 : Int) ≤ (2 ^ 63 - 1) / k := by
      by_cases hk : k = 0
      · omega
      · exact Int.le_ediv_of_mul_le (by omega) (by omega)
    omega
  · unfold Builtin.Str.tooLong
    first
      | exact decide_eq_false (by rw [sizeLine_eq]; omega)
      | exact decide_eq_false (by omega)
  · by_cases h1' : k < 1
    · rw [if_pos h1']
      have e0 : repS a k.toNat = Str.empty := by
        rw [show k.toNat = 0 by omega]
        rfl
      rw [e0] at q
      exact ⟨by decide, .str Str.empty, H, I.tok _, ⟨_, rfl⟩, q⟩
    · rw [if_neg h1']
      by_cases h2 : (k == 1 || a.length == 0) = true
      · rw [if_pos h2]
        have e0 : repS a k.toNat = a := by
          rcases Bool.or_eq_true_iff.mp h2 with h3 | h3
          · have : k.toNat = 1 := by
              have := eq_of_beq h3
              omega
            rw [this]
            show (⟨#[] ++ a.cps⟩ : Str) = a
            rw [Array.empty_append]
          · have h4 : a.cps = #[] := Array.eq_empty_of_size_eq_zero (eq_of_beq h3)
            show (⟨(List.replicate k.toNat a.cps).foldl (· ++ ·) #[]⟩ : Str) = a
            have h5 : (List.replicate k.toNat a.cps).foldl (· ++ ·) #[] = #[] := Array.eq_empty_of_size_eq_zero (by
              rw [repS_len, h4]
              simp)
            rw [h5]
            cases a
            simp only at h4
            rw [h4]
        rw [e0] at q
        exact ⟨.str a, H, I.tok _, ⟨_, rfl⟩, q⟩
      · rw [if_neg h2]
        exact ⟨by
          have := repS_length a k.toNat
          show (repS a k.toNat).length ≤ sizeLine
          rw [this, sizeLine_eq, Nat.mul_comm]
          omega, .str (repS a k.toNat), H, I.tok _, ⟨_, rfl⟩, q⟩
/-- list(range(n)) -/
theorem pe_list_range {e : Expr} {te : TE} {p pos p2 pos2 : Pos} (hm : X.mg "list" = none) (hm2 : X.mg "range" = none) (he : PE X e te) (hc : X.calm = true := by rfl) (hg : Gl X "list" := by rfl) (hg2 : Gl X "range" := by rfl)
    (na : starEach [e] X.env = (false, eval e X.env) :: starEach [] X.env := by rfl) (na2 : starEach [.Call (.Name "range" p2) [e] [] pos2] X.env = (false, eval (.Call (.Name "range" p2) [e] [] pos2) X.env) :: starEach [] X.env := by rfl) :
    PE X (.Call (.Name "list" p) [.Call (.Name "range" p2) [e] [] pos2] [] pos) (tLstRg (tRg1 te)) := pe_listRg hc hg hm (prg_1 hg2 hm2 he na) na2
/-- tuple(reversed(xs)) -/
def tTupRev (K : PySem.W.Frag) (ta : TA) : TE := fun σ H Q => ta σ H fun vs H1 => ∃ (a : Addr) (xs : List V), vs = [.ref a] ∧ SqL K H1 a xs ∧ NewT xs.reverse H1 Q
theorem pe_tuple_reversed {e : Expr} {ta : TA} {p pos p2 pos2 : Pos} (hm : X.mg "tuple" = none) (hm2 : X.mg "reversed" = none) (ha : PA X [e] ta) (hc : X.calm = true := by rfl) (hg : Gl X "tuple" := by rfl) (hg2 : Gl X "reversed" := by rfl)
    (hs : starEach [e] X.env = [(false, eval e X.env)] := by rfl) (na2 : starEach [.Call (.Name "reversed" p2) [e] [] pos2] X.env = (false, eval (.Call (.Name "reversed" p2) [e] [] pos2) X.env) :: starEach [] X.env := by rfl) :
    PE X (.Call (.Name "tuple" p) [.Call (.Name "reversed" p2) [e] [] pos2] [] pos) (tTupRev X.K ta) := by
  refine ⟨fun pins s σ H Q I h => ?_⟩
  refine Call_ (ld_blt I hg hm boot_tuple (PyProof.Rows.callWith_type1 (args_cons (Call_ (ld_blt (I.tok _) hg2 hm2 PyProof.Rows.boot_reversed (PyProof.Rows.callWith_type1 (thn (ha.run pos2 pins _ σ H _ (I.tok _) h) fun us s1 ⟨vs, H1, I1, r1, q1⟩ => ?_) hs rfl))) na2) na2))
  obtain ⟨a, xs, e, hq, q⟩ := q1
  subst e
  cases r1 with
  | cons r rr =>
    cases rr
    cases r
    obtain ⟨its, rv, pl, hz⟩ := I1.list hq
    have hl := rv.length
    refine call_reversed_list pl.isList (args_nil ?_)
    have hlt : a < s1.heap.objs.size := by
      obtain ⟨o, n, e, _⟩ := pl
      exact Heap.lt_size e
    obtain ⟨oL, nL, eL, cL, dL, sL⟩ := id pl
    refine RT.call_tuple_rev (l := a) (items := its.toArray) (I1.ok.hd hc) ⟨_, Heap.get?_push_size _ rfl, rfl, rfl⟩ ?_ (Nat.ne_of_lt hlt) (by rw [List.size_toArray, ← hl]; exact hz) (fun h' tk acc hk hacc => ?_)
    · obtain ⟨n9, h9, h8⟩ := pl.isList
      exact ⟨n9, Heap.get?_push_of_some _ h9, h8⟩
    · have I2 : Inv X pins σ H1 { s1 with heap := h', toks := tk } := I1.kept (fun b o e => hk b o (Nat.ne_of_lt (Heap.lt_size e)) (Heap.get?_push_of_some _ e))
      have rr : Vals xs.reverse acc.toList := by
        obtain ⟨h1, h2⟩ := hacc
        refine vals_of_at (by rw [List.length_reverse, Array.length_toList]; exact hl.trans ((List.size_toArray ..).symm.trans h1.symm)) (fun j x u hx hu => ?_)
        have hj := h2 j u (by simpa using hu)
        have hj2 : j < xs.length := by
          have := (List.getElem?_eq_some_iff.mp hx).1
          rw [List.length_reverse] at this
          exact this
        rw [List.getElem?_reverse hj2] at hx
        obtain ⟨u2, hu2, ru⟩ := rv.get hx
        have : its[xs.length - 1 - j]? = some u := by
          rw [hl]
          simpa using hj
        rw [hu2] at this
        cases this
        exact ru
      have z := newT_end (tk := tk) I2 rr (by rw [List.length_reverse]; exact hz) q
      rw [Array.toArray_toList] at z
      exact z
end
end Own

namespace Own
open PySem PySem.Spec PyProof.Rows L2 Evl
/-! ### data -/
theorem dp_ints {K : PySem.W.Frag} {H : Hp} : ∀ ns : List Int, DpAll K H (ns.map V.int) (ns.map PyData.int)
  | [] => .nil
  | n :: r => .cons (.int n) (dp_ints r)
theorem eqv_ints_nil (ns : List Int) : PyData.eqv (.list (ns.map PyData.int)) (.list []) = ns.isEmpty := by
  cases ns <;> rfl
/-! ### where draws come from: a list [digits, mix, count] at a, the digits at l -/
structure Deal (N : Nat) (H : Hp) (a l : Addr) : Prop where
  ne : a ≠ l
  at_ : ∃ (cs ms : List Int), H a = some (.lst (.ref l :: ms.map V.int)) ∧ H l = some (.lst (cs.map V.int)) ∧ (∀ x ∈ cs, 0 ≤ x) ∧ ms.length = N ∧ cs.length ≤ 100
/-- R: what is known and stays; the deal beside it -/
structure Wl (N : Nat) (a l : Addr) (R H : Hp) : Prop where
  ex : Ex R H
  na : R a = none
  nl : R l = none
  deal : Deal N H a l
section
variable {N : Nat} {a l : Addr} {R R1 H H1 : Hp} {p : Addr} {o o' : HO}
theorem Deal.dom (d : Deal N H a l) : H a ≠ none ∧ H l ≠ none := by
  obtain ⟨_, cs, ms, h1, h2, _⟩ := d
  refine ⟨fun z => ?_, fun z => ?_⟩
  · rw [h1] at z
    cases z
  · rw [h2] at z
    cases z
theorem Deal.upd (d : Deal N H a l) (h1 : p ≠ a) (h2 : p ≠ l) : Deal N (upd H p o) a l := by
  obtain ⟨n, cs, ms, e1, e2, r⟩ := d
  exact ⟨n, cs, ms, by rw [upd_ne h1.symm]; exact e1, by rw [upd_ne h2.symm]; exact e2, r⟩
theorem Deal.ex (d : Deal N H a l) (e : Ex H H1) : Deal N H1 a l := by
  obtain ⟨n, cs, ms, e1, e2, r⟩ := d
  exact ⟨n, cs, ms, e _ _ e1, e _ _ e2, r⟩
/-- what changes nothing -/
theorem Wl.keep (w : Wl N a l R H) (e : Ex H H1) : Wl N a l R H1 := ⟨w.ex.trans e, w.na, w.nl, w.deal.ex e⟩
/-- a new object -/
theorem Wl.new (w : Wl N a l R H) (h : H p = none) : Wl N a l (upd R p o) (upd H p o) := by
  have h1 : p ≠ a := fun e => w.deal.dom.1 (e ▸ h)
  have h2 : p ≠ l := fun e => w.deal.dom.2 (e ▸ h)
  refine ⟨fun b u e => ?_, by rw [upd_ne h1.symm]; exact w.na, by rw [upd_ne h2.symm]; exact w.nl, w.deal.upd h1 h2⟩
  by_cases hb : b = p
  · subst hb
    rw [upd_same] at e ⊢
    exact e
  · rw [upd_ne hb] at e ⊢
    exact w.ex b u e
/-- a known object is changed -/
theorem Wl.mut (w : Wl N a l R H) (h : R p = some o) : Wl N a l (upd R p o') (upd H p o') := by
  have h1 : p ≠ a := fun e => by
    rw [e, w.na] at h
    cases h
  have h2 : p ≠ l := fun e => by
    rw [e, w.nl] at h
    cases h
  refine ⟨fun b u e => ?_, by rw [upd_ne h1.symm]; exact w.na, by rw [upd_ne h2.symm]; exact w.nl, w.deal.upd h1 h2⟩
  by_cases hb : b = p
  · subst hb
    rw [upd_same] at e ⊢
    exact e
  · rw [upd_ne hb] at e ⊢
    exact w.ex b u e
theorem Wl.free (w : Wl N a l R H) (h : H p = none) : R p = none := fresh_back w.ex h
/-- more is known -/
theorem Wl.more (w : Wl N a l R H) (e : Ex H H1) : ∃ R1, Ex R R1 ∧ Wl N a l R1 H1 ∧ ∀ b o, b ≠ a → b ≠ l → H1 b = some o → R1 b = some o := by
  refine ⟨fun b => if b = a ∨ b = l then none else H1 b, fun b o h => ?_, ⟨fun b o h => ?_, if_pos (.inl rfl), if_pos (.inr rfl), w.deal.ex e⟩, fun b o h1 h2 h => ?_⟩
  · have h1 : b ≠ a := fun z => by
      rw [z, w.na] at h
      cases h
    have h2 : b ≠ l := fun z => by
      rw [z, w.nl] at h
      cases h
    show (if b = a ∨ b = l then none else H1 b) = some o
    rw [if_neg (by simp [h1, h2])]
    exact e _ _ (w.ex _ _ h)
  · have h' : (if b = a ∨ b = l then none else H1 b) = some o := h
    by_cases z : b = a ∨ b = l
    · rw [if_pos z] at h'
      cases h'
    · rw [if_neg z] at h'
      exact h'
  · show (if b = a ∨ b = l then none else H1 b) = some o
    rw [if_neg (by simp [h1, h2])]
    exact h
end
/-- the promise of a drawn number below a bound -/
def spAny (N : Nat) : Sp := fun vs H Q _ => ∃ (a l : Addr) (R : Hp) (b : Int), vs = [.ref a, .int b] ∧ Wl N a l R H ∧ 0 < b ∧ b.natAbs.log2 < 9000 ∧ ∀ (r : Int) (H' : Hp), 0 ≤ r → r < b → Wl N a l R H' → Q (.int r) H'
/-- .. of one of some things, that stand in a list -/
def spOf (N : Nat) (K : PySem.W.Frag) : Sp := fun vs H Q _ => ∃ (a l p : Addr) (R : Hp) (xs : List V), vs = [.ref a, .ref p] ∧ Wl N a l R H ∧ SqL K R p xs ∧ xs ≠ [] ∧ xs.length ≤ 100 ∧ ∀ (v : V) (H' : Hp), v ∈ xs → Wl N a l R H' → Q v H'
/-! ### kinds of values -/
inductive Vk (K : PySem.W.Frag) (H : Hp) : V → String → Prop where
  | non : Vk K H .non "NoneType"
  | bl (b : Bool) : Vk K H (.bl b) "bool"
  | int (i : Int) : Vk K H (.int i) "int"
  | str (x : Str) : Vk K H (.str x) "str"
  | tup {p : Addr} {xs : List V} (h : Tp K H p xs) : Vk K H (.ref p) "tuple"
  | lst {p : Addr} {xs : List V} (h : H p = some (.lst xs)) : Vk K H (.ref p) "list"
theorem Vk.ty {K : PySem.W.Frag} {H : Hp} {x : V} {T : String} (h : Vk K H x T) : TyX K H x (.type T) := by
  cases h with
  | non => exact .base .non
  | bl b => exact .base (.bl b)
  | int i => exact .base (.int i)
  | str z => exact .base (.str z)
  | tup h =>
    rcases h with ⟨o, _, h⟩ | ⟨o, its, n, h1, h2, _⟩
    · exact .fTuple h
    · exact .kTuple h1 h2
  | lst h => exact .base (.lst h)
theorem Vk.ex {K : PySem.W.Frag} {H H1 : Hp} {x : V} {T : String} (h : Vk K H x T) (e : Ex H H1) : Vk K H1 x T := by
  cases h with
  | non => exact .non
  | bl b => exact .bl b
  | int i => exact .int i
  | str z => exact .str z
  | tup h => exact .tup (h.ex e)
  | lst h => exact .lst (e _ _ h)
theorem Vk.known {K : PySem.W.Frag} {H : Hp} {x : V} {T : String} (h : Vk K H x T) : T ∈ ["NoneType", "bool", "int", "str", "tuple", "list"] := by
  cases h <;> decide
/-! ### one thing twice: two values of the same data, to a depth -/
def scalV : V → Bool
  | .non => true
  | .bl _ => true
  | .int _ => true
  | .str _ => true
  | _ => false
def Sm (K : PySem.W.Frag) (H : Hp) : Nat → V → V → Prop
  | 0, x, y => x = y ∧ scalV x = true
  | n + 1, x, y => (x = y ∧ scalV x = true) ∨ ∃ p q xs ys, x = .ref p ∧ y = .ref q ∧ Tp K H p xs ∧ Tp K H q ys ∧ xs.length = ys.length ∧ xs.length ≤ 1000 ∧ ∀ (i : Nat) u v, xs[i]? = some u → ys[i]? = some v → Sm K H n u v
theorem Sm.ex {K : PySem.W.Frag} {H H1 : Hp} (e : Ex H H1) : ∀ {n : Nat} {x y : V}, Sm K H n x y → Sm K H1 n x y
  | 0, _, _, h => h
  | n + 1, _, _, h => by
    rcases h with h | ⟨p, q, xs, ys, h1, h2, h3, h4, h5, h6, h7⟩
    · exact .inl h
    · exact .inr ⟨p, q, xs, ys, h1, h2, h3.ex e, h4.ex e, h5, h6, fun i u v hu hv => Sm.ex e (h7 i u v hu hv)⟩
theorem Sm.scal {K : PySem.W.Frag} {H : Hp} {x : V} (h : scalV x = true) : ∀ n : Nat, Sm K H n x x
  | 0 => ⟨rfl, h⟩
  | _ + 1 => .inl ⟨rfl, h⟩
/-- two tuples of the same scalars -/
theorem Sm.tup {K : PySem.W.Frag} {H : Hp} {p q : Addr} {xs : List V} (hp : Tp K H p xs) (hq : Tp K H q xs) (hs : ∀ x ∈ xs, scalV x = true) (hl : xs.length ≤ 1000) (n : Nat) : Sm K H (n + 1) (.ref p) (.ref q) :=
  .inr ⟨p, q, xs, xs, rfl, rfl, hp, hq, rfl, hl, fun i u v hu hv => by
    rw [hu] at hv
    cases hv
    exact Sm.scal (hs u (List.mem_of_getElem? hu)) n⟩
theorem scal_ints (ns : List Int) : ∀ x ∈ ns.map V.int, scalV x = true := fun x h => by
  obtain ⟨n, _, rfl⟩ := List.mem_map.mp h
  rfl
def spSame (K : PySem.W.Frag) (n : Nat) : Sp := fun vs H Q _ => ∃ x y, vs = [x, y] ∧ Sm K H n x y ∧ ∀ H', Ex H H' → Q (.bl true) H'
end Own

namespace Own
open PySem PySem.Spec PyProof.Rows L2 Evl
abbrev FnP (K : PySem.W.Frag) (x : Str) (st : Stmt) (f : Addr) (fd : FuncData) : Prop := FunD K x x (defArgs st) (defBody st) (defScope st) [] [] f fd
/-! ### isinstance of what is known -/
theorem kit_all : ∀ T ∈ ["NoneType", "bool", "int", "str", "tuple", "list"], ∀ c ∈ ["int", "bool", "tuple", "list", "str"], L2.kitB T c = some (decide (T = c) || (decide (T = "bool") && decide (c = "int"))) := by decide +kernel
theorem kit_vk {K : PySem.W.Frag} {H : Hp} {x : V} {T : String} (h : Vk K H x T) (c : String) (hc : c ∈ ["int", "bool", "tuple", "list", "str"] := by decide) : PySem.W.kitOne K (.type T) (.type c) = some (decide (T = c) || (decide (T = "bool") && decide (c = "int"))) := kit_ty (kit_all T h.known c hc)
/-- isinstance(x, c) -/
theorem isi_vk {K : PySem.W.Frag} {H : Hp} {x : V} {T : String} {Q : VK} (h : Vk K H x T) (c : String) (q : Q (.bl (decide (T = c) || (decide (T = "bool") && decide (c = "int")))) H) (hc : c ∈ ["int", "bool", "tuple", "list", "str"] := by decide) : rIsi K [x, .ty c] H Q :=
  ⟨x, .ty c, .type T, .type c, _, rfl, .ty c, h.ty, kit_vk h c hc, q⟩
/-! ### lists by their places -/
theorem range_zip {n : Nat} (f : Int → Int → Int) : ∀ {xs ys : List Int}, xs.length = n → ys.length = n → (List.range n).map (fun i => V.int (f (xs.getD i 0) (ys.getD i 0))) = (List.zipWith f xs ys).map V.int := by
  intro xs ys h1 h2
  apply List.ext_getElem?
  intro i
  rw [List.getElem?_map, List.getElem?_map, List.getElem?_zipWith]
  by_cases hi : i < n
  · rw [List.getElem?_range hi, List.getElem?_eq_getElem (show i < xs.length by omega), List.getElem?_eq_getElem (show i < ys.length by omega)]
    simp [List.getD_eq_getElem?_getD, List.getElem?_eq_getElem (show i < xs.length by omega), List.getElem?_eq_getElem (show i < ys.length by omega)]
  · rw [List.getElem?_eq_none (show (List.range n).length ≤ i by rw [List.length_range]; omega), List.getElem?_eq_none (show xs.length ≤ i by omega)]
    rfl
theorem range_map {α β : Type} (d : α) (f : α → β) (xs : List α) : (List.range xs.length).map (fun i => f (xs.getD i d)) = xs.map f := by
  apply List.ext_getElem?
  intro i
  rw [List.getElem?_map, List.getElem?_map]
  by_cases hi : i < xs.length
  · rw [List.getElem?_range hi, List.getElem?_eq_getElem hi]
    simp [List.getD_eq_getElem?_getD, List.getElem?_eq_getElem hi]
  · rw [List.getElem?_eq_none (show (List.range xs.length).length ≤ i by rw [List.length_range]; omega), List.getElem?_eq_none (show xs.length ≤ i by omega)]
    rfl
theorem int_at {xs : List Int} {i : Nat} {x : V} (h : (xs.map V.int)[i]? = some x) : x = .int (xs.getD i 0) ∧ i < xs.length := by
  rw [List.getElem?_map] at h
  cases e : xs[i]? with
  | none =>
    rw [e] at h
    cases h
  | some n =>
    rw [e] at h
    have h2 := (List.getElem?_eq_some_iff.mp e).1
    refine ⟨?_, h2⟩
    rw [List.getD_eq_getElem?_getD, e]
    exact (Option.some.inj h).symm
theorem at_int {xs : List Int} {i : Nat} (h : i < xs.length) : (xs.map V.int)[i]? = some (.int (xs.getD i 0)) := by
  rw [List.getElem?_map, List.getD_eq_getElem?_getD, List.getElem?_eq_getElem h]
  rfl
theorem atI_int {xs : List Int} {i : Nat} (h : i < xs.length) : atI (xs.map V.int) (i : Int) = some (.int (xs.getD i 0)) := atI_nat (at_int h)
theorem getD_mem {xs : List Int} {i : Nat} (h : i < xs.length) : xs.getD i 0 ∈ xs := by
  rw [List.getD_eq_getElem?_getD, List.getElem?_eq_getElem h]
  exact List.getElem_mem h
/-! ### zip of two tuples -/
theorem walk_zipT {K : PySem.W.Frag} {a b : Addr} {xs ys : List V} {n : Nat} (h1 : xs.length = n) (h2 : ys.length = n) : Walk (RZ.ItzT K a b) n (fun H => SqT K H a xs ∧ SqT K H b ys) (YPair (fun i => xs[i]?) (fun i => ys[i]?)) := by
  subst h1
  refine ⟨fun i _ hi q => ?_, fun _ q => ⟨xs, ys, q.1, q.2, by omega⟩, fun i H v H' _ q y => ?_⟩
  · exact ⟨xs, ys, xs[i], ys[i]'(by omega), q.1, q.2, by simp [hi], by simp [show i < ys.length by omega]⟩
  · obtain ⟨T, x, z, h1, h2, h3, h4, h5⟩ := y
    exact ⟨T, x, z, h1, h2, h3, h4 xs q.1, h5 ys q.2⟩
end Own

/-! The layer's rules with the written part named apart: their readings then hang on no context. -/
namespace Own
open PySem PySem.Spec PyProof.Rows L2 Evl
section
variable {X : Cx} {K : PySem.W.Frag}
theorem kx_list (h : X.K = K := by rfl) : IxR X (rIxL K) := by subst h; exact ix_list
theorem kx_tup (h : X.K = K := by rfl) : IxR X (rIxT K) := by subst h; exact ix_tup
theorem ksl_list (h : X.K = K := by rfl) : SlR X (rSlL K) := by subst h; exact sl_list
theorem ksl_tup (h : X.K = K := by rfl) : SlR X (rSlF K) := by subst h; exact sl_tupF
def rLenK (K : PySem.W.Frag) : List V → Hp → VK → Prop := fun xs H Q => ∃ p ys, xs = [.ref p] ∧ (SqL K H p ys ∨ SqT K H p ys) ∧ Q (.int ys.length) H
theorem kc_len (h : X.K = K := by rfl) : CallR X (.builtin "len") (rLenK K) := by subst h; exact call_len_seq
theorem kc_tuple (h : X.K = K := by rfl) : CallR X (.type "tuple") (rTupF K) := by subst h; exact call_tupF
def rListK (K : PySem.W.Frag) : List V → Hp → VK → Prop := fun xs H Q => ∃ p ys, xs = [.ref p] ∧ (SqL K H p ys ∨ SqT K H p ys) ∧ ∀ l, H l = none → Q (.ref l) (upd H l (.lst ys))
theorem kc_list (h : X.K = K := by rfl) : CallR X (.type "list") (rListK K) := by
  subst h
  intro pins s σ H xs us Q I r hh
  exact call_list_of pins s σ H xs us Q I r hh
theorem kc_isi (h : X.K = K := by rfl) : CallR X (.builtin "isinstance") (rIsi K) := by subst h; exact call_isi
theorem kc_sum (hc : X.calm = true) (h : X.K = K := by rfl) : CallR X (.builtin "sum") (rSum K) := by subst h; exact cr_sum hc
theorem kc_min (hc : X.calm = true) (h : X.K = K := by rfl) : CallR X (.builtin "min") (rMin K) := by subst h; exact cr_min hc
theorem kc_max (hc : X.calm = true) (h : X.K = K := by rfl) : CallR X (.builtin "max") (rMax K) := by subst h; exact cr_max hc
theorem ko_eq (hu : X.A.units + 64 < cLine) (h : X.K = K := by rfl) : OpR X (compareOp .Eq) (rEqD K) := by subst h; exact op_eqD hu
theorem ko_ne (hu : X.A.units + 64 < cLine) (h : X.K = K := by rfl) : OpR X (compareOp .NotEq) (rNeD K) := by subst h; exact op_neD hu
theorem ko_in (h : X.K = K := by rfl) : OpR X (compareOp .In) (rIn K false) := by subst h; exact op_in_seq
theorem ko_notIn (h : X.K = K := by rfl) : OpR X (compareOp .NotIn) (rIn K true) := by subst h; exact op_notIn_seq
theorem ko_cat (h : X.K = K := by rfl) : OpR X (binaryOp .Add) (rCatF K) := by subst h; exact op_catF
theorem ko_rep (h : X.K = K := by rfl) : OpR X (binaryOp .Mult) (rRepF K) := by subst h; exact op_repF
variable {o e : Expr} {es : List Expr} {to : TE} {t : TA} {name : Str} {apos cpos : Pos} {T id : String} {r : V → List V → Hp → VK → Prop}
theorem km_bm0 (pa : PlainAttrs T) (slot : Slot T name id) (hty : typeOf (.builtin id) = pure (.type "method_descriptor")) (hm : MtR X id r) (ho : PE X o to)
    (hbase : attributeBase o name X.env (eval o X.env) = eval o X.env := by rfl) (hline : (apos.endLine == cpos.line) = true := by rfl) (h : X.K = K := by rfl) : PE X (.Call (.Attribute o name apos) [] [] cpos) (tBM0 K T r to) := by
  subst h
  exact pe_bm0 pa slot hty hm ho hbase hline
theorem km_bm (pa : PlainAttrs T) (slot : Slot T name id) (hty : typeOf (.builtin id) = pure (.type "method_descriptor")) (hm : MtR X id r) (ho : PE X o to) (ha : PA X (e :: es) t)
    (hbase : attributeBase o name X.env (eval o X.env) = eval o X.env := by rfl)
    (hfew : ((backTo cpos (starEach (e :: es) X.env)).all (fun x => !x.1) && (backToKw cpos (keywordEach [] X.env)).all (fun x => x.1.isSome)
      && decide ((e :: es).length + ([] : List Keyword).length + (if ([] : List Keyword).isEmpty then 0 else 1) < 30)) = true := by rfl)
    (hline : (apos.endLine == cpos.line) = true := by rfl) (hs : starEach (e :: es) X.env = (false, eval e X.env) :: starEach es X.env := by rfl) (hplain : (backTo cpos (starEach es X.env)).any (·.1) = false := by rfl) (h : X.K = K := by rfl) :
    PE X (.Call (.Attribute o name apos) (e :: es) [] cpos) (tBM K T r to t) := by
  subst h
  exact pe_bm pa slot hty hm ho ha hbase hfew hline hs hplain
theorem km_count (ho : PE X o to) (ha : PA X (e :: es) t)
    (hbase : attributeBase o "count" X.env (eval o X.env) = eval o X.env := by rfl)
    (hfew : ((backTo cpos (starEach (e :: es) X.env)).all (fun x => !x.1) && (backToKw cpos (keywordEach [] X.env)).all (fun x => x.1.isSome)
      && decide ((e :: es).length + ([] : List Keyword).length + (if ([] : List Keyword).isEmpty then 0 else 1) < 30)) = true := by rfl)
    (hline : (apos.endLine == cpos.line) = true := by rfl) (hs : starEach (e :: es) X.env = (false, eval e X.env) :: starEach es X.env := by rfl) (hplain : (backTo cpos (starEach es X.env)).any (·.1) = false := by rfl) (h : X.K = K := by rfl) :
    PE X (.Call (.Attribute o "count" apos) (e :: es) [] cpos) (tTM K (rTCnt K) to t) := by
  subst h
  exact pe_tm PySem.F.plainAttrs_tuple PySem.F.slot_tuple_count PySem.F.type_tuple_count mt_tcount ho ha hbase hfew hline hs hplain
end
end Own

/-! Where draws come from, changed. -/
namespace Own
open PySem PySem.Spec PyProof.Rows L2 Evl
section
variable {N : Nat} {a l : Addr} {R H : Hp}
/-- its things -/
structure DealIs (N : Nat) (H : Hp) (a l : Addr) (cs ms : List Int) : Prop where
  ha : H a = some (.lst (.ref l :: ms.map V.int))
  hl : H l = some (.lst (cs.map V.int))
  pos : ∀ x ∈ cs, 0 ≤ x
  mn : ms.length = N
  len : cs.length ≤ 100
theorem DealIs.deal {cs ms : List Int} (d : DealIs N H a l cs ms) (n : a ≠ l) : Deal N H a l := ⟨n, cs, ms, d.ha, d.hl, d.pos, d.mn, d.len⟩
theorem Deal.is (d : Deal N H a l) : ∃ cs ms, DealIs N H a l cs ms := by
  obtain ⟨_, cs, ms, h1, h2, h3, h4, h5⟩ := d
  exact ⟨cs, ms, h1, h2, h3, h4, h5⟩
theorem DealIs.ex {cs ms : List Int} {H1 : Hp} (d : DealIs N H a l cs ms) (e : Ex H H1) : DealIs N H1 a l cs ms := ⟨e _ _ d.ha, e _ _ d.hl, d.pos, d.mn, d.len⟩
/-- the known heap, the deal at a and l as said -/
structure Wd (N : Nat) (a l : Addr) (R H : Hp) (cs ms : List Int) : Prop where
  ex : Ex R H
  na : R a = none
  nl : R l = none
  ne : a ≠ l
  is : DealIs N H a l cs ms
theorem Wd.wl {cs ms : List Int} (w : Wd N a l R H cs ms) : Wl N a l R H := ⟨w.ex, w.na, w.nl, w.is.deal w.ne⟩
theorem Wl.wd (w : Wl N a l R H) : ∃ cs ms, Wd N a l R H cs ms := by
  obtain ⟨cs, ms, d⟩ := w.deal.is
  exact ⟨cs, ms, w.ex, w.na, w.nl, w.deal.ne, d⟩
theorem Wd.keep {cs ms : List Int} {H1 : Hp} (w : Wd N a l R H cs ms) (e : Ex H H1) : Wd N a l R H1 cs ms := ⟨w.ex.trans e, w.na, w.nl, w.ne, w.is.ex e⟩
theorem ex_side {R H : Hp} {p : Addr} {o : HO} (e : Ex R H) (n : R p = none) : Ex R (upd H p o) := fun b u h => by
  have : b ≠ p := fun z => by
    rw [z, n] at h
    cases h
  rw [upd_ne this]
  exact e b u h
theorem Wd.cells {cs ds ms : List Int} (w : Wd N a l R H cs ms) (hp : ∀ x ∈ ds, 0 ≤ x) (hz : ds.length ≤ 100) : Wd N a l R (upd H l (.lst (ds.map V.int))) ds ms :=
  ⟨ex_side w.ex w.nl, w.na, w.nl, w.ne, by rw [upd_ne w.ne]; exact w.is.ha, upd_same, hp, w.is.mn, hz⟩
theorem Wd.nums {cs ms ms' : List Int} (w : Wd N a l R H cs ms) (h : ms'.length = N) : Wd N a l R (upd H a (.lst (.ref l :: ms'.map V.int))) cs ms' :=
  ⟨ex_side w.ex w.na, w.na, w.nl, w.ne, upd_same, by rw [upd_ne w.ne.symm]; exact w.is.hl, w.is.pos, h, w.is.len⟩
/-- the deal as it is made -/
def spDeal (N : Nat) (K : PySem.W.Frag) : Sp := fun vs H Q _ => ∃ (a : Addr) (ns : List Int) (salt : Int), vs = [.ref a, .int salt] ∧ SqL K H a (ns.map V.int) ∧ 0 ≤ salt ∧ salt ≤ 1000 ∧ ∀ (d l : Addr) (H' : Hp), Wl N d l H H' → Q (.ref d) H'
end
theorem cut_ints (ns : List Int) (lo hi : Option Int) : ∃ ms : List Int, cutV (ns.map V.int) lo hi = ms.map V.int ∧ ms.length ≤ ns.length := by
  refine ⟨(ns.drop (HT.sIx (ns.map V.int).length 0 lo)).take (HT.sIx (ns.map V.int).length (ns.map V.int).length hi - HT.sIx (ns.map V.int).length 0 lo), ?_, ?_⟩
  · unfold cutV
    rw [List.map_take, List.map_drop]
  · rw [List.length_take, List.length_drop]
    omega
theorem cut_len63 (ns : List Int) : (cutV (ns.map V.int) none (some 63)).length ≤ 63 := by
  unfold cutV
  rw [List.length_take]
  have : HT.sIx (ns.map V.int).length (ns.map V.int).length (some (63 : Int)) ≤ 63 := by
    rw [show (63 : Int) = ((63 : Nat) : Int) from rfl, HT.sIx_nat]
    exact Nat.min_le_left _ _
  omega
/-- the ints that a condition leaves -/
theorem given_ints (n : Nat) (f : Nat → Bool) (g : Nat → Int) : given n f (fun i => V.int (g i)) = (((List.range n).filter f).map g).map V.int := by
  unfold given
  rw [List.map_map]
  rfl
theorem while_split {c : TT} {tb : TS} {D : Ends} {σ : L2.St} {H : Hp} (W : Nat → L2.St → Hp → Prop) (End : L2.St → Hp → Prop) (h0 : ∃ m, W m σ H) (after : ∀ σ H, End σ H → D.nx σ H)
    (turn : ∀ (nx : L2.St → Hp → Prop), (∀ σ H, End σ H → nx σ H) → ∀ m σ H, W m σ H → c σ H fun b H1 => if b = true then ∃ N : L2.St → Hp → Prop, (∀ σ' H', N σ' H' → ∃ m', m' < m ∧ W m' σ' H') ∧ tb { D with nx := N, ct := N, bk := D.nx } σ H1 else nx σ H1) :
    tWhile c tb D σ H := ⟨W, h0, fun m σ H w => turn D.nx after m σ H w⟩
theorem sh_ints (cs : List Int) : SeqAt.shaped (.list (cs.map PyData.int)) = true := PySem.W.ke_shaped_ints cs
theorem ne_nil {K : PySem.W.Frag} {H : Hp} {l z : Addr} {cs : List Int} {Q : VK} (hl : H l = some (.lst (cs.map V.int))) (hz : H z = some (.lst [])) (q : Q (.bl (!cs.isEmpty)) H) : rNeD K (.ref l) (.ref z) H Q :=
  ⟨.list (cs.map PyData.int), .list [], .lst (sq_of hl) (dp_ints cs), .lst (sq_of hz) .nil, sh_ints cs, rfl, by rw [eqv_ints_nil]; exact q⟩
theorem at_last (ds : List Int) (x : Int) : atI ((ds ++ [x]).map V.int) (-1) = some (.int x) := by
  unfold atI ixN
  rw [if_neg (by decide), List.length_map, List.length_append, if_pos (by rw [List.length_singleton]; omega)]
  show ((ds ++ [x]).map V.int)[(-1 + ((ds.length + [x].length : Nat) : Int)).toNat]? = _
  rw [show (-1 + ((ds.length + [x].length : Nat) : Int)).toNat = ds.length by rw [List.length_singleton]; omega, List.getElem?_map, List.getElem?_append_right (Nat.le_refl _), Nat.sub_self]
  rfl
theorem pop_last (ds : List Int) (x : Int) : ((ds ++ [x]).map V.int)[((ds ++ [x]).map V.int).length - 1]? = some (.int x) ∧ ((ds ++ [x]).map V.int).dropLast = ds.map V.int := by
  constructor
  · rw [List.length_map, List.length_append, List.length_singleton, Nat.add_sub_cancel, List.getElem?_map, List.getElem?_append_right (Nat.le_refl _), Nat.sub_self]
    rfl
  · rw [List.map_append]
    exact List.dropLast_concat
theorem cases_last (cs : List Int) : cs = [] ∨ ∃ ds x, cs = ds ++ [x] := by
  rcases List.eq_nil_or_concat cs with h | ⟨ds, x, h⟩
  · exact .inl h
  · exact .inr ⟨ds, x, by rw [h, List.concat_eq_append]⟩
theorem not_empty (ds : List Int) (x : Int) : (!(ds ++ [x]).isEmpty) = true := by
  cases ds <;> rfl
/-- recursion of a def: what it promises at a depth; at none nothing -/
def spSameR (K : PySem.W.Frag) : Nat → Sp
  | 0 => fun _ _ _ _ => False
  | n + 1 => spSame K n
end Own

/-! What is known and where draws come from, with tuples beside; texts of one figure many times. -/
namespace Own
open PySem PySem.Spec PyProof.Rows L2 Evl
section
variable {N : Nat} {a l p : Addr} {R R1 H H1 : Hp} {K : PySem.W.Frag} {xs : List V} {Q : VK}
/-- less is known -/
theorem Wl.weak (w : Wl N a l R1 H) (e : Ex R R1) : Wl N a l R H := ⟨e.trans w.ex, fresh_back e w.na, fresh_back e w.nl, w.deal⟩
theorem Tp.ne (h : Tp K H p xs) (w : Deal N H a l) : (p ≠ a ∧ p ≠ l) ∨ ∀ H', Tp K H' p xs := by
  rcases h with ⟨o, h1, h2⟩ | h
  · obtain ⟨_, cs, ms, g1, g2, _⟩ := w
    refine .inl ⟨fun e => ?_, fun e => ?_⟩
    · subst e
      rw [h2] at g1
      cases g1
    · subst e
      rw [h2] at g2
      cases g2
  · exact .inr fun _ => .inr h
/-- a tuple that came beside is known from then on -/
theorem Wl.tp (w : Wl N a l R H) (e : Ex H H1) (h : Tp K H1 p xs) : ∃ R1, Ex R R1 ∧ Wl N a l R1 H1 ∧ Tp K R1 p xs := by
  obtain ⟨R1, e1, w1, m⟩ := w.more e
  refine ⟨R1, e1, w1, ?_⟩
  rcases h.ne w1.deal with ⟨n1, n2⟩ | h'
  · rcases h with ⟨o, h1, h2⟩ | h
    · exact .inl ⟨o, h1, m _ _ n1 n2 h2⟩
    · exact .inr h
  · exact h' _
/-- a new tuple, and what was known stays -/
def RetW (N : Nat) (K : PySem.W.Frag) (a l : Addr) (R : Hp) (xs : List V) (Q : VK) : Prop := ∀ p R1 H1, Ex R R1 → Wl N a l R1 H1 → Tp K R1 p xs → Q (.ref p) H1
theorem RetW.ret (k : RetW N K a l R xs Q) (w : Wl N a l R H) : RetU K xs H Q := fun p H2 e h => by
  obtain ⟨R1, e1, w1, t⟩ := w.tp e h
  exact k p R1 H2 e1 w1 t
theorem RetW.more (k : RetW N K a l R xs Q) (e : Ex R R1) : RetW N K a l R1 xs Q := fun p R2 H2 e2 w t => k p R2 H2 (e.trans e2) w t
end
/-! ### (x,) * n and t + u, with what they give -/
theorem rep_flat {α : Type} (n : Nat) (x : α) : (List.replicate n [x]).flatten = List.replicate n x := by
  induction n with
  | zero => rfl
  | succ n ih => rw [List.replicate_succ, List.flatten_cons, ih]; rfl
theorem rep_one {K : PySem.W.Frag} {x : V} {n : Int} {H : Hp} {Q : VK} (h0 : -1000 ≤ n) (h1 : n ≤ 1000) (k : RetU K (List.replicate n.toNat x) H Q) : NewT [x] H (fun v H1 => rRepF K v (.int n) H1 Q) := by
  intro p o hp ho
  refine ⟨p, n, [x], rfl, rfl, (Tp.of ho upd_same).sq, h0, h1, by show 1 ≤ 1000; omega, fun e => ?_, fun _ e => ?_⟩
  · rcases e with e | rfl
    · cases e
    · exact k p _ (Ex.new hp) (Tp.of ho upd_same)
  · rw [rep_flat]
    exact k.new (Ex.new hp)
theorem cat_ret {K : PySem.W.Frag} {a b : Addr} {xs ys : List V} {H H0 : Hp} {Q : VK} (ha : Tp K H a xs) (hb : Tp K H b ys) (hz : xs.length + ys.length ≤ sizeLine) (e : Ex H0 H) (k : RetU K (xs ++ ys) H0 Q) : rCatF K (.ref a) (.ref b) H Q :=
  ⟨a, b, xs, ys, rfl, rfl, ha.sq, hb.sq, hz, fun h => by
    subst h
    exact k b H e hb, fun _ h => by
    subst h
    rw [List.append_nil] at k
    exact k a H e ha, fun _ _ => k.new e⟩
/-! ### a figure many times -/
theorem rep_arr (a : Array Nat) : ∀ (n : Nat) (acc : Array Nat), ((List.replicate n a).foldl (· ++ ·) acc).toList = acc.toList ++ (List.replicate n a.toList).flatten
  | 0, acc => by simp
  | n + 1, acc => by
    rw [List.replicate_succ, List.foldl_cons, rep_arr a n, List.replicate_succ, List.flatten_cons, Array.toList_append, List.append_assoc]
theorem repS_list (a : Str) (n : Nat) : (repS a n).cps.toList = (List.replicate n a.cps.toList).flatten := by
  have := rep_arr a.cps n #[]
  exact this
theorem fig_int {a : Str} {c n : Nat} (ha : a.cps.toList = [c]) (h0 : 48 ≤ c) (h1 : c ≤ 57) (hn : 0 < n) (hz : n ≤ 4300) : ∃ z : Int, PySem.intText? (repS a n) = some z ∧ (repS a n).length ≤ 4300 ∧ (numSeenOf (repS a n)).length = (repS a n).length := by
  have e : (repS a n).cps.toList = List.replicate n c := by rw [repS_list, ha, rep_flat]
  have el : (repS a n).length = n := by
    have := congrArg List.length e
    rw [List.length_replicate] at this
    exact this
  have hd : ∀ x ∈ (repS a n).cps.toList, x = c := fun x hx => by
    rw [e] at hx
    exact List.eq_of_mem_replicate hx
  refine ⟨_, intText_digits ?_ ?_ (by omega), by omega, ?_⟩
  · intro x hx
    rw [hd x hx]
    exact ⟨h0, h1⟩
  · rw [e]
    intro h
    have := congrArg List.length h
    rw [List.length_replicate] at this
    simp at this
    omega
  · rw [(numText_signs (x := repS a n) fun x hx => .inr (by rw [hd x hx]; exact ⟨h0, h1⟩)).2]
    rfl
end Own

/-! range(n) as a list; tuples that a comprehension makes; plain laws of rows. -/
namespace Own
open PySem PySem.Spec PyProof.Rows L2 Evl
theorem newL {H : Hp} {xs : List V} {Q : VK} (k : ∀ m H1, Ex H H1 → H m = none → H1 m = some (.lst xs) → Q (.ref m) H1) : ∀ m, H m = none → Q (.ref m) (upd H m (.lst xs)) := fun m hm => k m _ (Ex.new hm) hm upd_same
theorem rg_len (n : Nat) : (rgV 0 (n : Int)).length = n := by
  rw [rgV_length]
  omega
theorem rg_at {n i : Nat} {x : V} (h : (rgV 0 (n : Int))[i]? = some x) : x = .int (i : Int) ∧ i < n := by
  unfold rgV at h
  rw [List.getElem?_map] at h
  by_cases hi : i < ((n : Int) - 0).toNat
  · rw [List.getElem?_range hi] at h
    have := Option.some.inj h
    refine ⟨?_, by omega⟩
    rw [← this]
    exact congrArg V.int (by omega)
  · rw [List.getElem?_eq_none (by rw [List.length_range]; omega)] at h
    cases h
theorem rg_ok {n : Nat} (h : n ≤ 10000) : RgOk 0 (n : Int) := RgOk.of_le (by decide) (by omega) (by decide) (by omega)
/-- ints made from ints, place by place -/
theorem range_of {n : Nat} (f : Nat → Int) {ys : List Int} (h1 : ys.length = n) (h : ∀ i, i < n → f i = ys.getD i 0) : (List.range n).map (fun i => V.int (f i)) = ys.map V.int := by
  subst h1
  rw [← range_map 0 V.int ys]
  apply List.map_congr_left
  intro i hi
  rw [h i (List.mem_range.mp hi)]
theorem getD_zip {f : Int → Int → Int} {xs ys : List Int} {i : Nat} (h1 : i < xs.length) (h2 : i < ys.length) : (List.zipWith f xs ys).getD i 0 = f (xs.getD i 0) (ys.getD i 0) := by
  simp only [List.getD_eq_getElem?_getD, List.getElem?_zipWith, List.getElem?_eq_getElem h1, List.getElem?_eq_getElem h2]
  rfl
theorem getD_map {f : Int → Int} {xs : List Int} {i : Nat} (h1 : i < xs.length) : (xs.map f).getD i 0 = f (xs.getD i 0) := by
  simp only [List.getD_eq_getElem?_getD, List.getElem?_map, List.getElem?_eq_getElem h1]
  rfl
theorem less_is (x y q : Int) : (x + 2 * q - y) % q = (x - y) % q := by
  rw [show x + 2 * q - y = (x - y) + q * 2 by omega, Int.add_mul_emod_self_left]
theorem turned_is (y q : Int) : (q - y) % q = y * (-1 % q) % q := by
  have h : y * (-1 % q) % q = y * -1 % q := by
    rw [Int.mul_emod y (-1 % q) q, Int.emod_emod_of_dvd _ (Int.dvd_refl q), ← Int.mul_emod]
  rw [h, show q - y = y * -1 + q * 1 by omega, Int.add_mul_emod_self_left]
end Own
namespace Own
open PySem PySem.Spec PyProof.Rows L2 Evl
theorem given_congr {n : Nat} {f g : Nat → Bool} {v : Nat → V} (h : ∀ i, i < n → f i = g i) : given n f v = given n g v := by
  unfold given
  rw [List.filter_congr fun i hi => h i (List.mem_range.mp hi)]
theorem range_getD (xs : List Int) : (List.range xs.length).map (fun i => xs.getD i 0) = xs := by
  have := range_map (0 : Int) (id : Int → Int) xs
  rw [List.map_id] at this
  exact this
theorem given_count (xs : List Int) (p : Int → Bool) (v : Nat → V) : (given xs.length (fun i => p (xs.getD i 0)) v).length = xs.countP p := by
  unfold given
  rw [List.length_map, ← List.countP_eq_length_filter]
  conv => rhs; rw [← range_getD xs, List.countP_map]
  rfl
theorem given_weight (xs : List Int) (v : Nat → V) : ((given xs.length (fun i => decide (xs.getD i 0 ≠ 0)) v).length : Int) = (xs.length : Int) - (xs.count 0 : Nat) := by
  rw [given_count xs (fun x => decide (x ≠ 0)) v]
  have h1 := List.length_eq_countP_add_countP (fun x : Int => x == 0) (l := xs)
  have h2 : xs.count 0 = xs.countP (fun x => x == 0) := rfl
  have h3 : xs.countP (fun x => decide (x ≠ 0)) = xs.countP (fun a => decide ¬ (a == 0) = true) := by
    apply List.countP_congr
    intro x _
    simp
  omega
end Own

/-! Calls that may raise, by name; a figure many times, its worth. -/
namespace Own
open PySem PySem.Spec PyProof.Rows L2 Evl
section
variable {X : Cx} {CX : CXT} {k : Nat} {ps ks : List Str} {sp : Sp} {E : L2.St → XK} {x : Str} {st : Stmt} {p pos : Pos} {e : Expr} {es : List Expr} {t tk : TA}
theorem pe_callSF (F : Fn X.prog X.w X.K X.mg X.base CX k x st ps sp) (hr : Room k X.A) (hg : Gl X x) (hx : ∀ σ, PassesAt CX X σ (E σ)) (ha : PA X (e :: es) t) (hdb : (x == ("__debug__" : Str)) = false := by decide)
    (he : starEach (e :: es) X.env = (false, eval e X.env) :: starEach es X.env := by rfl) (hpl : (backTo pos (starEach es X.env)).any (·.1) = false := by rfl) :
    PE X (.Call (.Name x p) (e :: es) [] pos) (tCallS sp E t) := by
  obtain ⟨f, fd, h1, h2, h3, h4⟩ := F
  exact pe_callS h4 hr hg h1 h2.kp h3 hx ha hdb he hpl
end
theorem fig_val {a : Str} {c n : Nat} (ha : a.cps.toList = [c]) (h0 : 48 ≤ c) (h1 : c ≤ 57) (hn : 0 < n) (hz : n ≤ 4300) : PySem.intText? (repS a n) = some ((NumText.digitsVal (List.replicate n c) : Nat) : Int) ∧ (repS a n).length ≤ 4300 ∧ (numSeenOf (repS a n)).length = (repS a n).length := by
  have e : (repS a n).cps.toList = List.replicate n c := by rw [repS_list, ha, rep_flat]
  obtain ⟨z, z1, z2, z3⟩ := fig_int ha h0 h1 hn hz
  refine ⟨?_, z2, z3⟩
  rw [← e]
  refine intText_digits ?_ ?_ z2
  · intro x hx
    rw [e] at hx
    rw [List.eq_of_mem_replicate hx]
    exact ⟨h0, h1⟩
  · rw [e]
    intro h
    have := congrArg List.length h
    rw [List.length_replicate] at this
    simp at this
    omega
theorem fold_le : ∀ (l : List Nat) (acc : Nat), acc ≤ l.foldl (fun acc c => acc * 10 + (c - 48)) acc
  | [], _ => Nat.le_refl _
  | c :: r, acc => Nat.le_trans (by omega) (fold_le r (acc * 10 + (c - 48)))
theorem threes (n : Nat) : 3333 ≤ NumText.digitsVal (List.replicate (n + 4) 51) := fold_le (List.replicate n 51) 3333
theorem fig_three {n : Nat} (h : 4 ≤ n) (hz : n ≤ 4300) : ∃ z : Int, 3333 ≤ z ∧ PySem.intText? (repS "3" n) = some z ∧ (repS "3" n).length ≤ 4300 ∧ (numSeenOf (repS "3" n)).length = (repS "3" n).length := by
  obtain ⟨m, rfl⟩ : ∃ m, n = m + 4 := ⟨n - 4, by omega⟩
  obtain ⟨i1, i2, i3⟩ := fig_val (a := "3") (c := 51) (n := m + 4) (by decide +kernel) (by decide) (by decide) (by omega) hz
  exact ⟨_, Int.ofNat_le.mpr (threes m), i1, i2, i3⟩
end Own

namespace Own
open PySem PySem.Spec PyProof.Rows L2 Evl
section
variable {N : Nat} {K : PySem.W.Frag} {H R : Hp} {Q : VK} {a l p : Addr} {xs : List V}
theorem rep_id {α : Type} (xs : List α) : (List.replicate 1 xs).flatten = xs := by simp
theorem rep_nil {α : Type} (n : Nat) : (List.replicate n ([] : List α)).flatten = [] := by
  induction n with
  | zero => rfl
  | succ n ih => rw [List.replicate_succ, List.flatten_cons, ih]; rfl
theorem rep_ret {k : Int} (h : Tp K H l xs) (h0 : -1000 ≤ k) (h1 : k ≤ 1000) (hz : xs.length ≤ 1000) (q : RetU K (List.replicate k.toNat xs).flatten H Q) : rRepF K (.ref l) (.int k) H Q :=
  ⟨l, k, xs, rfl, rfl, h.sq, h0, h1, hz, fun e => by
    rcases e with rfl | rfl
    · rw [rep_nil] at q
      exact q l H (Ex.refl _) h
    · rw [show (1 : Int).toNat = 1 from rfl, rep_id] at q
      exact q l H (Ex.refl _) h, fun _ _ => q.new (Ex.refl _)⟩
theorem sl_ret {lo hi : Option Int} (h : Tp K H l xs) (q : RetU K (cutV xs lo hi) H Q) : rSlF K (.ref l) lo hi H Q :=
  ⟨l, xs, rfl, h.sq, fun e => by
    have : cutV xs lo hi = xs := by
      unfold cutV
      rw [e.1, e.2, List.drop_zero, Nat.sub_zero, List.take_length]
    rw [this] at q
    exact q l H (Ex.refl _) h, fun _ => q.new (Ex.refl _)⟩
theorem cut_from1 (xs : List V) : cutV xs (some 1) none = xs.drop 1 := by
  unfold cutV
  rw [show (1 : Int) = ((1 : Nat) : Int) from rfl, HT.sIx_nat, HT.sIx_none]
  cases xs with
  | nil => rfl
  | cons x r =>
    rw [show min 1 (x :: r).length = 1 by simp, List.take_of_length_le (by rw [List.length_drop]; omega)]
theorem Deal.off (d : Deal N H a l) (h : H p = none) : p ≠ a ∧ p ≠ l := ⟨fun e => d.dom.1 (e ▸ h), fun e => d.dom.2 (e ▸ h)⟩
theorem Tp.mut {wr : Addr} {ys zs : List V} (h : Tp K R p xs) (hw : R wr = some (.lst ys)) : Tp K (upd R wr (.lst zs)) p xs := by
  rcases h with ⟨o, h1, h2⟩ | h
  · have : p ≠ wr := fun e => by
      rw [e, hw] at h2
      cases h2
    exact .inl ⟨o, h1, by rw [upd_ne this]; exact h2⟩
  · exact .inr h
/-- kinds, when a list is changed -/
theorem Vk.mut {wr : Addr} {ys zs : List V} {v : V} {T : String} (h : Vk K R v T) (hw : R wr = some (.lst ys)) : Vk K (upd R wr (.lst zs)) v T := by
  cases h with
  | non => exact .non
  | bl b => exact .bl b
  | int i => exact .int i
  | str z => exact .str z
  | tup h => exact .tup (h.mut hw)
  | lst h =>
    rename_i p xs
    by_cases e : p = wr
    · subst e
      exact .lst upd_same
    · exact .lst (by rw [upd_ne e]; exact h)
theorem least : ∀ ps : List Int, ps ≠ [] → ∃ m, m ∈ ps ∧ ∀ y, y ∈ ps → m ≤ y
  | [], h => (h rfl).elim
  | [x], _ => ⟨x, by simp, fun y hy => by rw [List.mem_singleton.mp hy]; exact Int.le_refl _⟩
  | x :: z :: r, _ => by
    obtain ⟨m, h1, h2⟩ := least (z :: r) (by simp)
    by_cases c : x ≤ m
    · refine ⟨x, by simp, fun y hy => ?_⟩
      rcases List.mem_cons.mp hy with rfl | h
      · exact Int.le_refl _
      · exact Int.le_trans c (h2 y h)
    · refine ⟨m, List.mem_cons_of_mem _ h1, fun y hy => ?_⟩
      rcases List.mem_cons.mp hy with rfl | h
      · omega
      · exact h2 y h
theorem eqv_tup_nil (ns : List Int) : PyData.eqv (.tuple (ns.map PyData.int)) (.tuple []) = ns.isEmpty := by
  cases ns <;> rfl
theorem sh_tup_ints (ns : List Int) : SeqAt.shaped (.tuple (ns.map PyData.int)) = true := by
  simp [SeqAt.shaped, PyData.canLay0, PyData.depth, PySem.W.ke_canLayAll0, PySem.W.ke_depthAll]
theorem tp_known (h : Tp K H p xs) (d : Deal N H a l) (known : ∀ b o, b ≠ a → b ≠ l → H b = some o → R b = some o) : Tp K R p xs := by
  rcases h.ne d with ⟨n1, n2⟩ | h'
  · rcases h with ⟨o, h1, h2⟩ | h
    · exact .inl ⟨o, h1, known _ _ n1 n2 h2⟩
    · exact .inr h
  · exact h' _
theorem if_skip {c : TT} {t : TS} {D : Ends} {σ : L2.St} (J : Hp → Prop) (after : ∀ H', J H' → D.nx σ H') (h : ∀ nx : Hp → Prop, (∀ H', J H' → nx H') → c σ H fun b H1 => if b = true then t D σ H1 else nx H1) : tIfS c t tNext D σ H := h _ after
theorem if_join {c : TT} {t : TS} {D : Ends} {σ : L2.St} (J : L2.St → Hp → Prop) (after : ∀ σ' H', J σ' H' → D.nx σ' H') (h : ∀ nx : L2.St → Hp → Prop, (∀ σ' H', J σ' H' → nx σ' H') → c σ H fun b H1 => if b = true then t { D with nx := nx } σ H1 else nx σ H1) : tIfS c t tNext D σ H := h _ after
theorem asg_join {te : TE} {i : Nat} {D : Ends} {σ : L2.St} (J : V → Hp → Prop) (after : ∀ v H', J v H' → D.nx (σ.set i (some v)) H') (h : ∀ Qk : VK, (∀ v H', J v H' → Qk v H') → te σ H Qk) : tAsg te (gName i) D σ H := h _ after
/-- both branches written -/
theorem if_both {c : TT} {t u : TS} {D : Ends} {σ : L2.St} (J : L2.St → Hp → Prop) (after : ∀ σ' H', J σ' H' → D.nx σ' H') (h : ∀ nx : L2.St → Hp → Prop, (∀ σ' H', J σ' H' → nx σ' H') → c σ H fun b H1 => if b = true then t { D with nx := nx } σ H1 else u { D with nx := nx } σ H1) : tIfS c t u D σ H := h _ after
end
end Own

/-! The head's facts, with the statics beside, and one's own exceptions. -/
namespace Own
open PySem PySem.Spec PyProof.Rows L2
open He (ga ma fAd eqO eqO_ok ba)
abbrev ExW : Type := Option (Str × Str × Arguments × FuncBody × Scope × Addr × List Str × Addr)
def exW (K : PySem.W.Frag) (x : Str) : ExW := match K.lookup (ma K (ga K x) "__init__") with
  | some ⟨_, _, .func fd, _⟩ => some (fd.name, fd.qualname, fd.params, fd.body, fd.scope, fd.globals, fd.closure.map (·.1), fd.builtins)
  | _ => none
/-- an own exception: its name, its base's name, its field, its __init__ -/
structure ExD where
  name : Str
  base : Str
  field : Str
  qual : Str
  params : Arguments
  body : List Stmt
  scope : Scope
def ExD.val (e : ExD) : ExW := some ("__init__", e.qual, e.params, .stmts e.body, e.scope, mainGlobals, ["__class__"], builtinsNs)
/-- a class one above another, both errors -/
def clsB (K : PySem.W.Frag) (C M : Addr) : Bool := match K.lookup C with
  | some ⟨.type "type", _, .cls cd, sl⟩ => (match sl.toList with
    | [_, _, _, _, some (.builtin n), _] => decide (cd.mro = .ref C :: .ref M :: PySem.OwX.exT) && decide (n = "Exception.__new__") && cd.hasDict && !cd.hasDel
    | _ => false)
  | _ => false
theorem clsB_ok {K : PySem.W.Frag} {C M : Addr} (h : clsB K C M = true) : ∃ nm q N bs sn sub ab col dd k0 k1 k2 k3 k5, K.lookup C = some (excClassObj nm q C N bs (.ref M :: PySem.OwX.exT) true sn sub ab col dd k0 k1 k2 k3 k5 "Exception.__new__") := by
  unfold clsB at h
  split at h
  · rename_i dd cd sl ho
    split at h
    · rename_i k0 k1 k2 k3 n k5 hs
      simp only [Bool.and_eq_true, decide_eq_true_eq, Bool.not_eq_true'] at h
      obtain ⟨⟨⟨hm, rfl⟩, hd⟩, hdel⟩ := h
      obtain ⟨nm, bs, mro, ns, qn, hdd, sn, sub, ab, col, del⟩ := cd
      dsimp only at hm hd hdel
      subst hm hd hdel
      have hsl : sl = #[k0, k1, k2, k3, some (.builtin "Exception.__new__"), k5] := by
        obtain ⟨l⟩ := sl
        simp only at hs
        rw [hs]
      subst hsl
      exact ⟨nm, qn, ns, bs, sn, sub, ab, col, dd, k0, k1, k2, k3, k5, ho⟩
    · cases h
  · cases h
/-- its __init__'s code, its cell -/
def initB (K : PySem.W.Frag) (file qual : Str) (C fI : Addr) : Bool := match K.lookup fI with
  | some ⟨_, _, .func fd, _⟩ => (match fd.defaults, fd.kwdefaults, fd.code, fd.closure with
    | .none, .none, .ref cda, [(_, cc)] => PySem.W.codeIn K (.ref cda) qual && (match K.lookup cda with
      | some ⟨_, _, .fields vs, _⟩ => (match (vs[2]? : Option Value) with
        | some (.str z _) => decide (z = file)
        | _ => false)
      | _ => false) && (match K.lookup cc with
      | some ⟨_, _, .cell (some (.ref D)), _⟩ => decide (D = C)
      | _ => false)
    | _, _, _, _ => false)
  | _ => false
theorem initB_ok {K : PySem.W.Frag} {file : Str} {C : Addr} {x : Str} {e : ExD} (h : initB K file e.qual C (ma K (ga K x) "__init__") = true) (w : exW K x = e.val) :
    ∃ (oc : Value) (od : Option Addr) (doc pm : Value) (an : Option Addr) (cda cc : Addr) (ct : Value) (osl : Array (Option Value)) (ccl cl : Value) (cdd cld : Option Addr) (ccs csl : Array (Option Value)) (vs : Array Value) (tf : Tok),
      K.lookup (ma K (ga K x) "__init__") = some ⟨oc, od, .func (PySem.W.ksFn "__init__" e.qual e.params e.body e.scope .none .none doc pm an (.ref cda) ct cc), osl⟩ ∧ PySem.W.codeIn K (.ref cda) e.qual = true ∧
        K.lookup cda = some ⟨ccl, cdd, .fields vs, ccs⟩ ∧ vs[2]? = some (.str file tf) ∧ K.lookup cc = some ⟨cl, cld, .cell (some (.ref C)), csl⟩ := by
  unfold initB at h
  unfold exW at w
  split at h
  · rename_i oc od fd osl ho
    rw [ho] at w
    have w2 : (some (fd.name, fd.qualname, fd.params, fd.body, fd.scope, fd.globals, fd.closure.map (·.1), fd.builtins) : ExW) = e.val := w
    obtain ⟨n1, n2, n3, n4, n5, n6, n7, n8, n9, n10, n11, n12, n13, n14, n15⟩ := fd
    dsimp only at h w2
    split at h
    · rename_i cda q cc
      rename_i e1 e2 e3 e4
      unfold ExD.val at w2
      simp only [Option.some.injEq, Prod.mk.injEq, List.map_cons, List.map_nil, List.cons.injEq, and_true] at w2
      obtain ⟨rfl, rfl, rfl, rfl, rfl, rfl, rfl, rfl⟩ := w2
      simp only [Bool.and_eq_true] at h
      obtain ⟨⟨h1, h2⟩, h3⟩ := h
      split at h2
      · rename_i ccl cdd vs ccs hc
        split at h2
        · rename_i z tf hz
          obtain rfl := of_decide_eq_true h2
          split at h3
          · rename_i cl cld D csl hcc
            obtain rfl := of_decide_eq_true h3
            exact ⟨oc, od, _, _, _, cda, cc, _, osl, ccl, cl, cdd, cld, ccs, csl, vs, tf, ho, h1, hc, hz, hcc⟩
          · cases h3
        · cases h2
      · cases h2
    · cases h
  · cases h
end Own

/-! .. the Hook, what it says. -/
namespace Own
open PySem PySem.Spec PyProof.Rows L2
open He (ga ma fAd eqO eqO_ok ba)
def ExD.ok (file : Str) (K : PySem.W.Frag) (e : ExD) : Bool :=
  clsB K (ga K e.name) (ga K e.base) && (initB K file e.qual (ga K e.name) (ma K (ga K e.name) "__init__") && (eqO (PySem.W.findIn K (.ref (ga K e.name)) "__setattr__") (some (some (.builtin "object.__setattr__"))) &&
  (eqO (PySem.W.findIn K (.ref (ga K e.name)) "__getattribute__") (some (some (.builtin "BaseException.__getattribute__"))) && (eqO (PySem.W.findIn K (.ref (ga K e.name)) "__getattr__") (some none) &&
  (eqO (PySem.W.findIn K (.ref (ga K e.name)) e.field) (some none) && (eqO (PySem.W.findIn K (.ref (ga K e.name)) "__init__") (some (some (.ref (ma K (ga K e.name) "__init__")))) &&
  (decide (PySem.W.typeIn K (.ref (ma K (ga K e.name) "__init__")) = some (.type "function")) && (PySem.W.keepIn K (.ref (ga K e.name)) && (decide (PySem.W.subIn K (.ref (ga K e.name)) (.type "BaseException") = some true) &&
  (decide (PySem.W.subIn K (.ref (ga K e.name)) (.type "Exception") = some true) && (decide (PySem.W.typeIn K (.ref (ga K e.name)) = some (.type "type")) && (PySem.W.hasDictIn K (ga K e.name) &&
  (decide (PySem.W.exmOne K (.ref (ga K e.name)) (.ref (ga K e.name)) = some true) && (eqO (PySem.W.alongIn K "__init__" (.ref (ga K e.base) :: PySem.OwX.exT)) (some (some (.builtin "Exception.__init__"))) &&
  eqO (PySem.W.nsIn K mainGlobals "super") (some none)))))))))))))))
def statB (K : PySem.W.Frag) : Bool := eqO (PySem.W.nsIn K cStatics "sys.int_max_str_digits") (some none) && eqO (PySem.W.nsIn K cStatics "thirdparty.any") (some none)
abbrev AlE : Type := He.AlD × Bool × List ExW
def obsE (file : Str) (fa : List He.Fa) (fn : List He.DefD) (ex : List ExD) (K : PySem.W.Frag) : AlE := (He.obsD fa fn K, statB K && ex.all (fun e => e.ok file K), ex.map fun e => exW K e.name)
def valE (fn : List He.DefD) (ex : List ExD) : AlE := (He.valD fn, true, ex.map ExD.val)
def SaysE (file : Str) (fa : List He.Fa) (fn : List He.DefD) (ex : List ExD) (K : PySem.W.Frag) : Prop := obsE file fa fn ex K = valE fn ex
def obsEG (file : Str) (n : Nat) (fa : List He.Fa) (fn : List He.DefD) (ex : List ExD) (g : Addr → Option Obj) : AlE := obsE file fa fn ex (He.frG g (cStatics :: He.asD g n))
def hookE (file : Str) (n : Nat) (fa : List He.Fa) (fn : List He.DefD) (ex : List ExD) : PySem.W.Hook where
  α := AlE
  obs := fun s => obsEG file n fa fn ex s.heap.get?
  val := fun _ => valE fn ex
  says := fun _ h => ∃ K : PySem.W.Frag, K.In h ∧ SaysE file fa fn ex K
  of := fun _ _ e => ⟨_, He.frG_in, e⟩
  keeps := fun _ _ _ ⟨K, hK, c⟩ k => ⟨K, PySem.W.Frag.In.keeps hK k, c⟩
theorem obsEG_eq {file : Str} {n : Nat} {fa : List He.Fa} {fn : List He.DefD} {ex : List ExD} {g : Addr → Option Obj} {s : Shared} (h : ∀ a, g a = s.heap.get? a) : obsEG file n fa fn ex g = (hookE file n fa fn ex).obs s := by
  have e : g = s.heap.get? := funext h
  rw [e] <;> rfl
section
variable {file : Str} {fa : List He.Fa} {fn : List He.DefD} {ex : List ExD} {K : PySem.W.Frag}
theorem SaysE.saysD (c : SaysE file fa fn ex K) : He.SaysD fa fn K := congrArg (fun z : AlE => z.1) c
theorem SaysE.st (c : SaysE file fa fn ex K) : statB K = true := (ba (show (statB K && ex.all (fun e => e.ok file K)) = true from congrArg (fun z : AlE => z.2.1) c)).1
theorem SaysE.ex_ (c : SaysE file fa fn ex K) (i : Nat) {e : ExD} (h : ex[i]? = some e := by rfl) : e.ok file K = true ∧ exW K e.name = e.val := by
  have c2 := (ba (show (statB K && ex.all (fun e => e.ok file K)) = true from congrArg (fun z : AlE => z.2.1) c)).2
  have e1 : ex.map (fun e => exW K e.name) = ex.map ExD.val := congrArg (fun z : AlE => z.2.2) c
  have e2 : (ex.map fun e => exW K e.name)[i]? = (ex.map ExD.val)[i]? := by rw [e1]
  rw [List.getElem?_map, List.getElem?_map, h] at e2
  exact ⟨List.all_eq_true.mp c2 e (List.mem_of_getElem? h), Option.some.inj e2⟩
theorem SaysE.digits (c : SaysE file fa fn ex K) : PySem.W.nsIn K cStatics "sys.int_max_str_digits" = some none := eqO_ok (ba c.st).1
/-- one of at -/
def exAt (nm base msg qual : Str) (p1 p2 r0 r1 r2 r3 r4 r5 q1 q2 q3 q4 : Pos) : ExD := ⟨nm, base, "at", qual, PySem.OwXat.iA p1 p2, [PySem.OwXat.sSup msg r0 r1 r2 r3 r4 r5, PySem.OwXat.sStore q1 q2 q3 q4], PySem.OwXat.iS⟩
theorem oex_at {P : Program} {nm base msg qual : Str} {p1 p2 r0 r1 r2 r3 r4 r5 q1 q2 q3 q4 : Pos} (st : statB K = true) (c : (exAt nm base msg qual p1 p2 r0 r1 r2 r3 r4 r5 q1 q2 q3 q4).ok P.main.file K = true ∧ exW K nm = (exAt nm base msg qual p1 p2 r0 r1 r2 r3 r4 r5 q1 q2 q3 q4).val)
    (top : (P.main.scope.names.lookup ("super" : Str)).isSome = false)
    (h1 : ∀ env : Env, ∃ pl : Sem Bool, eval (.Call (.Attribute (.Call (.Name "super" r0) [] [] r1) "__init__" r2) [.Constant (.str msg) 0 r3] [] r4) env = (do
        let ov ← attributeBase (.Call (.Name "super" r0) [] [] r1) "__init__" env (eval (.Call (.Name "super" r0) [] [] r1) env)
        standAt r2.atName
        let (f, first) ← holding [ov] (getMethod ov "__init__" pl)
        callWith r4 f first (backTo r4 (starEach [.Constant (.str msg) 0 r3] env)) []))
    (h2 : ∀ env : Env, swapsWith (.Call (.Attribute (.Call (.Name "super" r0) [] [] r1) "__init__" r2) [.Constant (.str msg) 0 r3] [] r4) none r5.line env = pure false)
    (h3 : ∀ env : Env, swapsWith (.Name "at" q3) (some (.Attribute (.Name "self" q1) "at" q2)) q4.line env = pure false) :
    PySem.OwXat.OexT P K (ga K nm) (ga K base) (ma K (ga K nm) "__init__") := by
  obtain ⟨c, w⟩ := c
  obtain ⟨c1, c⟩ := ba c
  obtain ⟨c2, c⟩ := ba c
  obtain ⟨c3, c⟩ := ba c
  obtain ⟨c4, c⟩ := ba c
  obtain ⟨c5, c⟩ := ba c
  obtain ⟨c6, c⟩ := ba c
  obtain ⟨c7, c⟩ := ba c
  obtain ⟨c8, c⟩ := ba c
  obtain ⟨c9, c⟩ := ba c
  obtain ⟨c10, c⟩ := ba c
  obtain ⟨c11, c⟩ := ba c
  obtain ⟨c12, c⟩ := ba c
  obtain ⟨c13, c⟩ := ba c
  obtain ⟨c14, c⟩ := ba c
  obtain ⟨c15, c16⟩ := ba c
  refine ⟨clsB_ok c1, eqO_ok c3, eqO_ok c4, eqO_ok c5, eqO_ok c6, eqO_ok c7, of_decide_eq_true c8, c9, of_decide_eq_true c10, of_decide_eq_true c11, of_decide_eq_true c12, c13, of_decide_eq_true c14, eqO_ok c15, eqO_ok (ba st).2, eqO_ok c16, top, ?_⟩
  obtain ⟨oc, od, doc, pm, an, cda, cc, ct, osl, ccl, cl, cdd, cld, ccs, csl, vs, tf, g1, g2, g3, g4, g5⟩ := initB_ok c2 w
  exact ⟨_, oc, od, doc, pm, an, cda, cc, ct, osl, msg, p1, p2, r0, r1, r2, r3, r4, r5, q1, q2, q3, q4, ccl, cl, cdd, cld, ccs, csl, vs, tf, g1, g2, g3, g4, g5, h1, h2, h3⟩
end
end Own

/-! tuple(range(n)); comprehensions that draw. -/
namespace Own
open PySem PySem.Spec PyProof.Rows L2 Evl
def tTupRange (te : TE) : TE := fun σ H Q => tRg1 te σ H fun a b H1 => RgOk a b ∧ NewT (rgV a b) H1 Q
section
variable {X : Cx}
theorem pe_tuple_range {e : Expr} {te : TE} {p pos p2 pos2 : Pos} (hm : X.mg "tuple" = none) (hm2 : X.mg "range" = none) (he : PE X e te) (hc : X.calm = true := by rfl) (hg : Gl X "tuple" := by rfl) (hg2 : Gl X "range" := by rfl)
    (na : starEach [e] X.env = (false, eval e X.env) :: starEach [] X.env := by rfl) (na2 : starEach [.Call (.Name "range" p2) [e] [] pos2] X.env = (false, eval (.Call (.Name "range" p2) [e] [] pos2) X.env) :: starEach [] X.env := by rfl) :
    PE X (.Call (.Name "tuple" p) [.Call (.Name "range" p2) [e] [] pos2] [] pos) (tTupRange te) := by
  have hr0 : PRg X (.Call (.Name "range" p2) [e] [] pos2) (tRg1 te) := prg_1 hg2 hm2 he na
  refine ⟨fun pins s σ H Q I h => ?_⟩
  refine Call_ (ld_blt I hg hm boot_tuple (PyProof.Rows.callWith_type1 (args_cons (thn (hr0 pins _ σ H _ (I.tok _) h) fun x s1 ⟨r, a, b, t, u, v, H1, ex, hr, I1, ok, q⟩ => args_nil ?_) na2) na2))
  subst ex
  obtain ⟨b1, b2, b3, b4, b5⟩ := ok
  refine call_tuple_range (n := (b - a).toNat) (I1.ok.hd hc) hr (small_one b1 b2 b3 b4) (rangeSize_nat a b) b5 fun h' tk acc hk hi => ?_
  have I2 : Inv X pins σ H1 { s1 with heap := h', toks := tk } := I1.kept hk
  have z := newT_end (tk := tk) I2 (vals_rg hi) (by rw [rgV_length, sizeLine_eq]; omega) q
  rw [Array.toArray_toList] at z
  exact z
end
section
variable {N : Nat} {a l : Addr} {R H : Hp} {J : It} {n : Nat} {G : Hp → Prop} {Y : Nat → Hp → V → Hp → Prop} {g : TG} {tt : TT} {te : TE} {vs : List Nat} {σ : L2.St}
/-- a comprehension within which draws are made -/
theorem lcW {Q : Addr → Hp → Prop} (S : Nat → List V → Hp → Prop) (w : Walk J n G Y) (hw : Wl N a l R H) (h0 : ∀ D, R D = none → S 0 [] (upd R D (.lst []))) (hG : ∀ Rd H', Ex R Rd → Wl N a l Rd H' → G H') (lenb : ∀ i acc Rd, S i acc Rd → acc.length ≤ 40000)
    (turn : ∀ i D acc Rd H1 x H2, i < n → Ex R Rd → Wl N a l Rd H1 → R D = none → Rd D = some (.lst acc) → S i acc Rd → Y i H1 x H2 → ∀ (K1 : VK) (K0 : Hp → Prop),
      (∀ y R5 H5, Ex R R5 → Wl N a l R5 H5 → R5 D = some (.lst acc) → S (i + 1) (acc ++ [y]) (upd R5 D (.lst (acc ++ [y]))) → K1 y H5) → (∀ R5 H5, Ex R R5 → Wl N a l R5 H5 → R5 D = some (.lst acc) → S (i + 1) acc R5 → K0 H5) →
      g x (wipe σ vs) H2 fun σ2 H3 => wipe σ2 vs = wipe σ vs ∧ tt σ2 H3 fun b H4 => if b = true then te σ2 H4 K1 else K0 H4)
    (q : ∀ D acc Rd H2, R D = none → Ex R Rd → Wl N a l Rd H2 → Rd D = some (.lst acc) → S n acc Rd → Q D H2) :
    ∀ D, H D = none → ∃ W : Nat → Nat → Hp → Prop, (∃ m, W 0 m (upd H D (.lst []))) ∧ ∀ i m H, W i m H →
      (J.stop i H ∧ Q D H) ∨ (J.go i H ∧ ∃ Nx : Hp → Prop, (∀ H', Nx H' → ∃ m', m' < m ∧ W (i + 1) m' H') ∧ ∀ x H', J.yld i H x H' → g x (wipe σ vs) H' fun σ2 H2 => wipe σ2 vs = wipe σ vs ∧ tt σ2 H2 fun b H3 =>
        if b = true then te σ2 H3 fun y H4 => ∃ acc, H4 D = some (.lst acc) ∧ acc.length < sizeLine ∧ Nx (upd H4 D (.lst (acc ++ [y]))) else Nx H3) := fun D hD => by
  have hR := hw.free hD
  refine lc_it w (fun i H' => ∃ acc Rd, Ex R Rd ∧ Wl N a l Rd H' ∧ Rd D = some (.lst acc) ∧ S i acc Rd) ⟨[], _, Ex.new hR, hw.new hD, upd_same, h0 D hR⟩ (fun i H' _ p => ?_) (fun i x H1 H2 hi p y => ?_) (fun H' p => ?_)
  · obtain ⟨acc, Rd, p1, p2, _⟩ := p
    exact hG Rd H' p1 p2
  · obtain ⟨acc, Rd, p1, p2, p3, p4⟩ := p
    refine turn i D acc Rd H1 x H2 hi p1 p2 hR p3 p4 y _ _ (fun z R5 H5 e5 w5 k5 s5 => ?_) (fun R5 H5 e5 w5 k5 s5 => ?_)
    · exact ⟨acc, w5.ex _ _ k5, sz_lt (by have := lenb _ _ _ p4; omega), acc ++ [z], _, ex_side e5 hR, w5.mut k5, upd_same, s5⟩
    · exact ⟨acc, R5, e5, w5, k5, s5⟩
  · obtain ⟨acc, Rd, p1, p2, p3, p4⟩ := p
    exact q D acc Rd H' hR p1 p2 p3 p4
end
/-! ### lists of small numbers -/
def nI (ps : List Nat) : List Int := ps.map fun p : Nat => (p : Int)
theorem nI_len (ps : List Nat) : (nI ps).length = ps.length := List.length_map ..
theorem nI_getD (ps : List Nat) (i : Nat) : (nI ps).getD i 0 = ((ps.getD i 0 : Nat) : Int) := by
  unfold nI
  rw [List.getD_eq_getElem?_getD, List.getElem?_map, List.getD_eq_getElem?_getD]
  cases ps[i]? <;> rfl
theorem at_nI {ps : List Nat} {i : Nat} (h : i < ps.length) : atI ((nI ps).map V.int) (i : Int) = some (.int ((ps.getD i 0 : Nat) : Int)) := by
  rw [← nI_getD]
  exact atI_int (by rw [nI_len]; exact h)
theorem nI_at {ps : List Nat} {i : Nat} {x : V} (h : ((nI ps).map V.int)[i]? = some x) : x = .int ((ps.getD i 0 : Nat) : Int) ∧ i < ps.length := by
  obtain ⟨h1, h2⟩ := int_at h
  rw [nI_getD] at h1
  rw [nI_len] at h2
  exact ⟨h1, h2⟩
theorem rgV_nI (n : Nat) : rgV 0 (n : Int) = (nI (List.range n)).map V.int := by
  unfold rgV nI
  rw [List.map_map, show ((n : Int) - 0).toNat = n by omega]
  apply List.map_congr_left
  intro i _
  show V.int ((0 : Int) + (i : Int)) = V.int (i : Int)
  exact congrArg V.int (by omega)
theorem range_ofN {n : Nat} (f : Nat → Nat) {ys : List Nat} (h1 : ys.length = n) (h : ∀ i, i < n → f i = ys.getD i 0) : (List.range n).map (fun i => V.int ((f i : Nat) : Int)) = (nI ys).map V.int :=
  range_of (fun i => ((f i : Nat) : Int)) (by rw [nI_len]; exact h1) fun i hi => by rw [nI_getD, h i hi]
/-! ### a pair of tuples: places and signs -/
def TpX (K : PySem.W.Frag) (H : Hp) (e : Addr) (ps : List Nat) (ss : List Int) : Prop := ∃ a b, Tp K H e [.ref a, .ref b] ∧ Tp K H a ((nI ps).map V.int) ∧ Tp K H b (ss.map V.int)
theorem TpX.ex {K : PySem.W.Frag} {H H1 : Hp} {e : Addr} {ps : List Nat} {ss : List Int} (t : TpX K H e ps ss) (x : Ex H H1) : TpX K H1 e ps ss := by
  obtain ⟨a, b, h1, h2, h3⟩ := t
  exact ⟨a, b, h1.ex x, h2.ex x, h3.ex x⟩
theorem TpX.mut {K : PySem.W.Frag} {R : Hp} {wr : Addr} {ys zs : List V} {e : Addr} {ps : List Nat} {ss : List Int} (t : TpX K R e ps ss) (hw : R wr = some (.lst ys)) : TpX K (upd R wr (.lst zs)) e ps ss := by
  obtain ⟨a, b, h1, h2, h3⟩ := t
  exact ⟨a, b, h1.mut hw, h2.mut hw, h3.mut hw⟩
theorem Sm.pair {K : PySem.W.Frag} {H : Hp} {p q : Addr} {ps : List Nat} {ss : List Int} (hp : TpX K H p ps ss) (hq : TpX K H q ps ss) (h1 : ps.length ≤ 1000) (h2 : ss.length ≤ 1000) (n : Nat) : Sm K H (n + 2) (.ref p) (.ref q) := by
  obtain ⟨a, b, e1, e2, e3⟩ := hp
  obtain ⟨c, d, f1, f2, f3⟩ := hq
  refine .inr ⟨p, q, _, _, rfl, rfl, e1, f1, rfl, by show 2 ≤ 1000; omega, fun i u v hu hv => ?_⟩
  rcases i with _ | _ | i
  · cases hu
    cases hv
    exact Sm.tup e2 f2 (scal_ints _) (by rw [List.length_map, nI_len]; exact h1) n
  · cases hu
    cases hv
    exact Sm.tup e3 f3 (scal_ints _) (by rw [List.length_map]; exact h2) n
  · cases hu
end Own
namespace Own
open PySem PySem.Spec PyProof.Rows L2 Evl
theorem nI_set (ps : List Nat) (j v : Nat) : ((nI ps).map V.int).set j (.int (v : Int)) = (nI (ps.set j v)).map V.int := by
  unfold nI
  rw [List.map_set, List.map_set]
theorem int_set (ps : List Int) (j : Nat) (v : Int) : (ps.map V.int).set j (.int v) = (ps.set j v).map V.int := by
  rw [List.map_set]
theorem nI_rep (n v : Nat) : List.replicate n (V.int (v : Int)) = (nI (List.replicate n v)).map V.int := by
  unfold nI
  rw [List.map_replicate, List.map_replicate]
/-- [x] * n -/
theorem rep_lst {x : V} {n : Nat} {H : Hp} {Q : VK} {l : Addr} (hl : H l = some (.lst [x])) (hn : n ≤ 10000) (k : ∀ p, H p = none → Q (.ref p) (upd H p (.lst (List.replicate n x)))) : rRep (.ref l) (.int (n : Int)) H Q := by
  refine ⟨l, n, [x], rfl, rfl, hl, by omega, by omega, ?_, ?_⟩
  · show 1 * (n : Int).toNat ≤ sizeLine
    rw [sizeLine_eq]
    omega
  · rw [rep_flat, show ((n : Int)).toNat = n by omega]
    exact k
end Own

namespace K31
open PySem PySem.Spec PyProof.Rows L2 Evl Own
/-! ### the text -/
def topS (i : Nat) : Stmt := PySem.Challenge.pw_ownmirrors_k31_exchanges_one_behind_anot.main.body.getD i (.Pass ⟨0, 0, 0, 0⟩)
abbrev s_exchanged_row : Stmt := topS 1
theorem sc_exchanged_row : FnScope ["letters", "exchange", "row", "places", "signs", "at"] ["letters", "exchange", "row"] (defScope s_exchanged_row) := ⟨rfl, rfl, rfl, by decide +kernel, rfl, by decide +kernel, by decide +kernel⟩
abbrev s_unit_exchange : Stmt := topS 2
theorem sc_unit_exchange : FnScope ["length"] ["length"] (defScope s_unit_exchange) := ⟨rfl, rfl, rfl, by decide +kernel, rfl, by decide +kernel, by decide +kernel⟩
abbrev s_behind : Stmt := topS 3
theorem sc_behind : FnScope ["letters", "first", "second", "places", "signs", "later", "others", "order", "at"] ["letters", "first", "second"] (defScope s_behind) := ⟨rfl, rfl, rfl, by decide +kernel, rfl, by decide +kernel, by decide +kernel⟩
abbrev s_back : Stmt := topS 4
theorem sc_back : FnScope ["letters", "exchange", "places", "signs", "order", "turned", "at"] ["letters", "exchange"] (defScope s_back) := ⟨rfl, rfl, rfl, by decide +kernel, rfl, by decide +kernel, by decide +kernel⟩
abbrev s_cycles_in : Stmt := topS 5
theorem sc_cycles_in : FnScope ["places", "found", "gone", "start", "at"] ["places"] (defScope s_cycles_in) := ⟨rfl, rfl, rfl, by decide +kernel, rfl, by decide +kernel, by decide +kernel⟩
abbrev s_sign_of : Stmt := topS 6
theorem sc_sign_of : FnScope ["letters", "exchange", "places", "signs", "steps", "sign"] ["letters", "exchange"] (defScope s_sign_of) := ⟨rfl, rfl, rfl, by decide +kernel, rfl, by decide +kernel, by decide +kernel⟩
abbrev s__law_source : Stmt := topS 8
theorem sc__law_source : FnScope ["script", "salt", "numbers", "cell", "blend"] ["script", "salt"] (defScope s__law_source) := ⟨rfl, rfl, rfl, by decide +kernel, rfl, by decide +kernel, by decide +kernel⟩
abbrev s__law_any : Stmt := topS 9
theorem sc__law_any : FnScope ["draws", "bound", "rest"] ["draws", "bound"] (defScope s__law_any) := ⟨rfl, rfl, rfl, by decide +kernel, rfl, by decide +kernel, by decide +kernel⟩
abbrev s__law_of : Stmt := topS 10
theorem sc__law_of : FnScope ["draws", "some"] ["draws", "some"] (defScope s__law_of) := ⟨rfl, rfl, rfl, by decide +kernel, rfl, by decide +kernel, by decide +kernel⟩
abbrev s__law_shuffled : Stmt := topS 11
theorem sc__law_shuffled : FnScope ["draws", "things", "left", "found", "turn"] ["draws", "things"] (defScope s__law_shuffled) := ⟨rfl, rfl, rfl, by decide +kernel, rfl, by decide +kernel, by decide +kernel⟩
abbrev s__law_same : Stmt := topS 12
theorem sc__law_same : FnScope ["found", "due", "at"] ["found", "due"] (defScope s__law_same) := ⟨rfl, rfl, rfl, by decide +kernel, rfl, by decide +kernel, by decide +kernel⟩
abbrev s__law_top : Stmt := topS 13
theorem sc__law_top : FnScope ["letters"] ["letters"] (defScope s__law_top) := ⟨rfl, rfl, rfl, by decide +kernel, rfl, by decide +kernel, by decide +kernel⟩
abbrev s__law_length : Stmt := topS 14
theorem sc__law_length : FnScope ["draws", "letters", "road"] ["draws", "letters"] (defScope s__law_length) := ⟨rfl, rfl, rfl, by decide +kernel, rfl, by decide +kernel, by decide +kernel⟩
abbrev s__law_exchange : Stmt := topS 15
theorem sc__law_exchange : FnScope ["draws", "letters", "length", "road", "places", "signs", "first", "one", "other", "at"] ["draws", "letters", "length"] (defScope s__law_exchange) := ⟨rfl, rfl, rfl, by decide +kernel, rfl, by decide +kernel, by decide +kernel⟩
abbrev s__law_led : Stmt := topS 16
theorem sc__law_led : FnScope ["letters", "exchange", "row", "places", "signs", "at"] ["letters", "exchange", "row"] (defScope s__law_led) := ⟨rfl, rfl, rfl, by decide +kernel, rfl, by decide +kernel, by decide +kernel⟩
abbrev s__law_then : Stmt := topS 17
theorem sc__law_then : FnScope ["letters", "one", "other", "places", "signs", "at"] ["letters", "one", "other"] (defScope s__law_then) := ⟨rfl, rfl, rfl, by decide +kernel, rfl, by decide +kernel, by decide +kernel⟩
abbrev s__law_undone : Stmt := topS 18
theorem sc__law_undone : FnScope ["exchange", "places", "signs", "order", "turned", "at"] ["exchange"] (defScope s__law_undone) := ⟨rfl, rfl, rfl, by decide +kernel, rfl, by decide +kernel, by decide +kernel⟩
abbrev s__law_still : Stmt := topS 19
theorem sc__law_still : FnScope ["length"] ["length"] (defScope s__law_still) := ⟨rfl, rfl, rfl, by decide +kernel, rfl, by decide +kernel, by decide +kernel⟩
abbrev s__law_sign : Stmt := topS 20
theorem sc__law_sign : FnScope ["exchange", "places", "signs", "many", "sign", "at", "k"] ["exchange"] (defScope s__law_sign) := ⟨rfl, rfl, rfl, by decide +kernel, rfl, by decide +kernel, by decide +kernel⟩
abbrev s__law_row : Stmt := topS 21
theorem sc__law_row : FnScope ["draws", "letters", "length", "at"] ["draws", "letters", "length"] (defScope s__law_row) := ⟨rfl, rfl, rfl, by decide +kernel, rfl, by decide +kernel, by decide +kernel⟩
abbrev s__law_circle : Stmt := topS 22
theorem sc__law_circle : FnScope ["many", "circle", "places", "at"] ["many", "circle"] (defScope s__law_circle) := ⟨rfl, rfl, rfl, by decide +kernel, rfl, by decide +kernel, by decide +kernel⟩
abbrev s__law_all : Stmt := topS 23
theorem sc__law_all : FnScope ["letters", "length", "exchanges", "found", "exchange"] ["letters", "length", "exchanges"] (defScope s__law_all) := ⟨rfl, rfl, rfl, by decide +kernel, rfl, by decide +kernel, by decide +kernel⟩
abbrev s__law_rows : Stmt := topS 24
theorem sc__law_rows : FnScope ["draws", "letters", "length", "exchanges", "row", "now", "exchange", "due"] ["draws", "letters", "length", "exchanges"] (defScope s__law_rows) := ⟨rfl, rfl, rfl, by decide +kernel, rfl, by decide +kernel, by decide +kernel⟩
abbrev s__law_halves : Stmt := topS 25
theorem sc__law_halves : FnScope ["draws", "letters", "length", "exchanges", "at", "first", "second", "whole", "one"] ["draws", "letters", "length", "exchanges"] (defScope s__law_halves) := ⟨rfl, rfl, rfl, by decide +kernel, rfl, by decide +kernel, by decide +kernel⟩
abbrev s__law_backs : Stmt := topS 26
theorem sc__law_backs : FnScope ["letters", "length", "one", "due", "still"] ["letters", "length", "one"] (defScope s__law_backs) := ⟨rfl, rfl, rfl, by decide +kernel, rfl, by decide +kernel, by decide +kernel⟩
abbrev s__law_turns : Stmt := topS 27
theorem sc__law_turns : FnScope ["draws", "letters", "length", "circle", "signs", "at", "one", "odd", "many", "sign", "now", "turn", "due"] ["draws", "letters", "length"] (defScope s__law_turns) := ⟨rfl, rfl, rfl, by decide +kernel, rfl, by decide +kernel, by decide +kernel⟩
abbrev s_law : Stmt := topS 28
theorem sc_law : FnScope ["script", "draws", "letters", "length", "exchanges", "at"] ["script"] (defScope s_law) := ⟨rfl, rfl, rfl, by decide +kernel, rfl, by decide +kernel, by decide +kernel⟩
/-- what the module leaves to the built-ins -/
structure Zs (mg : Str → Option Value) : Prop where
  abs : mg "abs" = none
  bool : mg "bool" = none
  int : mg "int" = none
  isinstance : mg "isinstance" = none
  len : mg "len" = none
  list : mg "list" = none
  max : mg "max" = none
  range : mg "range" = none
  str : mg "str" = none
  sum : mg "sum" = none
  tuple : mg "tuple" = none
end K31

namespace K31
open PySem PySem.Spec PyProof.Rows L2 Evl Own
open RZ (pi_zipA)
/-! ### exchanges: places ps, signs ss -/
def ledL (q : Int) (ps : List Nat) (ss row : List Int) : List Int := (List.range ps.length).map fun i => row.getD (ps.getD i 0) 0 * ss.getD i 0 % q
def thenP (ps ps' : List Nat) : List Nat := ps'.map fun j => ps.getD j 0
def thenS (q : Int) (ss : List Int) (ps' : List Nat) (ss' : List Int) : List Int := (List.range ps'.length).map fun i => ss.getD (ps'.getD i 0) 0 * ss'.getD i 0 % q
def putP (ps : List Nat) (i : Nat) : List Nat := (List.range i).foldl (fun o j => o.set (ps.getD j 0) j) (List.replicate ps.length 0)
def putS (f : Int → Int) (ps : List Nat) (ss : List Int) (i : Nat) : List Int := (List.range i).foldl (fun o j => o.set (ps.getD j 0) (f (ss.getD j 0))) (List.replicate ps.length 1)
structure IsX (q : Int) (n : Nat) (ps : List Nat) (ss : List Int) : Prop where
  pm : ps.Perm (List.range n)
  sn : ss.length = n
  sin : ∀ s ∈ ss, 1 ≤ s ∧ s < q
  few : n ≤ 1000
  q0 : 2 ≤ q
  q1 : q ≤ 3
theorem IsX.pn {q : Int} {n : Nat} {ps : List Nat} {ss : List Int} (x : IsX q n ps ss) : ps.length = n := by rw [x.pm.length_eq, List.length_range]
theorem IsX.pin {q : Int} {n : Nat} {ps : List Nat} {ss : List Int} (x : IsX q n ps ss) : ∀ y ∈ ps, y < n := fun y hy => List.mem_range.mp (x.pm.mem_iff.mp hy)
theorem IsX.at_ {q : Int} {n : Nat} {ps : List Nat} {ss : List Int} (x : IsX q n ps ss) {i : Nat} (h : i < n) : ps.getD i 0 < n := by
  have h2 : i < ps.length := by rw [x.pn]; exact h
  have := x.pin ps[i] (List.getElem_mem h2)
  rw [List.getD_eq_getElem?_getD, List.getElem?_eq_getElem h2]
  exact this
theorem IsX.sg {q : Int} {n : Nat} {ps : List Nat} {ss : List Int} (x : IsX q n ps ss) {i : Nat} (h : i < n) : 1 ≤ ss.getD i 0 ∧ ss.getD i 0 < q := x.sin _ (Own.getD_mem (by rw [x.sn]; exact h))
def RetX (K : PySem.W.Frag) (ps : List Nat) (ss : List Int) (H : Hp) (Q : VK) : Prop := ∀ e H2, Ex H H2 → TpX K H2 e ps ss → Q (.ref e) H2
def spLed (K : PySem.W.Frag) : Sp := fun vs H Q _ => ∃ (q : Int) (n : Nat) (e r : Addr) (ps : List Nat) (ss row : List Int), vs = [.int q, .ref e, .ref r] ∧ TpX K H e ps ss ∧ IsX q n ps ss ∧ Tp K H r (row.map V.int) ∧ row.length = n ∧ RetU K ((ledL q ps ss row).map V.int) H Q
def spUnitX (K : PySem.W.Frag) : Sp := fun vs H Q _ => ∃ (n : Nat), vs = [.int n] ∧ n ≤ 1000 ∧ RetX K (List.range n) (List.replicate n 1) H Q
def spBehind (K : PySem.W.Frag) : Sp := fun vs H Q _ => ∃ (q : Int) (n : Nat) (e r : Addr) (ps : List Nat) (ss : List Int) (ps' : List Nat) (ss' : List Int), vs = [.int q, .ref e, .ref r] ∧ TpX K H e ps ss ∧ IsX q n ps ss ∧ TpX K H r ps' ss' ∧ IsX q n ps' ss' ∧ RetX K (thenP ps ps') (thenS q ss ps' ss') H Q
def spBack (K : PySem.W.Frag) : Sp := fun vs H Q _ => ∃ (q : Int) (n : Nat) (e : Addr) (ps : List Nat) (ss : List Int), vs = [.int q, .ref e] ∧ TpX K H e ps ss ∧ IsX q n ps ss ∧ RetX K (putP ps n) (putS (fun s => s % q) ps ss n) H Q
/-- a pair of new tuples -/
theorem retX_new {K : PySem.W.Frag} {H H1 : Hp} {Q : VK} {ps : List Nat} {ss : List Int} {a b : Addr} (k : RetX K ps ss H Q) (e : Ex H H1) (ha : Tp K H1 a ((nI ps).map V.int)) (hb : Tp K H1 b (ss.map V.int)) : NewT [.ref a, .ref b] H1 Q := fun p o hp ho =>
  k p _ (e.trans (Ex.new hp)) ⟨a, b, Tp.of ho upd_same, ha.ex (Ex.new hp), hb.ex (Ex.new hp)⟩
section
variable {P : Program} {w : World} {K : PySem.W.Frag} {mg : Str → Option Value} {base : Heap} {f : Addr} {fd : FuncData}
theorem ok_exchanged_row (F : FnP K "exchanged_row" s_exchanged_row f fd) (Z : Zs mg) : FnOk P w K mg base CX0 1 f fd ["letters", "exchange", "row"] (spLed K) := by
  refine F.ok sc_exchanged_row (fun vs H Q E h => ?_) (fun cdv A outer s H vs Q E hr h => ⟨_, PSs.nox (pss_cons (ps_asg (pv 1) (pg_tup rfl (pgs_cons (pg_name (i := 3) sc_exchanged_row.nd rfl (by first | exact Or.inl rfl | exact Or.inr rfl)) (pgs_cons (pg_name (i := 4) sc_exchanged_row.nd rfl (by first | exact Or.inl rfl | exact Or.inr rfl)) pgs_nil))))
  (pss_one (ps_ret (pe_callTy (kc_tuple (K := K)) (by rfl) Z.tuple (by decide +kernel) (pa_cons (pe_lc (own := [("at", 5)]) (g := (gName 5)) rfl sc_exchanged_row.nd (pi_range1 (by rfl) Z.range (pa_cons (pe_callB (kc_len (K := K)) (by rfl) Z.len PySem.boot_len (pa_cons (pv 3) pa_nil)) pa_nil)) (blkOk_by (own := [("at", 5)]) (N := ["letters", "exchange", "row", "places", "signs", "at"]) (sc := defScope s_exchanged_row) (by decide +kernel)) (fun _ _ _ _ _ => (pg_name (i := 5) sc_exchanged_row.nd rfl (Or.inl rfl))) (fun _ _ _ _ _ => pts_nil) (fun _ _ _ _ _ => (pe_op op_mod (pe_op op_mul (pe_ix (kx_tup (K := K)) (pv 2) (pe_ix (kx_tup (K := K)) (pv 3) (pv 5) (fun _ _ => rfl)) (fun _ _ => rfl)) (pe_ix (kx_tup (K := K)) (pv 4) (pv 5) (fun _ _ => rfl))) (pv 0)))) pa_nil))))), ?_⟩)
  · obtain ⟨q, n, e, r, ps, ss, row, rfl, _⟩ := h
    rfl
  · obtain ⟨q, n, e, r, ps, ss, row, rfl, ⟨a, b, he, ha, hb⟩, x, hr, hrl, k⟩ := h
    have few := x.few
    have pn := x.pn
    refine ⟨_, rfl, e, _, rfl, he.sq, rfl, _, _, rfl, _, _, rfl, rfl, ?_⟩
    refine ⟨_, rfl, a, _, rfl, .inr ha.sq, _, rfl, by omega, by rw [List.length_map, nI_len]; omega, ?_⟩
    rw [show ((((nI ps).map V.int).length : Nat) : Int).toNat = ps.length by rw [List.length_map, nI_len]; omega]
    refine lcP (walk_range (lo := 0)) (fun _ _ => trivial) (by omega) (fun _ => true) (fun i => V.int (row.getD (ps.getD i 0) 0 * ss.getD i 0 % q)) (fun i H1 z H2 hi e1 y K1 K0 k1 k0 => ?_) (fun p H2 hp e2 h2 => ?_)
    · obtain ⟨rfl, rfl⟩ := y
      have e0 : (0 : Int) + (i : Int) = (i : Int) := by omega
      show gName _ (V.int ((0 : Int) + (i : Int))) _ _ _
      rw [e0]
      have s1 := x.sg (i := i) (by omega)
      have p1 := x.at_ (i := i) (by omega)
      have q1 := x.q1
      refine ⟨rfl, yes_go ⟨_, rfl, _, rfl, _, rfl, a, _, _, _, rfl, rfl, (ha.ex e1).sq, at_nI hi, r, _, _, _, rfl, rfl, (hr.ex e1).sq, atI_int (by omega), _, rfl, _, rfl, b, _, _, _, rfl, rfl, (hb.ex e1).sq, atI_int (by rw [x.sn]; omega), _, _, rfl, rfl, .inr ⟨by omega, by omega⟩, _, rfl, _, _, rfl, rfl, by have := x.q0; show 0 < q; omega, k1 rfl _ (Ex.refl _)⟩⟩
    · rw [given_all] at h2
      have : (List.range ps.length).map (fun i => V.int (row.getD (ps.getD i 0) 0 * ss.getD i 0 % q)) = (ledL q ps ss row).map V.int := by
        unfold ledL
        rw [List.map_map]
        rfl
      rw [this] at h2
      exact ⟨p, _, rfl, .inl ⟨sq_of h2, k.new e2⟩⟩
theorem ok_unit_exchange (F : FnP K "unit_exchange" s_unit_exchange f fd) (Z : Zs mg) : FnOk P w K mg base CX0 1 f fd ["length"] (spUnitX K) := by
  refine F.ok sc_unit_exchange (fun vs H Q E h => ?_) (fun cdv A outer s H vs Q E hr h => ⟨_, PSs.nox (pss_one (ps_ret (pe_tupF (pa_cons (pe_tuple_range Z.tuple Z.range (pv 0)) (pa_cons (pe_op (ko_rep (K := K)) (pe_tupF (pa_cons pe_int pa_nil)) (pv 0)) pa_nil))))), ?_⟩)
  · obtain ⟨n, rfl, _⟩ := h
    rfl
  · obtain ⟨n, rfl, few, k⟩ := h
    refine ⟨_, rfl, _, rfl, rg_ok (by omega), ?_⟩
    refine RetU.new (K := K) (H := H) (fun a H1 e1 ha => ?_) (Ex.refl _)
    refine ⟨by show 1 ≤ sizeLine; decide, fun p o hp ho => ⟨_, rfl, rep_one (by omega) (by omega) (fun b H2 e2 hb => ?_) p o hp ho⟩⟩
    rw [rgV_nI] at ha
    refine ⟨by show 2 ≤ sizeLine; decide, retX_new k (e1.trans e2) (ha.ex e2) ?_⟩
    rw [show ((n : Int)).toNat = n by omega, ← List.map_replicate] at hb
    exact hb
theorem ok_behind (F : FnP K "behind" s_behind f fd) (Z : Zs mg) : FnOk P w K mg base CX0 1 f fd ["letters", "first", "second"] (spBehind K) := by
  refine F.ok sc_behind (fun vs H Q E h => ?_) (fun cdv A outer s H vs Q E hr h => ⟨_, PSs.nox (pss_cons (ps_asg (pv 1) (pg_tup rfl (pgs_cons (pg_name (i := 3) sc_behind.nd rfl (by first | exact Or.inl rfl | exact Or.inr rfl)) (pgs_cons (pg_name (i := 4) sc_behind.nd rfl (by first | exact Or.inl rfl | exact Or.inr rfl)) pgs_nil))))
  (pss_cons (ps_asg (pv 2) (pg_tup rfl (pgs_cons (pg_name (i := 5) sc_behind.nd rfl (by first | exact Or.inl rfl | exact Or.inr rfl)) (pgs_cons (pg_name (i := 6) sc_behind.nd rfl (by first | exact Or.inl rfl | exact Or.inr rfl)) pgs_nil))))
  (pss_cons (ps_set (i := 7) sc_behind.nd rfl (by first | exact Or.inl rfl | exact Or.inr rfl) (pe_callTy (kc_tuple (K := K)) (by rfl) Z.tuple (by decide +kernel) (pa_cons (pe_lc (own := [("at", 8)]) (g := (gName 8)) rfl sc_behind.nd (pi_tup (pv 5)) (blkOk_by (own := [("at", 8)]) (N := ["letters", "first", "second", "places", "signs", "later", "others", "order", "at"]) (sc := defScope s_behind) (by decide +kernel)) (fun _ _ _ _ _ => (pg_name (i := 8) sc_behind.nd rfl (Or.inl rfl))) (fun _ _ _ _ _ => pts_nil) (fun _ _ _ _ _ => (pe_ix (kx_tup (K := K)) (pv 3) (pv 8) (fun _ _ => rfl)))) pa_nil)))
  (pss_one (ps_ret (pe_tupF (pa_cons (pv 7) (pa_cons (pe_callTy (kc_tuple (K := K)) (by rfl) Z.tuple (by decide +kernel) (pa_cons (pe_lc (own := [("at", 8)]) (g := (gName 8)) rfl sc_behind.nd (pi_range1 (by rfl) Z.range (pa_cons (pe_callB (kc_len (K := K)) (by rfl) Z.len PySem.boot_len (pa_cons (pv 5) pa_nil)) pa_nil)) (blkOk_by (own := [("at", 8)]) (N := ["letters", "first", "second", "places", "signs", "later", "others", "order", "at"]) (sc := defScope s_behind) (by decide +kernel)) (fun _ _ _ _ _ => (pg_name (i := 8) sc_behind.nd rfl (Or.inl rfl))) (fun _ _ _ _ _ => pts_nil) (fun _ _ _ _ _ => (pe_op op_mod (pe_op op_mul (pe_ix (kx_tup (K := K)) (pv 4) (pe_ix (kx_tup (K := K)) (pv 5) (pv 8) (fun _ _ => rfl)) (fun _ _ => rfl)) (pe_ix (kx_tup (K := K)) (pv 6) (pv 8) (fun _ _ => rfl))) (pv 0)))) pa_nil)) pa_nil)))))))), ?_⟩)
  · obtain ⟨q, n, e, r, ps, ss, ps', ss', rfl, _⟩ := h
    rfl
  · obtain ⟨q, n, e, r, ps, ss, ps', ss', rfl, ⟨a, b, he, ha, hb⟩, x, ⟨c, d, hr', hc, hd⟩, x', k⟩ := h
    have few := x.few
    have pn := x.pn
    have pn' := x'.pn
    refine ⟨_, rfl, e, _, rfl, he.sq, rfl, _, _, rfl, _, _, rfl, rfl, ?_⟩
    refine ⟨_, rfl, r, _, rfl, hr'.sq, rfl, _, _, rfl, _, _, rfl, rfl, ?_⟩
    refine ⟨_, rfl, c, rfl, ⟨_, hc.sq⟩, lcP (walk_tup (xs := (nI ps').map V.int)) (fun H' e => (hc.ex e).sq) (by rw [List.length_map, nI_len]; omega) (fun _ => true) (fun i => V.int ((ps.getD (ps'.getD i 0) 0 : Nat) : Int)) (fun i H1 z H2 hi e1 y K1 K0 k1 k0 => ?_) (fun p H2 hp e2 h2 => ?_)⟩
    · obtain ⟨rfl, g⟩ := y
      obtain ⟨rfl, hi⟩ := nI_at g
      have p1 := x'.at_ (i := i) (by omega)
      exact ⟨rfl, yes_go ⟨_, rfl, _, rfl, a, _, _, _, rfl, rfl, (ha.ex e1).sq, at_nI (by omega), k1 rfl _ (Ex.refl _)⟩⟩
    · rw [given_all, List.length_map, nI_len, range_ofN _ (ys := thenP ps ps') (by unfold thenP; rw [List.length_map]) (fun i hi => by
        unfold thenP
        simp only [List.getD_eq_getElem?_getD, List.getElem?_map, List.getElem?_eq_getElem hi]
        rfl)] at h2
      refine ⟨p, _, rfl, .inl ⟨sq_of h2, RetU.new (K := K) (H := H) (fun o H3 e3 ho => ?_) e2⟩⟩
      refine ⟨_, rfl, _, rfl, c, _, rfl, .inr (hc.ex e3).sq, _, rfl, by omega, by rw [List.length_map, nI_len]; omega, ?_⟩
      rw [show ((((nI ps').map V.int).length : Nat) : Int).toNat = ps'.length by rw [List.length_map, nI_len]; omega]
      refine lcP (walk_range (lo := 0)) (fun _ _ => trivial) (by omega) (fun _ => true) (fun i => V.int (ss.getD (ps'.getD i 0) 0 * ss'.getD i 0 % q)) (fun i H4 z H5 hi e4 y K1 K0 k1 k0 => ?_) (fun p H5 hp e5 h5 => ?_)
      · obtain ⟨rfl, rfl⟩ := y
        have e0 : (0 : Int) + (i : Int) = (i : Int) := by omega
        show gName _ (V.int ((0 : Int) + (i : Int))) _ _ _
        rw [e0]
        have s1 := x'.sg (i := i) (by omega)
        have p1 := x'.at_ (i := i) (by omega)
        have q1 := x.q1
        have e34 := e3.trans e4
        exact ⟨rfl, yes_go ⟨_, rfl, _, rfl, _, rfl, c, _, _, _, rfl, rfl, (hc.ex e34).sq, at_nI hi, b, _, _, _, rfl, rfl, (hb.ex e34).sq, atI_int (by rw [x.sn]; omega), _, rfl, _, rfl, d, _, _, _, rfl, rfl, (hd.ex e34).sq, atI_int (by rw [x'.sn]; omega), _, _, rfl, rfl, .inr ⟨by omega, by omega⟩, _, rfl, _, _, rfl, rfl, by have := x.q0; show 0 < q; omega, k1 rfl _ (Ex.refl _)⟩⟩
      · rw [given_all] at h5
        have : (List.range ps'.length).map (fun i => V.int (ss.getD (ps'.getD i 0) 0 * ss'.getD i 0 % q)) = (thenS q ss ps' ss').map V.int := by
          unfold thenS
          rw [List.map_map]
          rfl
        rw [this] at h5
        refine ⟨p, _, rfl, .inl ⟨sq_of h5, RetU.new (K := K) (H := H3) (fun t H6 e6 ht => ?_) e5⟩⟩
        exact ⟨by show 2 ≤ sizeLine; decide, retX_new k (e3.trans e6) (ho.ex e6) ht⟩
end
end K31

namespace K31
open PySem PySem.Spec PyProof.Rows L2 Evl Own
open RZ (pi_zipA)
theorem putP_succ (ps : List Nat) (i : Nat) : putP ps (i + 1) = (putP ps i).set (ps.getD i 0) i := by
  unfold putP
  rw [List.range_succ, List.foldl_append]
  rfl
theorem putS_succ (f : Int → Int) (ps : List Nat) (ss : List Int) (i : Nat) : putS f ps ss (i + 1) = (putS f ps ss i).set (ps.getD i 0) (f (ss.getD i 0)) := by
  unfold putS
  rw [List.range_succ, List.foldl_append]
  rfl
theorem putP_len (ps : List Nat) : ∀ i, (putP ps i).length = ps.length
  | 0 => List.length_replicate ..
  | i + 1 => by rw [putP_succ, List.length_set, putP_len ps i]
theorem putS_len (f : Int → Int) (ps : List Nat) (ss : List Int) : ∀ i, (putS f ps ss i).length = ps.length
  | 0 => List.length_replicate ..
  | i + 1 => by rw [putS_succ, List.length_set, putS_len f ps ss i]
section
variable {P : Program} {w : World} {K : PySem.W.Frag} {mg : Str → Option Value} {base : Heap} {f : Addr} {fd : FuncData}
theorem ok_back (F : FnP K "back" s_back f fd) (Z : Zs mg) : FnOk P w K mg base CX0 1 f fd ["letters", "exchange"] (spBack K) := by
  refine F.ok sc_back (fun vs H Q E h => ?_) (fun cdv A outer s H vs Q E hr h => ⟨_, PSs.nox (pss_cons (ps_asg (pv 1) (pg_tup rfl (pgs_cons (pg_name (i := 2) sc_back.nd rfl (by first | exact Or.inl rfl | exact Or.inr rfl)) (pgs_cons (pg_name (i := 3) sc_back.nd rfl (by first | exact Or.inl rfl | exact Or.inr rfl)) pgs_nil))))
  (pss_cons (ps_par (i := 4) (j := 5) rfl sc_back.nd rfl rfl (by decide) rfl rfl (pa_cons (pe_op op_rep (pe_lst (pa_cons pe_int pa_nil)) (pe_callB (kc_len (K := K)) (by rfl) Z.len PySem.boot_len (pa_cons (pv 2) pa_nil))) (pa_cons (pe_op op_rep (pe_lst (pa_cons pe_int pa_nil)) (pe_callB (kc_len (K := K)) (by rfl) Z.len PySem.boot_len (pa_cons (pv 2) pa_nil))) pa_nil)) (by rfl))
  (pss_cons (ps_for PassesOwn.never rfl (pi_range1 (by rfl) Z.range (pa_cons (pe_callB (kc_len (K := K)) (by rfl) Z.len PySem.boot_len (pa_cons (pv 2) pa_nil)) pa_nil)) (pg_name (i := 6) sc_back.nd rfl (by first | exact Or.inl rfl | exact Or.inr rfl)) (pss_cons (ps_asg (pv 6) (pg_sub (pv 4) (pe_ix (kx_tup (K := K)) (pv 2) (pv 6) (fun _ _ => rfl)) set_list))
  (pss_one (ps_asg (pe_op op_mod (pe_ix (kx_tup (K := K)) (pv 3) (pv 6) (fun _ _ => rfl)) (pv 0)) (pg_sub (pv 5) (pe_ix (kx_tup (K := K)) (pv 2) (pv 6) (fun _ _ => rfl)) set_list)))))
  (pss_one (ps_ret (pe_tupF (pa_cons (pe_callTy (kc_tuple (K := K)) (by rfl) Z.tuple (by decide +kernel) (pa_cons (pv 4) pa_nil)) (pa_cons (pe_callTy (kc_tuple (K := K)) (by rfl) Z.tuple (by decide +kernel) (pa_cons (pv 5) pa_nil)) pa_nil)))))))), ?_⟩)
  · obtain ⟨q, n, e, ps, ss, rfl, _⟩ := h
    rfl
  · obtain ⟨q, n, e, ps, ss, rfl, ⟨a, b, he, ha, hb⟩, x, k⟩ := h
    have few := x.few
    have pn := x.pn
    have lenA : (((nI ps).map V.int).length : Int) = (n : Int) := by rw [List.length_map, nI_len, pn]
    refine ⟨_, rfl, e, _, rfl, he.sq, rfl, _, _, rfl, _, _, rfl, rfl, ?_⟩
    refine ⟨by decide, fun l1 hl1 => ⟨_, rfl, a, _, rfl, .inr (ha.ex (Ex.new hl1)).sq, ?_⟩⟩
    rw [lenA]
    refine rep_lst upd_same (by omega) fun O hO => ?_
    refine ⟨by decide, fun l2 hl2 => ⟨_, rfl, a, _, rfl, .inr (((ha.ex (Ex.new hl1)).ex (Ex.new hO)).ex (Ex.new hl2)).sq, ?_⟩⟩
    rw [lenA]
    refine rep_lst upd_same (by omega) fun T hT => ⟨_, _, rfl, ?_⟩
    have HO : H O = none := by
      by_cases c : O = l1
      · rw [c]; exact hl1
      · rw [upd_ne c] at hO; exact hO
    have hT2 : (upd (upd H l1 (.lst [V.int 0])) O (.lst (List.replicate n (V.int 0)))) T = none := by
      by_cases c : T = l2
      · rw [c]; exact hl2
      · rw [upd_ne c] at hT; exact hT
    have OT : T ≠ O := fun c => by
      rw [c, upd_same] at hT2
      cases hT2
    have HT : H T = none := by
      rw [upd_ne OT] at hT2
      by_cases c : T = l1
      · rw [c]; exact hl1
      · rw [upd_ne c] at hT2; exact hT2
    have ex0 := (((Ex.new (o := .lst [V.int 0]) hl1).trans (Ex.new (o := .lst (List.replicate n (V.int 0))) hO)).trans (Ex.new (o := .lst [V.int 1]) hl2)).trans (Ex.new (o := .lst (List.replicate n (V.int 1))) hT)
    have O0 : upd (upd (upd (upd H l1 (.lst [V.int 0])) O (.lst (List.replicate n (V.int 0)))) l2 (.lst [V.int 1])) T (.lst (List.replicate n (V.int 1))) O = some (.lst ((nI (putP ps 0)).map V.int)) := by
      have : (nI (putP ps 0)).map V.int = List.replicate n (V.int 0) := by
        rw [← pn]
        exact (nI_rep ps.length 0).symm
      rw [this]
      exact ((Ex.new (o := .lst [V.int 1]) hl2).trans (Ex.new (o := .lst (List.replicate n (V.int 1))) hT)) _ _ upd_same
    have T0 : upd (upd (upd (upd H l1 (.lst [V.int 0])) O (.lst (List.replicate n (V.int 0)))) l2 (.lst [V.int 1])) T (.lst (List.replicate n (V.int 1))) T = some (.lst ((putS (fun s => s % q) ps ss 0).map V.int)) := by
      have : (putS (fun s => s % q) ps ss 0).map V.int = List.replicate n (V.int 1) := by
        rw [← pn]
        exact List.map_replicate ..
      rw [this]
      exact upd_same
    generalize upd (upd (upd (upd H l1 (.lst [V.int 0])) O (.lst (List.replicate n (V.int 0)))) l2 (.lst [V.int 1])) T (.lst (List.replicate n (V.int 1))) = H4 at ex0 O0 T0 ⊢
    refine ⟨_, rfl, a, _, rfl, .inr (ha.ex ex0).sq, _, rfl, by omega, by rw [lenA]; omega, ?_⟩
    rw [show ((((nI ps).map V.int).length : Nat) : Int).toNat = n by rw [lenA]; omega]
    refine for_range (lo := 0) (n := n) (fun i σ H' => Ex H H' ∧ H' O = some (.lst ((nI (putP ps i)).map V.int)) ∧ H' T = some (.lst ((putS (fun s => s % q) ps ss i).map V.int)) ∧ ∃ v, σ = [some (.int q), some (.ref e), some (.ref a), some (.ref b), some (.ref O), some (.ref T), v]) ⟨ex0, O0, T0, none, rfl⟩ (fun i σ H' hi z => ?_) (fun σ H' z => ?_)
    · obtain ⟨e1, o1, t1, v, rfl⟩ := z
      have e0 : (0 : Int) + (i : Int) = (i : Int) := by omega
      show gName _ (V.int ((0 : Int) + (i : Int))) _ _ _
      rw [e0]
      have p1 := x.at_ (i := i) (by omega)
      refine ⟨_, rfl, _, rfl, _, rfl, _, rfl, a, _, _, _, rfl, rfl, (ha.ex e1).sq, at_nI (by omega), O, _, _, _, rfl, rfl, o1, ixN_nat (by rw [List.length_map, nI_len, putP_len]; omega), ?_⟩
      rw [nI_set]
      have e2 := ex_side (o := .lst ((nI ((putP ps i).set (ps.getD i 0) i)).map V.int)) e1 HO
      refine ⟨_, rfl, _, rfl, b, _, _, _, rfl, rfl, (hb.ex e2).sq, atI_int (by rw [x.sn]; omega), _, rfl, _, _, rfl, rfl, by have := x.q0; show 0 < q; omega, _, rfl, _, rfl, _, rfl, a, _, _, _, rfl, rfl, (ha.ex e2).sq, at_nI (by omega), T, _, _, _, rfl, rfl, by rw [upd_ne OT]; exact t1, ixN_nat (by rw [List.length_map, putS_len]; omega), ?_⟩
      rw [int_set]
      refine ⟨ex_side e2 HT, ?_, ?_, _, rfl⟩
      · rw [upd_ne OT.symm, upd_same, putP_succ]
      · rw [upd_same, putS_succ]
    · obtain ⟨e1, o1, t1, v, rfl⟩ := z
      refine ⟨_, rfl, O, _, rfl, .inl ⟨sq_of o1, RetU.new (K := K) (H := H') (fun c H5 e5 hc => ?_) (Ex.refl _)⟩⟩
      refine ⟨_, rfl, T, _, rfl, .inl ⟨sq_of (e5 _ _ t1), RetU.new (K := K) (H := H5) (fun d H6 e6 hd => ?_) (Ex.refl _)⟩⟩
      exact ⟨by show 2 ≤ sizeLine; decide, retX_new k (e1.trans (e5.trans e6)) (hc.ex e6) hd⟩
end
end K31

namespace K31
open PySem PySem.Spec PyProof.Rows L2 Evl Own
open Classical
/-! ### circles -/
def it (ps : List Nat) : Nat → Nat → Nat
  | 0, x => x
  | k + 1, x => ps.getD (it ps k x) 0
/-- x is come to from below m -/
def Rch (ps : List Nat) (m x : Nat) : Prop := ∃ s, s < m ∧ ∃ k, it ps k s = x
theorem Rch.step {ps : List Nat} {m x : Nat} (h : Rch ps m x) : Rch ps m (ps.getD x 0) := by
  obtain ⟨s, hs, k, rfl⟩ := h
  exact ⟨s, hs, k + 1, rfl⟩
theorem Rch.mono {ps : List Nat} {m m' x : Nat} (h : Rch ps m x) (e : m ≤ m') : Rch ps m' x := by
  obtain ⟨s, hs, k⟩ := h
  exact ⟨s, Nat.lt_of_lt_of_le hs e, k⟩
noncomputable def cycN (ps : List Nat) (m : Nat) : Nat := (List.range m).countP fun x => !decide (Rch ps x x)
theorem cycN_succ (ps : List Nat) (m : Nat) : cycN ps (m + 1) = cycN ps m + (if Rch ps m m then 0 else 1) := by
  unfold cycN
  rw [List.range_succ, List.countP_append]
  by_cases c : Rch ps m m
  · simp [c]
  · simp [c]
noncomputable def sgnX (q : Int) (ps : List Nat) (ss : List Int) : Int := if ((ps.length : Int) - cycN ps ps.length + (if q = 3 then ((ss.countP fun s => decide (s = 2) : Nat) : Int) else 0)) % 2 = 0 then 1 else -1
def spCyc (K : PySem.W.Frag) : Sp := fun vs H Q _ => ∃ (n : Nat) (a : Addr) (ps : List Nat), vs = [.ref a] ∧ Tp K H a ((nI ps).map V.int) ∧ ps.length = n ∧ (∀ x ∈ ps, x < n) ∧ n ≤ 1000 ∧ ∀ H', Ex H H' → Q (.int (cycN ps n)) H'
def spSign (K : PySem.W.Frag) : Sp := fun vs H Q _ => ∃ (q : Int) (n : Nat) (e : Addr) (ps : List Nat) (ss : List Int), vs = [.int q, .ref e] ∧ TpX K H e ps ss ∧ IsX q n ps ss ∧ ∀ H', Ex H H' → Q (.int (sgnX q ps ss)) H'
/-- the state within a circle -/
structure Round (ps : List Nat) (n m : Nat) (gs : List Bool) (x : Nat) : Prop where
  len : gs.length = n
  lt : x < n
  sub : ∀ y, gs[y]? = some true → Rch ps (m + 1) y
  rx : Rch ps (m + 1) x
  st : gs[m]? = some true ∨ x = m
  cl : ∀ y, gs[y]? = some true → gs[ps.getD y 0]? = some true ∨ ps.getD y 0 = x
  old : ∀ y, y < n → Rch ps m y → gs[y]? = some true
theorem bset {gs : List Bool} {x y : Nat} : (gs.set x true)[y]? = some true ↔ (y = x ∧ x < gs.length) ∨ gs[y]? = some true := by
  by_cases e : x = y
  · subst e
    by_cases h : x < gs.length
    · simp [h]
    · simp [h]
  · rw [List.getElem?_set_ne e]
    constructor
    · exact .inr
    · rintro (⟨h, _⟩ | h)
      · exact (e h.symm).elim
      · exact h
theorem Round.turn {ps : List Nat} {n m : Nat} {gs : List Bool} {x : Nat} (r : Round ps n m gs x) (hp : ∀ y, y < n → ps.getD y 0 < n) : Round ps n m (gs.set x true) (ps.getD x 0) := by
  have hx : x < gs.length := by rw [r.len]; exact r.lt
  refine ⟨by rw [List.length_set]; exact r.len, hp x r.lt, fun y hy => ?_, r.rx.step, ?_, fun y hy => ?_, fun y hy h => bset.mpr (.inr (r.old y hy h))⟩
  · rcases bset.mp hy with ⟨rfl, _⟩ | h
    · exact r.rx
    · exact r.sub y h
  · rcases r.st with h | rfl
    · exact .inl (bset.mpr (.inr h))
    · exact .inl (bset.mpr (.inl ⟨rfl, hx⟩))
  · rcases bset.mp hy with ⟨rfl, _⟩ | h
    · exact .inr rfl
    · rcases r.cl y h with h' | h'
      · exact .inl (bset.mpr (.inr h'))
      · exact .inl (bset.mpr (.inl ⟨h', hx⟩))
/-- behind the circle -/
theorem Round.end_ {ps : List Nat} {n m : Nat} {gs : List Bool} {x : Nat} (r : Round ps n m gs x) (hg : gs[x]? = some true) (y : Nat) (hy : y < n) (hp : ∀ y, y < n → ps.getD y 0 < n) : gs[y]? = some true ↔ Rch ps (m + 1) y := by
  constructor
  · exact r.sub y
  · rintro ⟨s, hs, k, rfl⟩
    have cl : ∀ z, gs[z]? = some true → gs[ps.getD z 0]? = some true := fun z hz => by
      rcases r.cl z hz with h | h
      · exact h
      · rw [h]
        exact hg
    by_cases e : s = m
    · subst e
      have h0 : gs[s]? = some true := by
        rcases r.st with h | rfl
        · exact h
        · exact hg
      clear hy
      induction k with
      | zero => exact h0
      | succ k ih => exact cl _ ih
    · exact r.old _ hy ⟨s, by omega, k, rfl⟩
def falses (gs : List Bool) : Nat := gs.countP (!·)
theorem falses_set {gs : List Bool} {x : Nat} (h : gs[x]? = some false) : falses (gs.set x true) < falses gs := by
  unfold falses
  induction gs generalizing x with
  | nil => cases h
  | cons g r ih =>
    cases x with
    | zero =>
      have : g = false := Option.some.inj h
      subst this
      simp
    | succ x =>
      have := ih (x := x) h
      simp only [List.set_cons_succ, List.countP_cons]
      omega
def bV (gs : List Bool) : List V := gs.map V.bl
theorem at_bV {gs : List Bool} {i : Nat} {b : Bool} (h : gs[i]? = some b) : atI (bV gs) (i : Int) = some (.bl b) := atI_nat (by unfold bV; rw [List.getElem?_map, h]; rfl)
theorem bV_set (gs : List Bool) (i : Nat) (b : Bool) : (bV gs).set i (.bl b) = bV (gs.set i b) := by
  unfold bV
  rw [List.map_set]
theorem getb {gs : List Bool} {n i : Nat} (h : gs.length = n) (hi : i < n) : ∃ b, gs[i]? = some b := ⟨_, List.getElem?_eq_getElem (by omega)⟩
section
variable {P : Program} {w : World} {K : PySem.W.Frag} {mg : Str → Option Value} {base : Heap} {f : Addr} {fd : FuncData}
theorem ok_cycles_in (F : FnP K "cycles_in" s_cycles_in f fd) (Z : Zs mg) : FnOk P w K mg base CX0 1 f fd ["places"] (spCyc K) := by
  refine F.ok sc_cycles_in (fun vs H Q E h => ?_) (fun cdv A outer s H vs Q E hr h => ⟨_, PSs.nox (pss_cons (ps_par (i := 1) (j := 2) rfl sc_cycles_in.nd rfl rfl (by decide) rfl rfl (pa_cons pe_int (pa_cons (pe_op op_rep (pe_lst (pa_cons pe_bl pa_nil)) (pe_callB (kc_len (K := K)) (by rfl) Z.len PySem.boot_len (pa_cons (pv 0) pa_nil))) pa_nil)) (by rfl))
  (pss_cons (ps_for PassesOwn.never rfl (pi_range1 (by rfl) Z.range (pa_cons (pe_callB (kc_len (K := K)) (by rfl) Z.len PySem.boot_len (pa_cons (pv 0) pa_nil)) pa_nil)) (pg_name (i := 3) sc_cycles_in.nd rfl (by first | exact Or.inl rfl | exact Or.inr rfl)) (pss_cons (ps_if (pt_not (pt_val (pe_ix (kx_list (K := K)) (pv 2) (pv 3) (fun _ _ => rfl)))) (pss_one (ps_set (i := 1) sc_cycles_in.nd rfl (by first | exact Or.inl rfl | exact Or.inr rfl) (pe_op op_add (pv 1) pe_int))) pss_nil)
  (pss_cons (ps_set (i := 4) sc_cycles_in.nd rfl (by first | exact Or.inl rfl | exact Or.inr rfl) (pv 3))
  (pss_one (ps_while PassesOwn.never (pt_not (pt_val (pe_ix (kx_list (K := K)) (pv 2) (pv 4) (fun _ _ => rfl)))) (pss_cons (ps_asg pe_bl (pg_sub (pv 2) (pv 4) set_list))
  (pss_one (ps_set (i := 4) sc_cycles_in.nd rfl (by first | exact Or.inl rfl | exact Or.inr rfl) (pe_ix (kx_tup (K := K)) (pv 0) (pv 4) (fun _ _ => rfl))))))))))
  (pss_one (ps_ret (pv 1))))), ?_⟩)
  · obtain ⟨n, a, ps, rfl, _⟩ := h
    rfl
  · obtain ⟨n, a, ps, rfl, ha, pn, pin, few, k⟩ := h
    have lenA : (((nI ps).map V.int).length : Int) = (n : Int) := by rw [List.length_map, nI_len, pn]
    have hp : ∀ y, y < n → ps.getD y 0 < n := fun y hy => by
      have h2 : y < ps.length := by omega
      rw [List.getD_eq_getElem?_getD, List.getElem?_eq_getElem h2]
      exact pin _ (List.getElem_mem h2)
    refine ⟨by decide, fun l1 hl1 => ⟨_, rfl, a, _, rfl, .inr (ha.ex (Ex.new hl1)).sq, ?_⟩⟩
    rw [lenA]
    refine rep_lst upd_same (by omega) fun g hg => ⟨_, _, rfl, ?_⟩
    have e1 := (Ex.new (o := .lst [V.bl false]) hl1).trans (Ex.new (o := .lst (List.replicate n (V.bl false))) hg)
    have Hg : H g = none := by
      by_cases c : g = l1
      · rw [c]; exact hl1
      · rw [upd_ne c] at hg; exact hg
    have g0 : upd (upd H l1 (.lst [V.bl false])) g (.lst (List.replicate n (V.bl false))) g = some (.lst (bV (List.replicate n false))) := by
      unfold bV
      rw [List.map_replicate]
      exact upd_same
    generalize upd (upd H l1 (.lst [V.bl false])) g (.lst (List.replicate n (V.bl false))) = H1 at e1 g0 ⊢
    refine ⟨_, rfl, a, _, rfl, .inr (ha.ex e1).sq, _, rfl, by omega, by rw [lenA]; omega, ?_⟩
    rw [show ((((nI ps).map V.int).length : Nat) : Int).toNat = n by rw [lenA]; omega]
    refine for_range (lo := 0) (n := n) (fun i σ H' => Ex H H' ∧ ∃ gs v1 v2, H' g = some (.lst (bV gs)) ∧ gs.length = n ∧ (∀ y, y < n → (gs[y]? = some true ↔ Rch ps i y)) ∧ σ = [some (.ref a), some (.int (cycN ps i)), some (.ref g), v1, v2]) ⟨e1, List.replicate n false, none, none, g0, List.length_replicate .., fun y hy => ⟨fun h => ?_, fun ⟨s, hs, _⟩ => by omega⟩, rfl⟩ (fun i σ H' hi z => ?_) (fun σ H' z => ?_)
    · rw [List.getElem?_replicate, if_pos hy] at h
      cases h
    · obtain ⟨ex, gs, v1, v2, hgs, gl, gi, rfl⟩ := z
      have e0 : (0 : Int) + (i : Int) = (i : Int) := by omega
      show gName _ (V.int ((0 : Int) + (i : Int))) _ _ _
      rw [e0]
      obtain ⟨b, hb⟩ := getb gl hi
      refine if_join (fun σ' H2 => H2 = H' ∧ σ' = [some (.ref a), some (.int (cycN ps (i + 1))), some (.ref g), some (.int (i : Int)), v2]) ?_ ?_
      · rintro σ' H2 ⟨rfl, rfl⟩
        refine ⟨_, rfl, while_split (fun m σ' H2 => Ex H H2 ∧ ∃ gs x, H2 g = some (.lst (bV gs)) ∧ Round ps n i gs x ∧ falses gs = m ∧ σ' = [some (.ref a), some (.int (cycN ps (i + 1))), some (.ref g), some (.int (i : Int)), some (.int (x : Int))])
          (fun σ' H2 => Ex H H2 ∧ ∃ gs v1 v2, H2 g = some (.lst (bV gs)) ∧ gs.length = n ∧ (∀ y, y < n → (gs[y]? = some true ↔ Rch ps (i + 1) y)) ∧ σ' = [some (.ref a), some (.int (cycN ps (i + 1))), some (.ref g), v1, v2]) ?_ (fun σ' H2 h => h) ?_⟩
        · refine ⟨_, ex, gs, i, hgs, ⟨gl, hi, fun y hy => ?_, ⟨i, by omega, 0, rfl⟩, .inr rfl, fun y hy => ?_, fun y hy h => (gi y hy).mpr h⟩, rfl, rfl⟩
          · exact ((gi y (by have := (List.getElem?_eq_some_iff.mp hy).1; omega)).mp hy).mono (by omega)
          · have hy2 : y < n := by have := (List.getElem?_eq_some_iff.mp hy).1; omega
            exact .inl ((gi _ (hp y hy2)).mpr ((gi y hy2).mp hy).step)
        · rintro nx hn m σ' H2 ⟨ex2, gs2, x, hgs2, r, rfl, rfl⟩
          obtain ⟨b2, hb2⟩ := getb r.len r.lt
          refine ⟨_, rfl, _, rfl, g, _, _, _, rfl, rfl, sq_of hgs2, at_bV hb2, _, rfl, ?_⟩
          cases b2 with
          | true => exact iteF (hn _ _ ⟨ex2, gs2, _, _, hgs2, r.len, fun y hy => r.end_ hb2 y hy hp, rfl⟩)
          | false =>
            refine iteT ⟨_, fun σ' H' h => h, _, rfl, _, rfl, g, _, _, _, rfl, rfl, hgs2, ixN_nat (by unfold bV; rw [List.length_map, r.len]; exact r.lt), ?_⟩
            rw [bV_set]
            have ex3 := ex_side (o := .lst (bV (gs2.set x true))) ex2 Hg
            refine ⟨_, rfl, _, rfl, a, _, _, _, rfl, rfl, (ha.ex ex3).sq, at_nI (by have := r.lt; omega), _, falses_set hb2, ex3, _, _, upd_same, r.turn hp, rfl, rfl⟩
      · intro nx hn
        refine ⟨_, rfl, _, rfl, g, _, _, _, rfl, rfl, sq_of hgs, at_bV hb, _, rfl, ?_⟩
        have gii := gi i hi
        rw [hb] at gii
        cases b with
        | true =>
          refine iteF (hn _ _ ⟨rfl, ?_⟩)
          rw [cycN_succ, if_pos (gii.mp rfl)]
          rfl
        | false =>
          refine iteT ⟨_, rfl, _, _, rfl, rfl, hn _ _ ⟨rfl, ?_⟩⟩
          rw [cycN_succ, if_neg (fun h => by cases gii.mpr h)]
          rfl
    · obtain ⟨ex, gs, v1, v2, hgs, gl, gi, rfl⟩ := z
      exact ⟨_, rfl, k _ ex⟩
theorem ok_sign_of (F : FnP K "sign_of" s_sign_of f fd) (Z : Zs mg) (G_cycles_in : Fn P w K mg base CX0 1 "cycles_in" s_cycles_in ["places"] (spCyc K)) : FnOk P w K mg base CX0 2 f fd ["letters", "exchange"] (spSign K) := by
  refine F.ok sc_sign_of (fun vs H Q E h => ?_) (fun cdv A outer s H vs Q E hr h => ⟨_, PSs.nox (pss_cons (ps_asg (pv 1) (pg_tup rfl (pgs_cons (pg_name (i := 2) sc_sign_of.nd rfl (by first | exact Or.inl rfl | exact Or.inr rfl)) (pgs_cons (pg_name (i := 3) sc_sign_of.nd rfl (by first | exact Or.inl rfl | exact Or.inr rfl)) pgs_nil))))
  (pss_cons (ps_set (i := 4) sc_sign_of.nd rfl (by first | exact Or.inl rfl | exact Or.inr rfl) (pe_op op_sub (pe_callB (kc_len (K := K)) (by rfl) Z.len PySem.boot_len (pa_cons (pv 2) pa_nil)) (pe_callF G_cycles_in (hr.mono (by decide)) rfl pass0 (pa_cons (pv 2) pa_nil))))
  (pss_cons (ps_if (pt_cmpR op_eq (pv 0) pe_int (nomark _)) (pss_one (ps_set (i := 4) sc_sign_of.nd rfl (by first | exact Or.inl rfl | exact Or.inr rfl) (pe_op op_add (pv 4) (pe_callB (kc_len (K := K)) (by rfl) Z.len PySem.boot_len (pa_cons (pe_lc (own := [("sign", 5)]) (g := (gName 5)) rfl sc_sign_of.nd (pi_tup (pv 3)) (blkOk_by (own := [("sign", 5)]) (N := ["letters", "exchange", "places", "signs", "steps", "sign"]) (sc := defScope s_sign_of) (by decide +kernel)) (fun _ _ _ _ _ => (pg_name (i := 5) sc_sign_of.nd rfl (Or.inl rfl))) (fun _ _ _ _ _ => (pts_one (pt_cmpR op_eq (pv 5) pe_int (nomark _)))) (fun _ _ _ _ _ => (pv 5))) pa_nil))))) pss_nil)
  (pss_one (ps_ret (pe_ifExp (pt_cmpR op_eq (pe_op op_mod (pv 4) pe_int) pe_int (nomark _)) pe_int (pe_un un_neg pe_int))))))), ?_⟩)
  · obtain ⟨q, n, e, ps, ss, rfl, _⟩ := h
    rfl
  · obtain ⟨q, n, e, ps, ss, rfl, ⟨a, b, he, ha, hb⟩, x, k⟩ := h
    have few := x.few
    have pn := x.pn
    have sn := x.sn
    have lenA : (((nI ps).map V.int).length : Int) = (n : Int) := by rw [List.length_map, nI_len, pn]
    refine ⟨_, rfl, e, _, rfl, he.sq, rfl, _, _, rfl, _, _, rfl, rfl, ?_⟩
    refine ⟨_, rfl, a, _, rfl, .inr ha.sq, _, rfl, n, a, ps, rfl, ha, pn, x.pin, few, fun H1 e1 => ⟨_, _, rfl, rfl, ?_⟩⟩
    rw [lenA]
    dsimp only [gName]
    refine if_join (fun σ' H2 => Ex H H2 ∧ ∃ v, σ' = [some (.int q), some (.ref e), some (.ref a), some (.ref b), some (.int ((n : Int) - cycN ps n + (if q = 3 then ((ss.countP fun s => decide (s = 2) : Nat) : Int) else 0))), v]) ?_ ?_
    · rintro σ' H2 ⟨ex, v, rfl⟩
      have kk := k _ ex
      unfold sgnX at kk
      rw [pn] at kk
      refine ⟨_, rfl, _, _, rfl, rfl, (show (0 : Int) < 2 by decide), rfl, _, rfl, ?_⟩
      rw [dec_int]
      by_cases c : ((n : Int) - cycN ps n + (if q = 3 then ((ss.countP fun s => decide (s = 2) : Nat) : Int) else 0)) % 2 = 0
      · rw [if_pos c] at kk
        rw [c]
        exact iteT kk
      · rw [if_neg c] at kk
        rw [beq_eq_false_iff_ne.mpr c]
        exact iteF ⟨_, rfl, kk⟩
    · intro nx hn
      refine ⟨_, rfl, rfl, _, rfl, ?_⟩
      rw [dec_int]
      by_cases c : q = 3
      · subst c
        refine iteT ⟨_, rfl, _, rfl, b, rfl, ⟨_, (hb.ex e1).sq⟩, lcP (walk_tup (xs := ss.map V.int)) (fun H' ee => ((hb.ex e1).ex ee).sq) (by rw [List.length_map]; omega) (fun i => decide (ss.getD i 0 = 2)) (fun i => V.int (ss.getD i 0)) (fun i H1 z H2 hi e1 y K1 K0 k1 k0 => ?_) (fun p H2 hp e2 h2 => ?_)⟩
        · obtain ⟨rfl, g⟩ := y
          obtain ⟨rfl, hi⟩ := int_at g
          refine ⟨rfl, _, rfl, rfl, _, rfl, ?_⟩
          rw [dec_int]
          by_cases c : ss.getD i 0 = 2
          · rw [c, beq_self_eq_true]
            refine iteT ⟨_, rfl, ?_⟩
            have := k1 (decide_eq_true c) _ (Ex.refl _)
            rw [c] at this
            exact this
          · rw [beq_eq_false_iff_ne.mpr c]
            exact iteF (k0 (decide_eq_false c) _ (Ex.refl _))
        · refine ⟨p, _, rfl, .inl (sq_of h2), _, _, rfl, rfl, hn _ _ ⟨e1.trans e2, none, ?_⟩⟩
          rw [List.length_map, given_count ss (fun s => decide (s = 2)), if_pos rfl]
          rfl
      · rw [beq_eq_false_iff_ne.mpr c]
        refine iteF (hn _ _ ⟨e1, none, ?_⟩)
        rw [if_neg c, Int.add_zero]
        rfl
end
end K31

namespace K31
open PySem PySem.Spec PyProof.Rows L2 Evl Own
section
variable {P : Program} {w : World} {K : PySem.W.Frag} {mg : Str → Option Value} {base : Heap} {f : Addr} {fd : FuncData}
theorem ok__law_source (F : FnP K "_law_source" s__law_source f fd) (Z : Zs mg) : FnOk P w K mg base CX0 1 f fd ["script", "salt"] (spDeal 1 K) := by
  refine F.ok sc__law_source (fun vs H Q E h => ?_) (fun cdv A outer s H vs Q E hr h => ⟨_, PSs.nox (pss_cons (ps_setLc (i := 2) (own := [("cell", 3)]) (g := (gName 3)) rfl sc__law_source.nd rfl rfl (sw_true rfl rfl rfl (by decide +kernel)) (pi_list (pe_slice (ksl_list (K := K)) (pv 0) po_none (po_some pe_int))) (blkOk_by (own := [("cell", 3)]) (N := ["script", "salt", "numbers", "cell", "blend"]) (sc := defScope s__law_source) (by decide +kernel)) (fun _ _ _ _ _ => (pg_name (i := 3) sc__law_source.nd rfl (Or.inl rfl))) (fun _ _ _ _ _ => pts_nil) (fun _ _ _ _ _ => (pe_callB call_abs (by rfl) Z.abs (by decide +kernel) (pa_cons (pe_callTy call_int1 (by rfl) Z.int (by decide +kernel) (pa_cons (pv 3) pa_nil)) pa_nil))))
  (pss_cons (ps_set (i := 4) sc__law_source.nd rfl (by first | exact Or.inl rfl | exact Or.inr rfl) (pe_op op_add pe_int (pe_op op_mul pe_int (pv 1))))
  (pss_cons (ps_for PassesOwn.never rfl (pi_list (pv 2)) (pg_name (i := 3) sc__law_source.nd rfl (by first | exact Or.inl rfl | exact Or.inr rfl)) (pss_one (ps_set (i := 4) sc__law_source.nd rfl (by first | exact Or.inl rfl | exact Or.inr rfl) (pe_op op_mod (pe_callTy call_int1 (by rfl) Z.int (by decide +kernel) (pa_cons (pe_op op_add (pe_op op_add (pe_op op_mul (pv 4) pe_int) (pe_op op_mod (pv 3) pe_int)) pe_int) pa_nil)) pe_int))))
  (pss_one (ps_ret (pe_lst (pa_cons (pe_revL (pe_lc (own := [("cell", 3)]) (g := (gName 3)) rfl sc__law_source.nd (pi_list (pv 2)) (blkOk_by (own := [("cell", 3)]) (N := ["script", "salt", "numbers", "cell", "blend"]) (sc := defScope s__law_source) (by decide +kernel)) (fun _ _ _ _ _ => (pg_name (i := 3) sc__law_source.nd rfl (Or.inl rfl))) (fun _ _ _ _ _ => (pts_one (pt_cmpR op_ge (pv 3) (pe_op op_pow pe_int pe_int) (nomark _)))) (fun _ _ _ _ _ => (pv 3)))) (pa_cons (pv 4) pa_nil)))))))), ?_⟩)
  · obtain ⟨a, ns, salt, rfl, _⟩ := h
    rfl
  · obtain ⟨a, ns, salt, rfl, ha, s0, s1, k⟩ := h
    obtain ⟨ms, hm, hml⟩ := cut_ints ns none (some 63)
    have hm63 := cut_len63 ns
    rw [hm, List.length_map] at hm63
    refine ⟨_, rfl, _, rfl, a, _, rfl, ha, fun p hp => ⟨p, rfl, ⟨_, sq_of upd_same⟩, ?_⟩⟩
    rw [hm]
    have e1 := Ex.new (o := .lst (ms.map V.int)) hp
    refine lcP (Q := fun _ _ => _) (walk_list (xs := ms.map V.int)) (fun H' e => sq_of (e _ _ upd_same)) (by rw [List.length_map]; omega) (fun _ => true) (fun i => V.int (if ms.getD i 0 < 0 then -(ms.getD i 0) else ms.getD i 0)) (fun i H1 x H2 hi e y K1 K0 k1 k0 => ?_) (fun q H2 hq e2 h2 => ?_)
    · obtain ⟨rfl, g⟩ := y
      obtain ⟨rfl, _⟩ := int_at g
      exact ⟨rfl, yes_go ⟨_, rfl, .inl ⟨_, rfl, _, rfl, k1 rfl _ (Ex.refl _)⟩⟩⟩
    · rw [given_all, List.length_map, range_map 0 (fun x => V.int (if x < 0 then -x else x)), show (ms.map fun x => V.int (if x < 0 then -x else x)) = (ms.map fun x => if x < 0 then -x else x).map V.int by rw [List.map_map]; rfl] at h2
      have hpos : ∀ x ∈ ms.map (fun x => if x < 0 then -x else x), 0 ≤ x := fun x hx => by
        obtain ⟨y, _, rfl⟩ := List.mem_map.mp hx
        split <;> omega
      have hlen : (ms.map fun x => if x < 0 then -x else x).length ≤ 63 := by rw [List.length_map]; omega
      generalize (ms.map fun x => if x < 0 then -x else x) = cs at h2 hpos hlen
      have e12 := e1.trans e2
      refine ⟨_, rfl, _, _, rfl, rfl, .inl ⟨by decide, by decide⟩, _, _, rfl, rfl, ?_⟩
      refine ⟨_, rfl, q, rfl, ⟨_, sq_of h2⟩, for_list (xs := cs.map V.int) (fun i σ H' => H' = H2 ∧ ∃ (v : Option V) (mix : Int), 0 ≤ mix ∧ mix < 2147483647 ∧ σ = [some (.ref a), some (.int salt), some (.ref q), v, some (.int mix)]) ⟨rfl, none, _, ?_, ?_, rfl⟩ (fun i σ H' _ h => h.1 ▸ sq_of h2) (fun i x σ H' hx z => ?_) (fun σ H' z => ?_)⟩
      · omega
      · omega
      · obtain ⟨rfl, v, mix, m0, m1, rfl⟩ := z
        obtain ⟨rfl, _⟩ := int_at hx
        refine ⟨_, rfl, _, _, rfl, rfl, .inr ⟨by decide, by decide⟩, _, rfl, _, _, rfl, rfl, (show (0 : Int) < 2147483549 by decide), _, _, rfl, rfl, _, _, rfl, rfl, .inl ⟨_, rfl, _, _, rfl, rfl, (show (0 : Int) < 2147483647 by decide), ?_⟩⟩
        exact ⟨rfl, _, _, Int.emod_nonneg _ (by decide), Int.emod_lt_of_pos _ (by decide), rfl⟩
      · obtain ⟨rfl, v, mix, m0, m1, rfl⟩ := z
        refine ⟨_, rfl, q, rfl, ⟨_, sq_of h2⟩, lcP (walk_list (xs := cs.map V.int)) (fun H' e => sq_of (e _ _ h2)) (by rw [List.length_map]; omega) (fun i => decide (10 ^ 18 ≤ cs.getD i 0)) (fun i => V.int (cs.getD i 0)) (fun i H1 x H3 hi e y K1 K0 k1 k0 => ?_) (fun r H3 hr e3 h3 => ?_)⟩
        · obtain ⟨rfl, g⟩ := y
          obtain ⟨rfl, _⟩ := int_at g
          refine ⟨rfl, _, rfl, _, _, rfl, rfl, ⟨by decide, by decide, by decide⟩, _, _, rfl, rfl, _, rfl, ?_⟩
          by_cases c : (10 : Int) ^ 18 ≤ cs.getD i 0
          · have c' : (10 : Int) ^ (18 : Int).toNat ≤ cs.getD i 0 := c
            rw [decide_eq_true c']
            exact iteT ⟨_, rfl, k1 (decide_eq_true c) _ (Ex.refl _)⟩
          · have c' : ¬ (10 : Int) ^ (18 : Int).toNat ≤ cs.getD i 0 := c
            rw [decide_eq_false c']
            exact iteF (k0 (decide_eq_false c) _ (Ex.refl _))
        · have e13 := e12.trans e3
          rw [given_ints, List.length_map] at h3
          refine ⟨r, _, rfl, sq_of h3, ?_⟩
          rw [← List.map_reverse]
          refine fun t ht => ⟨_, rfl, (by show 2 ≤ sizeLine; decide), fun d hd => k d t _ ?_⟩
          clear h3
          have hlen2 : (((List.range cs.length).filter fun i => decide ((10 : Int) ^ 18 ≤ cs.getD i 0)).map fun i => cs.getD i 0).length ≤ cs.length := by
            rw [List.length_map]
            exact Nat.le_trans (List.length_filter_le _ _) (by rw [List.length_range]; exact Nat.le_refl _)
          have hpos2 : ∀ x ∈ (((List.range cs.length).filter fun i => decide ((10 : Int) ^ 18 ≤ cs.getD i 0)).map fun i => cs.getD i 0), 0 ≤ x := fun x hx => by
            obtain ⟨i, hi, rfl⟩ := List.mem_map.mp hx
            exact hpos _ (Own.getD_mem (List.mem_range.mp (List.mem_filter.mp hi).1))
          generalize (((List.range cs.length).filter fun i => decide ((10 : Int) ^ 18 ≤ cs.getD i 0)).map fun i => cs.getD i 0) = ds at hlen2 hpos2 hd
          have td : t ≠ d := fun e => by
            subst e
            rw [upd_same] at hd
            cases hd
          have hd3 : H3 d = none := by
            rw [upd_ne td.symm] at hd
            exact hd
          refine (Wd.wl (cs := ds.reverse) (ms := [mix]) ⟨e13.trans ((Ex.new ht).trans (Ex.new hd)), fresh_back e13 hd3, fresh_back e13 ht, td.symm, upd_same, by rw [upd_ne td]; exact upd_same, fun x hx => hpos2 x (List.mem_reverse.mp hx), rfl, by rw [List.length_reverse]; omega⟩)
theorem ok__law_any (F : FnP K "_law_any" s__law_any f fd) (Z : Zs mg) : FnOk P w K mg base CX0 1 f fd ["draws", "bound"] (spAny 1) := by
  refine F.ok sc__law_any (fun vs H Q E h => ?_) (fun cdv A outer s H vs Q E hr h => ⟨_, PSs.nox (pss_cons (ps_while PassesOwn.never (PW.pt (pw_and (pt_cmpR (ko_ne (K := K) hr.units) (pe_ix (kx_list (K := K)) (pv 0) pe_int (fun _ _ => rfl)) (pe_lst pa_nil) (nomark _)) (pw_and1 (pt_cmpR op_eq (pe_ix (kx_list (K := K)) (pe_ix (kx_list (K := K)) (pv 0) pe_int (fun _ _ => rfl)) (pe_un un_neg pe_int) (fun _ _ => rfl)) pe_int (nomark _))))) (pss_one (ps_expr (km_bm0 (K := K) PySem.F.plainAttrs_list PySem.F.slot_list_pop PySem.F.type_list_pop mt_pop (pe_ix (kx_list (K := K)) (pv 0) pe_int (fun _ _ => rfl))))))
  (pss_cons (ps_if (pt_cmpR (ko_ne (K := K) hr.units) (pe_ix (kx_list (K := K)) (pv 0) pe_int (fun _ _ => rfl)) (pe_lst pa_nil) (nomark _)) (pss_cons (ps_set (i := 2) sc__law_any.nd rfl (by first | exact Or.inl rfl | exact Or.inr rfl) (pe_callTy call_int1 (by rfl) Z.int (by decide +kernel) (pa_cons (km_bm0 (K := K) PySem.F.plainAttrs_list PySem.F.slot_list_pop PySem.F.type_list_pop mt_pop (pe_ix (kx_list (K := K)) (pv 0) pe_int (fun _ _ => rfl))) pa_nil)))
  (pss_cons (ps_expr (km_bm (K := K) PySem.F.plainAttrs_list PySem.F.slot_list_append PySem.F.type_list_append mt_append (pe_ix (kx_list (K := K)) (pv 0) pe_int (fun _ _ => rfl)) (pa_cons (pe_op op_fdivW (pv 2) (pv 1)) pa_nil)))
  (pss_one (ps_ret (pe_op op_mod (pe_callTy call_int1 (by rfl) Z.int (by decide +kernel) (pa_cons (pv 2) pa_nil)) (pv 1)))))) pss_nil)
  (pss_cons (ps_asg (pe_op op_mod (pe_callTy call_int1 (by rfl) Z.int (by decide +kernel) (pa_cons (pe_op op_add (pe_op op_mul (pe_ix (kx_list (K := K)) (pv 0) pe_int (fun _ _ => rfl)) pe_int) pe_int) pa_nil)) pe_int) (pg_sub (pv 0) pe_int set_list))
  (pss_one (ps_ret (pe_op op_mod (pe_callTy call_int1 (by rfl) Z.int (by decide +kernel) (pa_cons (pe_op op_fdivW (pe_ix (kx_list (K := K)) (pv 0) pe_int (fun _ _ => rfl)) pe_int) pa_nil)) (pv 1))))))), ?_⟩)
  · obtain ⟨a, l, R, b, rfl, _⟩ := h
    rfl
  · obtain ⟨a, l, R, b, rfl, hw, b0, bl, k⟩ := h
    refine while_split (fun m σ H' => σ = [some (.ref a), some (.int b), none] ∧ ∃ cs ms, Wd 1 a l R H' cs ms ∧ cs.length = m) (fun σ H' => σ = [some (.ref a), some (.int b), none] ∧ ∃ cs ms, Wd 1 a l R H' cs ms) ?_ ?_ ?_
    · obtain ⟨cs, ms, hd⟩ := hw.wd
      exact ⟨_, rfl, cs, ms, hd, rfl⟩
    · rintro σ H' ⟨rfl, cs, ms, hd⟩
      obtain ⟨m, rfl⟩ := List.length_eq_one_iff.mp hd.is.mn
      refine ⟨_, rfl, a, _, 0, .ref l, rfl, rfl, sq_of hd.is.ha, rfl, by decide, fun z hz => ?_⟩
      have hd1 := hd.keep (Ex.new (o := .lst []) hz)
      refine ne_nil hd1.is.hl upd_same ?_
      rcases cases_last cs with rfl | ⟨ds, x, rfl⟩
      · refine ⟨_, rfl, iteF ?_⟩
        refine ⟨_, rfl, a, _, 1, .int m, rfl, rfl, sq_of hd1.is.ha, rfl, _, _, rfl, rfl, .inr ⟨by decide, by decide⟩, _, _, rfl, rfl, .inl ⟨_, rfl, _, _, rfl, rfl, (show (0 : Int) < 2147483647 by decide), _, rfl, a, _, 1, 1, rfl, rfl, hd1.is.ha, rfl, ?_⟩⟩
        have hd3 := hd1.nums (ms' := [(m * 48271 + 59) % 2147483647]) rfl
        refine ⟨_, rfl, a, _, 1, .int _, rfl, rfl, sq_of hd3.is.ha, rfl, _, _, rfl, rfl, ⟨by decide, by decide⟩, .inl ⟨_, rfl, _, rfl, _, _, rfl, rfl, b0, k _ _ (Int.emod_nonneg _ (by omega)) (Int.emod_lt_of_pos _ b0) hd3.wl⟩⟩
      · rw [not_empty]
        refine ⟨_, rfl, iteT ?_⟩
        refine ⟨_, rfl, a, _, 0, .ref l, rfl, rfl, sq_of hd1.is.ha, rfl, .inl ⟨rfl, _, sq_of hd1.is.hl⟩, l, _, _, rfl, rfl, hd1.is.hl, (pop_last ds x).1, ?_⟩
        rw [(pop_last ds x).2]
        have hx : 0 ≤ x := hd1.is.pos x (by simp)
        have hlen := hd1.is.len
        rw [List.length_append, List.length_singleton] at hlen
        have hd2 := hd1.cells (ds := ds) (fun x hx => hd1.is.pos x (List.mem_append_left _ hx)) (by omega)
        refine .inl ⟨_, rfl, ?_⟩
        refine ⟨_, rfl, a, _, 0, .ref l, rfl, rfl, sq_of hd2.is.ha, rfl, .inl ⟨rfl, _, sq_of hd2.is.hl⟩, _, rfl, _, rfl, _, _, rfl, rfl, ⟨b0, bl⟩, l, _, _, rfl, rfl, hd2.is.hl, sz_lt (by rw [List.length_map]; omega), ?_⟩
        have hd3 := hd2.cells (ds := ds ++ [x / b]) (fun y hy => by
          rcases List.mem_append.mp hy with h | h
          · exact hd1.is.pos y (List.mem_append_left _ h)
          · rw [List.mem_singleton.mp h]
            exact Int.ediv_nonneg hx (by omega)) (by rw [List.length_append, List.length_singleton]; omega)
        rw [List.map_append] at hd3
        exact ⟨_, rfl, .inl ⟨_, rfl, _, rfl, _, _, rfl, rfl, b0, k _ _ (Int.emod_nonneg _ (by omega)) (Int.emod_lt_of_pos _ b0) hd3.wl⟩⟩
    · rintro nx hn m0 σ H' ⟨rfl, cs, ms, hd, rfl⟩
      obtain ⟨m, rfl⟩ := List.length_eq_one_iff.mp hd.is.mn
      refine ⟨_, rfl, a, _, 0, .ref l, rfl, rfl, sq_of hd.is.ha, rfl, by decide, fun z hz => ?_⟩
      have hd1 := hd.keep (Ex.new (o := .lst []) hz)
      refine ne_nil hd1.is.hl upd_same ?_
      rcases cases_last cs with rfl | ⟨ds, x, rfl⟩
      · exact ⟨_, rfl, iteF (iteF (hn _ _ ⟨rfl, _, _, hd1⟩))⟩
      · rw [not_empty]
        refine ⟨_, rfl, iteT ?_⟩
        refine ⟨_, rfl, a, _, 0, .ref l, rfl, rfl, sq_of hd1.is.ha, rfl, _, rfl, l, _, _, _, rfl, rfl, sq_of hd1.is.hl, at_last ds x, rfl, _, rfl, ?_⟩
        rw [dec_int]
        by_cases hx : x = 0
        · subst hx
          refine iteT ⟨_, fun σ' H' h => h, ⟨_, rfl, a, _, 0, .ref l, rfl, rfl, sq_of hd1.is.ha, rfl, .inl ⟨rfl, _, sq_of hd1.is.hl⟩, l, _, _, rfl, rfl, hd1.is.hl, (pop_last ds 0).1, ?_⟩⟩
          rw [(pop_last ds 0).2]
          exact ⟨ds.length, by rw [List.length_append, List.length_singleton]; omega, rfl, ds, _, hd1.cells (fun x hx => hd1.is.pos x (List.mem_append_left _ hx)) (by have := hd1.is.len; rw [List.length_append] at this; omega), rfl⟩
        · rw [beq_eq_false_iff_ne.mpr hx]
          exact iteF (hn _ _ ⟨rfl, _, _, hd1⟩)
theorem ok__law_of (F : FnP K "_law_of" s__law_of f fd) (Z : Zs mg) (G__law_any : Fn P w K mg base CX0 1 "_law_any" s__law_any ["draws", "bound"] (spAny 1)) : FnOk P w K mg base CX0 2 f fd ["draws", "some"] (spOf 1 K) := by
  refine F.ok sc__law_of (fun vs H Q E h => ?_) (fun cdv A outer s H vs Q E hr h => ⟨_, PSs.nox (pss_one (ps_ret (pe_ix (kx_list (K := K)) (pv 1) (pe_callF G__law_any (hr.mono (by decide)) rfl pass0 (pa_cons (pv 0) (pa_cons (pe_callB (kc_len (K := K)) (by rfl) Z.len PySem.boot_len (pa_cons (pv 1) pa_nil)) pa_nil))) (fun _ _ => rfl)))), ?_⟩)
  · obtain ⟨a, l, p, R, xs, rfl, _⟩ := h
    rfl
  · obtain ⟨a, l, p, R, xs, rfl, hw, hp, hne, hz, k⟩ := h
    have hlen : 0 < xs.length := List.length_pos_iff.mpr hne
    refine ⟨_, rfl, _, rfl, _, rfl, p, _, rfl, .inl (ex_l hw.ex hp), a, l, R, (xs.length : Int), rfl, hw, Int.ofNat_lt.mpr hlen, ?_, fun r H1 h0 h1 hw1 => ?_⟩
    · have := Nat.log2_le_self xs.length
      show xs.length.log2 < 9000
      omega
    · have hi : r.toNat < xs.length := by omega
      have hx : xs[r.toNat]? = some xs[r.toNat] := List.getElem?_eq_getElem hi
      refine ⟨p, _, r, xs[r.toNat], rfl, rfl, ex_l hw1.ex hp, ?_, k _ _ (List.getElem_mem hi) hw1⟩
      have e : r = ((r.toNat : Nat) : Int) := by omega
      have := atI_nat hx
      rw [← e] at this
      exact this
theorem ok__law_same0 (F : FnP K "_law_same" s__law_same f fd) (Z : Zs mg) : FnOk P w K mg base CX0 1 f fd ["found", "due"] (spSameR K 0) :=
  F.ok sc__law_same (fun vs H Q E h => h.elim) (fun cdv A outer s H vs Q E hr h => h.elim)
theorem ok__law_sameS {n : Nat} (F : FnP K "_law_same" s__law_same f fd) (Z : Zs mg) (G__law_same : Fn P w K mg base CX0 (n + 1) "_law_same" s__law_same ["found", "due"] (spSameR K n)) : FnOk P w K mg base CX0 (n + 2) f fd ["found", "due"] (spSame K n) := by
  refine F.ok sc__law_same (fun vs H Q E h => ?_) (fun cdv A outer s H vs Q E hr h => ⟨_, PSs.nox (pss_cons (ps_if (pt_val (pe_callB (kc_isi (K := K)) (by rfl) Z.isinstance (by decide +kernel) (pa_cons (pv 1) (pa_cons (pe_bltn (v := .ty "tuple") (u := .type "tuple") (by rfl) Z.tuple (by decide +kernel) rfl) pa_nil)))) (pss_cons (ps_if (PW.pt (pw_or (pt_not (pt_val (pe_callB (kc_isi (K := K)) (by rfl) Z.isinstance (by decide +kernel) (pa_cons (pv 0) (pa_cons (pe_bltn (v := .ty "tuple") (u := .type "tuple") (by rfl) Z.tuple (by decide +kernel) rfl) pa_nil))))) (pw_or1 (pt_cmpR op_ne (pe_callB (kc_len (K := K)) (by rfl) Z.len PySem.boot_len (pa_cons (pv 0) pa_nil)) (pe_callB (kc_len (K := K)) (by rfl) Z.len PySem.boot_len (pa_cons (pv 1) pa_nil)) (nomark _))))) (pss_one (ps_ret pe_bl)) pss_nil)
  (pss_one (ps_ret (pe_cmpR op_eq (pe_callB (kc_len (K := K)) (by rfl) Z.len PySem.boot_len (pa_cons (pe_lc (own := [("at", 2)]) (g := (gName 2)) rfl sc__law_same.nd (pi_range1 (by rfl) Z.range (pa_cons (pe_callB (kc_len (K := K)) (by rfl) Z.len PySem.boot_len (pa_cons (pv 1) pa_nil)) pa_nil)) (blkOk_by (own := [("at", 2)]) (N := ["found", "due", "at"]) (sc := defScope s__law_same) (by decide +kernel)) (fun _ _ _ _ _ => (pg_name (i := 2) sc__law_same.nd rfl (Or.inl rfl))) (fun _ _ _ _ _ => (pts_one (pt_not (pt_val (pe_callF G__law_same (hr.mono (Nat.le_refl _)) rfl pass0 (pa_cons (pe_ix (kx_tup (K := K)) (pv 0) (pv 2) (fun _ _ => rfl)) (pa_cons (pe_ix (kx_tup (K := K)) (pv 1) (pv 2) (fun _ _ => rfl)) pa_nil))))))) (fun _ _ _ _ _ => (pv 2))) pa_nil)) pe_int (nomark _))))) pss_nil)
  (pss_cons (ps_if (pt_cmpR op_isN (pv 1) pe_non (nomark _)) (pss_one (ps_ret (pe_cmpR op_isN (pv 0) pe_non (nomark _)))) pss_nil)
  (pss_cons (ps_if (pt_val (pe_callB (kc_isi (K := K)) (by rfl) Z.isinstance (by decide +kernel) (pa_cons (pv 1) (pa_cons (pe_bltn (v := .ty "bool") (u := .type "bool") (by rfl) Z.bool (by decide +kernel) rfl) pa_nil)))) (pss_one (ps_ret (pe_and (pe_callB (kc_isi (K := K)) (by rfl) Z.isinstance (by decide +kernel) (pa_cons (pv 0) (pa_cons (pe_bltn (v := .ty "bool") (u := .type "bool") (by rfl) Z.bool (by decide +kernel) rfl) pa_nil))) (pe_one (pe_cmpR op_eq (pv 0) (pv 1) (nomark _)))))) pss_nil)
  (pss_cons (ps_if (pt_val (pe_callB (kc_isi (K := K)) (by rfl) Z.isinstance (by decide +kernel) (pa_cons (pv 1) (pa_cons (pe_bltn (v := .ty "str") (u := .type "str") (by rfl) Z.str (by decide +kernel) rfl) pa_nil)))) (pss_one (ps_ret (pe_and (pe_callB (kc_isi (K := K)) (by rfl) Z.isinstance (by decide +kernel) (pa_cons (pv 0) (pa_cons (pe_bltn (v := .ty "str") (u := .type "str") (by rfl) Z.str (by decide +kernel) rfl) pa_nil))) (pe_one (pe_cmpR op_eq (pv 0) (pv 1) (nomark _)))))) pss_nil)
  (pss_one (ps_ret (pe_and (pe_callB (kc_isi (K := K)) (by rfl) Z.isinstance (by decide +kernel) (pa_cons (pv 0) (pa_cons (pe_bltn (v := .ty "int") (u := .type "int") (by rfl) Z.int (by decide +kernel) rfl) pa_nil))) (pe_and (pe_not (pe_callB (kc_isi (K := K)) (by rfl) Z.isinstance (by decide +kernel) (pa_cons (pv 0) (pa_cons (pe_bltn (v := .ty "bool") (u := .type "bool") (by rfl) Z.bool (by decide +kernel) rfl) pa_nil)))) (pe_one (pe_cmpR op_eq (pv 0) (pv 1) (nomark _))))))))))), ?_⟩)
  · obtain ⟨x, y, rfl, _⟩ := h
    rfl
  · obtain ⟨x, y, rfl, h, k⟩ := h
    have h' : (x = y ∧ scalV x = true) ∨ ∃ m, n = m + 1 ∧ ∃ p q xs ys, x = .ref p ∧ y = .ref q ∧ Tp K H p xs ∧ Tp K H q ys ∧ xs.length = ys.length ∧ xs.length ≤ 1000 ∧ ∀ (i : Nat) u v, xs[i]? = some u → ys[i]? = some v → Sm K H m u v := by
      cases n with
      | zero => exact .inl h
      | succ m =>
        rcases h with h | h
        · exact .inl h
        · exact .inr ⟨m, rfl, h⟩
    rcases h' with ⟨rfl, hs⟩ | ⟨m, rfl, p, q, xs, ys, rfl, rfl, hp, hq, hl, hz, hi⟩
    · cases x <;> first | cases hs | skip
      · refine ⟨_, rfl, _, .ty "tuple", _, .type "tuple", _, rfl, .ty _, ((Vk.non : Vk K H _ _)).ty, kit_vk ((Vk.non : Vk K H _ _)) "tuple", _, rfl, iteF ?_⟩
        exact ⟨_, rfl, rfl, _, rfl, iteT ⟨_, rfl, rfl, k _ (Ex.refl _)⟩⟩
      · rename_i b
        refine ⟨_, rfl, _, .ty "tuple", _, .type "tuple", _, rfl, .ty _, ((Vk.bl b : Vk K H _ _)).ty, kit_vk ((Vk.bl b : Vk K H _ _)) "tuple", _, rfl, iteF ?_⟩
        refine ⟨_, rfl, rfl, _, rfl, iteF ?_⟩
        refine ⟨_, rfl, _, .ty "bool", _, .type "bool", _, rfl, .ty _, ((Vk.bl b : Vk K H _ _)).ty, kit_vk ((Vk.bl b : Vk K H _ _)) "bool", _, rfl, iteT ?_⟩
        refine ⟨_, rfl, _, .ty "bool", _, .type "bool", _, rfl, .ty _, ((Vk.bl b : Vk K H _ _)).ty, kit_vk ((Vk.bl b : Vk K H _ _)) "bool", _, rfl, iteT ⟨_, rfl, _, rfl, rfl, ?_⟩⟩
        rw [decide_eq_true rfl]
        exact k _ (Ex.refl _)
      · rename_i i
        refine ⟨_, rfl, _, .ty "tuple", _, .type "tuple", _, rfl, .ty _, ((Vk.int i : Vk K H _ _)).ty, kit_vk ((Vk.int i : Vk K H _ _)) "tuple", _, rfl, iteF ?_⟩
        refine ⟨_, rfl, rfl, _, rfl, iteF ?_⟩
        refine ⟨_, rfl, _, .ty "bool", _, .type "bool", _, rfl, .ty _, ((Vk.int i : Vk K H _ _)).ty, kit_vk ((Vk.int i : Vk K H _ _)) "bool", _, rfl, iteF ?_⟩
        refine ⟨_, rfl, _, .ty "str", _, .type "str", _, rfl, .ty _, ((Vk.int i : Vk K H _ _)).ty, kit_vk ((Vk.int i : Vk K H _ _)) "str", _, rfl, iteF ?_⟩
        refine ⟨_, rfl, _, .ty "int", _, .type "int", _, rfl, .ty _, ((Vk.int i : Vk K H _ _)).ty, kit_vk ((Vk.int i : Vk K H _ _)) "int", _, rfl, iteT ⟨_, rfl, _, .ty "bool", _, .type "bool", _, rfl, .ty _, ((Vk.int i : Vk K H _ _)).ty, kit_vk ((Vk.int i : Vk K H _ _)) "bool", _, rfl, _, rfl, iteT ⟨_, rfl, _, rfl, rfl, ?_⟩⟩⟩
        rw [dec_int, beq_self_eq_true]
        exact k _ (Ex.refl _)
      · rename_i z
        refine ⟨_, rfl, _, .ty "tuple", _, .type "tuple", _, rfl, .ty _, ((Vk.str z : Vk K H _ _)).ty, kit_vk ((Vk.str z : Vk K H _ _)) "tuple", _, rfl, iteF ?_⟩
        refine ⟨_, rfl, rfl, _, rfl, iteF ?_⟩
        refine ⟨_, rfl, _, .ty "bool", _, .type "bool", _, rfl, .ty _, ((Vk.str z : Vk K H _ _)).ty, kit_vk ((Vk.str z : Vk K H _ _)) "bool", _, rfl, iteF ?_⟩
        refine ⟨_, rfl, _, .ty "str", _, .type "str", _, rfl, .ty _, ((Vk.str z : Vk K H _ _)).ty, kit_vk ((Vk.str z : Vk K H _ _)) "str", _, rfl, iteT ?_⟩
        refine ⟨_, rfl, _, .ty "str", _, .type "str", _, rfl, .ty _, ((Vk.str z : Vk K H _ _)).ty, kit_vk ((Vk.str z : Vk K H _ _)) "str", _, rfl, iteT ⟨_, rfl, _, rfl, rfl, ?_⟩⟩
        rw [decide_eq_true rfl]
        exact k _ (Ex.refl _)
    · refine ⟨_, rfl, _, .ty "tuple", _, .type "tuple", _, rfl, .ty _, ((Vk.tup hq : Vk K H _ _)).ty, kit_vk ((Vk.tup hq : Vk K H _ _)) "tuple", _, rfl, iteT ?_⟩
      refine ⟨_, rfl, _, .ty "tuple", _, .type "tuple", _, rfl, .ty _, ((Vk.tup hp : Vk K H _ _)).ty, kit_vk ((Vk.tup hp : Vk K H _ _)) "tuple", _, rfl, iteF ⟨_, rfl, p, _, rfl, .inr hp.sq, _, rfl, q, _, rfl, .inr hq.sq, rfl, _, rfl, ?_⟩⟩
      rw [hl, decide_eq_true rfl]
      refine iteF ?_
      refine ⟨_, rfl, q, _, rfl, .inr hq.sq, _, rfl, by omega, by omega, ?_⟩
      rw [show ((ys.length : Nat) : Int).toNat = ys.length by omega]
      refine lcP (walk_range (lo := 0)) (fun _ _ => trivial) (by omega) (fun _ => false) (fun i => V.int (i : Int)) (fun i H1 x H2 hi' e y K1 K0 k1 k0 => ?_) (fun r H2 hr e2 h2 => ?_)
      · obtain ⟨rfl, rfl⟩ := y
        have e0 : (0 : Int) + (i : Int) = (i : Int) := by omega
        show gName _ (V.int ((0 : Int) + (i : Int))) _ _ _
        rw [e0]
        have hx : xs[i]? = some (xs[i]'(by omega)) := List.getElem?_eq_getElem _
        have hy : ys[i]? = some ys[i] := List.getElem?_eq_getElem _
        refine ⟨rfl, _, rfl, _, rfl, p, _, _, _, rfl, rfl, (hp.ex e).sq, atI_nat hx, _, rfl, _, rfl, q, _, _, _, rfl, rfl, (hq.ex e).sq, atI_nat hy, ?_⟩
        exact ⟨_, _, rfl, (hi i _ _ hx hy).ex e, fun H' e' => ⟨_, rfl, iteF (k0 rfl _ e')⟩⟩
      · have h0 : given ys.length (fun _ => false) (fun i => V.int (i : Int)) = [] := by
          unfold given
          simp
        rw [h0] at h2
        exact ⟨r, _, rfl, .inl (sq_of h2), rfl, k _ e2⟩
theorem ok__law_same (F : FnP K "_law_same" s__law_same f fd) (hb : Binds K fd ["found", "due"] []) (hf : mg "_law_same" = some (.ref f)) (Z : Zs mg) : ∀ n : Nat, FnOk P w K mg base CX0 (n + 2) f fd ["found", "due"] (spSame K n)
  | 0 => ok__law_sameS F Z ⟨f, fd, hf, F, hb, ok__law_same0 F Z⟩
  | n + 1 => ok__law_sameS F Z ⟨f, fd, hf, F, hb, ok__law_same F hb hf Z n⟩
end
end K31

namespace K31
open PySem PySem.Spec PyProof.Rows L2 Evl Own
/-- a new list, and what was known stays -/
def RetLW (a l : Addr) (R : Hp) (xs : List V) (Q : VK) : Prop := ∀ p R1 H1, R p = none → Ex R R1 → Wl 1 a l R1 H1 → R1 p = some (.lst xs) → Q (.ref p) H1
def RetXW (K : PySem.W.Frag) (a l : Addr) (R : Hp) (ps : List Nat) (ss : List Int) (Q : VK) : Prop := ∀ e R1 H1, Ex R R1 → Wl 1 a l R1 H1 → TpX K R1 e ps ss → Q (.ref e) H1
theorem tpx_known {K : PySem.W.Frag} {H R : Hp} {a l e : Addr} {ps : List Nat} {ss : List Int} (t : TpX K H e ps ss) (d : Deal 1 H a l) (known : ∀ b o, b ≠ a → b ≠ l → H b = some o → R b = some o) : TpX K R e ps ss := by
  obtain ⟨c, b, h1, h2, h3⟩ := t
  exact ⟨c, b, tp_known h1 d known, tp_known h2 d known, tp_known h3 d known⟩
theorem RetXW.ret {K : PySem.W.Frag} {a l : Addr} {R H : Hp} {ps : List Nat} {ss : List Int} {Q : VK} (k : RetXW K a l R ps ss Q) (w : Wl 1 a l R H) : RetX K ps ss H Q := fun e H2 ex t => by
  obtain ⟨R1, e1, w1, known⟩ := w.more ex
  exact k e R1 H2 e1 w1 (tpx_known t w1.deal known)
theorem RetXW.more {K : PySem.W.Frag} {a l : Addr} {R R1 : Hp} {ps : List Nat} {ss : List Int} {Q : VK} (k : RetXW K a l R ps ss Q) (e : Ex R R1) : RetXW K a l R1 ps ss Q := fun p R2 H2 e2 w t => k p R2 H2 (e.trans e2) w t
def spShuf (K : PySem.W.Frag) : Sp := fun vs H Q _ => ∃ (a l : Addr) (R : Hp) (p : Addr) (xs : List V), vs = [.ref a, .ref p] ∧ Wl 1 a l R H ∧ SqL K R p xs ∧ xs.length ≤ 1000 ∧ ∀ ys, ys.Perm xs → RetLW a l R ys Q
def spTop : Sp := fun vs H Q _ => ∃ q : Int, vs = [.int q] ∧ Q (.int (if q = 2 then 24 else 16)) H
def spLength : Sp := fun vs H Q _ => ∃ (a l : Addr) (R : Hp) (q : Int), vs = [.ref a, .int q] ∧ Wl 1 a l R H ∧ ∀ (n : Nat) (H' : Hp), n ≤ 24 → Wl 1 a l R H' → Q (.int (n : Int)) H'
def spExch (K : PySem.W.Frag) : Sp := fun vs H Q _ => ∃ (a l : Addr) (R : Hp) (q : Int) (n : Nat), vs = [.ref a, .int q, .int n] ∧ Wl 1 a l R H ∧ 2 ≤ q ∧ q ≤ 3 ∧ n ≤ 1000 ∧ ∀ ps ss, IsX q n ps ss → RetXW K a l R ps ss Q
theorem log_lt {b : Int} (h0 : 0 < b) (h : b ≤ 1000000) : b.natAbs.log2 < 9000 := by
  have := (Nat.log2_lt (show b.natAbs ≠ 0 by omega)).mpr (show b.natAbs < 2 ^ 20 by omega)
  omega
theorem perm_pop {α : Type} {xs : List α} {i : Nat} (h : i < xs.length) : (xs[i] :: xs.eraseIdx i).Perm xs := by
  induction xs generalizing i with
  | nil => cases h
  | cons x r ih =>
    cases i with
    | zero => exact List.Perm.refl _
    | succ i =>
      have := ih (i := i) (by simpa using h)
      simp only [List.getElem_cons_succ, List.eraseIdx_cons_succ]
      exact (List.Perm.swap _ _ _).trans (this.cons x)
section
variable {P : Program} {w : World} {K : PySem.W.Frag} {mg : Str → Option Value} {base : Heap} {f : Addr} {fd : FuncData}
theorem ok__law_shuffled (F : FnP K "_law_shuffled" s__law_shuffled f fd) (Z : Zs mg) (G__law_any : Fn P w K mg base CX0 1 "_law_any" s__law_any ["draws", "bound"] (spAny 1)) : FnOk P w K mg base CX0 2 f fd ["draws", "things"] (spShuf K) := by
  refine F.ok sc__law_shuffled (fun vs H Q E h => ?_) (fun cdv A outer s H vs Q E hr h => ⟨_, PSs.nox (pss_cons (ps_par (i := 2) (j := 3) rfl sc__law_shuffled.nd rfl rfl (by decide) rfl rfl (pa_cons (pe_callTy (kc_list (K := K)) (by rfl) Z.list (by decide +kernel) (pa_cons (pv 1) pa_nil)) (pa_cons (pe_lst pa_nil) pa_nil)) (by rfl))
  (pss_cons (ps_for PassesOwn.never rfl (pi_range1 (by rfl) Z.range (pa_cons (pe_callB (kc_len (K := K)) (by rfl) Z.len PySem.boot_len (pa_cons (pv 1) pa_nil)) pa_nil)) (pg_name (i := 4) sc__law_shuffled.nd rfl (by first | exact Or.inl rfl | exact Or.inr rfl)) (pss_one (ps_expr (km_bm (K := K) PySem.F.plainAttrs_list PySem.F.slot_list_append PySem.F.type_list_append mt_append (pv 3) (pa_cons (km_bm (K := K) PySem.F.plainAttrs_list PySem.F.slot_list_pop PySem.F.type_list_pop mt_popAt (pv 2) (pa_cons (pe_callF G__law_any (hr.mono (by decide)) rfl pass0 (pa_cons (pv 0) (pa_cons (pe_callB (kc_len (K := K)) (by rfl) Z.len PySem.boot_len (pa_cons (pv 2) pa_nil)) pa_nil))) pa_nil)) pa_nil)))))
  (pss_one (ps_ret (pv 3))))), ?_⟩)
  · obtain ⟨a, l, R, p, xs, rfl, _⟩ := h
    rfl
  · obtain ⟨a, l, R, p, xs, rfl, hw, hp, hz, k⟩ := h
    refine ⟨_, rfl, p, xs, rfl, .inl (ex_l hw.ex hp), fun L hL => ⟨by decide, fun D hD => ⟨_, _, rfl, ?_⟩⟩⟩
    have w1 := hw.new (o := .lst xs) hL
    have w2 := w1.new (o := .lst []) hD
    have RL := hw.free hL
    have RD' := w1.free hD
    have DL : D ≠ L := fun e => by
      rw [e, upd_same] at RD'
      cases RD'
    have RD : R D = none := by
      rw [upd_ne DL] at RD'
      exact RD'
    have ex0 := (Ex.new (o := .lst xs) RL).trans (Ex.new (o := .lst []) RD')
    have l0 : upd (upd R L (.lst xs)) D (.lst []) L = some (.lst xs) := by rw [upd_ne DL.symm]; exact upd_same
    have d0 : upd (upd R L (.lst xs)) D (.lst []) D = some (.lst []) := upd_same
    generalize upd (upd R L (.lst xs)) D (.lst []) = R0 at w2 ex0 l0 d0
    generalize upd (upd H L (.lst xs)) D (.lst []) = H0 at w2 ⊢
    refine ⟨_, rfl, p, xs, rfl, .inl (ex_l (ex0.trans w2.ex) hp), _, rfl, by omega, by omega, ?_⟩
    rw [show ((xs.length : Nat) : Int).toNat = xs.length by omega]
    refine for_range (lo := 0) (n := xs.length) (fun i σ H' => ∃ (v : Option V) (us zs : List V) (R' : Hp), σ = [some (.ref a), some (.ref p), some (.ref L), some (.ref D), v] ∧ Ex R R' ∧ Wl 1 a l R' H' ∧ R' L = some (.lst us) ∧ R' D = some (.lst zs) ∧ (us ++ zs).Perm xs ∧ zs.length = i) ⟨none, xs, [], R0, rfl, ex0, w2, l0, d0, by rw [List.append_nil], rfl⟩ (fun i σ H' hi z => ?_) (fun σ H' z => ?_)
    · obtain ⟨v, us, zs, R', rfl, ex, w3, hl, hd, pm, zl⟩ := z
      have pl := pm.length_eq
      rw [List.length_append] at pl
      have up : (0 : Int) < us.length := by omega
      refine ⟨_, rfl, .inl ⟨rfl, _, sq_of (w3.ex _ _ hd)⟩, _, rfl, .inl ⟨rfl, _, sq_of (w3.ex _ _ hl)⟩, _, rfl, _, rfl, L, _, rfl, .inl (sq_of (w3.ex _ _ hl)), a, l, R', (us.length : Int), rfl, w3, up, log_lt up (by omega), fun x H2 x0 x1 w4 => ?_⟩
      have hx : x.toNat < us.length := by omega
      have hix := ixN_seq (ixN_nat hx)
      rw [show ((x.toNat : Nat) : Int) = x by omega] at hix
      refine ⟨L, us, x, x.toNat, us[x.toNat], rfl, rfl, w4.ex _ _ hl, by omega, by omega, hix.1, List.getElem?_eq_getElem hx, ?_⟩
      have w5 := w4.mut (o' := .lst (us.eraseIdx x.toNat)) hl
      have hd5 : upd R' L (.lst (us.eraseIdx x.toNat)) D = some (.lst zs) := by rw [upd_ne DL]; exact hd
      refine ⟨D, zs, _, rfl, rfl, w5.ex _ _ hd5, sz_lt (by omega), ?_⟩
      refine ⟨some (.int (0 + (i : Int))), us.eraseIdx x.toNat, zs ++ [us[x.toNat]], _, rfl, ex_side (ex_side ex RL) RD, w5.mut hd5, by rw [upd_ne DL.symm]; exact upd_same, upd_same, ?_, by rw [List.length_append, zl]; rfl⟩
      refine List.Perm.trans ?_ pm
      refine List.Perm.trans ?_ ((perm_pop hx).append_right zs)
      rw [← List.append_assoc]
      exact (List.perm_append_comm (l₁ := us.eraseIdx x.toNat ++ zs) (l₂ := [us[x.toNat]])).trans (by simp)
    · obtain ⟨v, us, zs, R', rfl, ex, w3, hl, hd, pm, zl⟩ := z
      have pl := pm.length_eq
      rw [List.length_append] at pl
      have : us = [] := List.eq_nil_of_length_eq_zero (by omega)
      subst this
      exact ⟨_, rfl, k zs pm D R' H' RD ex w3 hd⟩
theorem ok__law_top (F : FnP K "_law_top" s__law_top f fd) (Z : Zs mg) : FnOk P w K mg base CX0 1 f fd ["letters"] spTop := by
  refine F.ok sc__law_top (fun vs H Q E h => ?_) (fun cdv A outer s H vs Q E hr h => ⟨_, PSs.nox (pss_one (ps_ret (pe_ifExp (pt_cmpR op_eq (pv 0) pe_int (nomark _)) pe_int pe_int))), ?_⟩)
  · obtain ⟨q, rfl, _⟩ := h
    rfl
  · obtain ⟨q, rfl, k⟩ := h
    refine ⟨_, rfl, rfl, _, rfl, ?_⟩
    rw [dec_int]
    by_cases c : q = 2
    · rw [if_pos c] at k
      rw [c]
      exact iteT k
    · rw [if_neg c] at k
      rw [beq_eq_false_iff_ne.mpr c]
      exact iteF k
theorem ok__law_length (F : FnP K "_law_length" s__law_length f fd) (Z : Zs mg) (G__law_any : Fn P w K mg base CX0 1 "_law_any" s__law_any ["draws", "bound"] (spAny 1)) (G__law_top : Fn P w K mg base CX0 1 "_law_top" s__law_top ["letters"] spTop) : FnOk P w K mg base CX0 2 f fd ["draws", "letters"] spLength := by
  refine F.ok sc__law_length (fun vs H Q E h => ?_) (fun cdv A outer s H vs Q E hr h => ⟨_, PSs.nox (pss_cons (ps_set (i := 2) sc__law_length.nd rfl (by first | exact Or.inl rfl | exact Or.inr rfl) (pe_callF G__law_any (hr.mono (by decide)) rfl pass0 (pa_cons (pv 0) (pa_cons pe_int pa_nil))))
  (pss_one (ps_ret (pe_ifExp (pt_cmpR op_eq (pv 2) pe_int (nomark _)) (pe_callF G__law_top (hr.mono (by decide)) rfl pass0 (pa_cons (pv 1) pa_nil)) (pe_callF G__law_any (hr.mono (by decide)) rfl pass0 (pa_cons (pv 0) (pa_cons (pe_ifExp (pt_cmpR op_eq (pv 2) pe_int (nomark _)) (pe_op op_add (pe_callF G__law_top (hr.mono (by decide)) rfl pass0 (pa_cons (pv 1) pa_nil)) pe_int) pe_int) pa_nil))))))), ?_⟩)
  · obtain ⟨a, l, R, q, rfl, _⟩ := h
    rfl
  · obtain ⟨a, l, R, q, rfl, hw, k⟩ := h
    have ht : (16 : Int) ≤ (if q = 2 then 24 else 16) ∧ (if q = 2 then (24 : Int) else 16) ≤ 24 := by split <;> decide
    refine ⟨_, rfl, a, l, R, 3, rfl, hw, by decide, log_lt (by decide) (by decide), fun road H1 r0 r1 w1 => ⟨_, rfl, rfl, _, rfl, ?_⟩⟩
    rw [dec_int]
    have kk : ∀ (z : Int) (H' : Hp), 0 ≤ z → z ≤ 24 → Wl 1 a l R H' → Q (.int z) H' := fun z H' h0 h1 hw' => by
      have := k z.toNat H' (by omega) hw'
      rw [show ((z.toNat : Nat) : Int) = z by omega] at this
      exact this
    by_cases c : road = 0
    · rw [c]
      exact iteT ⟨_, rfl, q, rfl, kk _ _ (by omega) ht.2 w1⟩
    · rw [beq_eq_false_iff_ne.mpr c]
      refine iteF ⟨_, rfl, _, rfl, rfl, _, rfl, ?_⟩
      rw [dec_int]
      by_cases c2 : road = 1
      · rw [c2]
        exact iteT ⟨_, rfl, q, rfl, _, _, rfl, rfl, a, l, R, _, rfl, w1, by omega, log_lt (by omega) (by omega), fun x H2 x0 x1 w2 => kk _ _ x0 (by omega) w2⟩
      · rw [beq_eq_false_iff_ne.mpr c2]
        exact iteF ⟨a, l, R, 9, rfl, w1, by decide, log_lt (by decide) (by decide), fun x H2 x0 x1 w2 => kk _ _ x0 (by omega) w2⟩
end
end K31

namespace K31
open PySem PySem.Spec PyProof.Rows L2 Evl Own
theorem perm_isX {q : Int} {n : Nat} {ps : List Nat} {ss : List Int} (pm : ps.Perm (List.range n)) (sn : ss.length = n) (sin : ∀ s ∈ ss, 1 ≤ s ∧ s < q) (few : n ≤ 1000) (q0 : 2 ≤ q) (q1 : q ≤ 3) : IsX q n ps ss :=
  ⟨pm, sn, sin, few, q0, q1⟩
theorem perm_inv {α β : Type} (f : α → β) {L ys : List β} (h : L.Perm ys) : ∀ xs : List α, L = xs.map f → ∃ zs : List α, ys = zs.map f ∧ zs.Perm xs := by
  induction h with
  | nil =>
    intro xs e
    have : xs = [] := List.map_eq_nil_iff.mp e.symm
    subst this
    exact ⟨[], rfl, .nil⟩
  | cons x _ ih =>
    intro xs e
    cases xs with
    | nil => cases e
    | cons a r =>
      injection e with e1 e2
      obtain ⟨zs, h1, h2⟩ := ih r e2
      exact ⟨a :: zs, by rw [List.map_cons, ← h1, e1], h2.cons a⟩
  | swap x y l =>
    intro xs e
    match xs, e with
    | a :: b :: r, e =>
      injection e with e1 e2
      injection e2 with e2 e3
      exact ⟨b :: a :: r, by rw [List.map_cons, List.map_cons, ← e1, ← e2, ← e3], List.Perm.swap _ _ _⟩
  | trans _ _ ih1 ih2 =>
    intro xs e
    obtain ⟨zs, h1, h2⟩ := ih1 xs e
    obtain ⟨ws, h3, h4⟩ := ih2 zs h1
    exact ⟨ws, h3, h4.trans h2⟩
theorem nI_map (ps : List Nat) : (nI ps).map V.int = ps.map fun i => V.int ((i : Nat) : Int) := by
  unfold nI
  rw [List.map_map]
  rfl
/-- lists of numbers below, rearranged -/
theorem perm_nI {n : Nat} {ys : List V} (h : ys.Perm ((nI (List.range n)).map V.int)) : ∃ ps, ys = (nI ps).map V.int ∧ ps.Perm (List.range n) := by
  rw [nI_map] at h
  obtain ⟨ps, h1, h2⟩ := perm_inv _ h.symm _ rfl
  exact ⟨ps, by rw [nI_map]; exact h1, h2⟩
theorem cut_from {ps : List Nat} {k : Nat} (h : k ≤ ps.length) : cutV ((nI ps).map V.int) (some (k : Int)) none = (nI (ps.drop k)).map V.int := by
  unfold cutV
  rw [HT.sIx_nat, HT.sIx_none, List.length_map, nI_len, Nat.min_eq_left h, List.take_of_length_le (by rw [List.length_drop, List.length_map, nI_len]; omega), nI_map, nI_map, List.map_drop]
theorem cut_to {ps : List Nat} {k : Nat} (h : k ≤ ps.length) : cutV ((nI ps).map V.int) none (some (k : Int)) = (nI (ps.take k)).map V.int := by
  unfold cutV
  rw [HT.sIx_nat, HT.sIx_none, List.length_map, nI_len, Nat.min_eq_left h, List.drop_zero, Nat.sub_zero, nI_map, nI_map, List.map_take]
theorem set_swap {ps : List Nat} {i j : Nat} (hi : i < ps.length) (hj : j < ps.length) : ((ps.set i (ps.getD j 0)).set j (ps.getD i 0)).Perm ps := by
  have gi : ps.getD i 0 = ps[i] := by rw [List.getD_eq_getElem?_getD, List.getElem?_eq_getElem hi]; rfl
  have gj : ps.getD j 0 = ps[j] := by rw [List.getD_eq_getElem?_getD, List.getElem?_eq_getElem hj]; rfl
  rw [gi, gj]
  refine List.perm_iff_count.mpr fun x => ?_
  rw [List.count_set (by rw [List.length_set]; exact hj), List.count_set hi]
  have ci : ps[i] = x → 0 < ps.count x := fun e => List.count_pos_iff.mpr (e ▸ List.getElem_mem hi)
  have cj : ps[j] = x → 0 < ps.count x := fun e => List.count_pos_iff.mpr (e ▸ List.getElem_mem hj)
  by_cases e : i = j
  · subst e
    rw [List.getElem_set_self]
    by_cases a : ps[i] = x
    · have := ci a
      simp [a]
      omega
    · simp [a]
  · rw [List.getElem_set_ne e]
    by_cases a : ps[i] = x
    · by_cases b : ps[j] = x
      · have := ci a
        simp [a, b]
        omega
      · have := ci a
        simp [a, b]
        omega
    · by_cases b : ps[j] = x
      · have := cj b
        simp [a, b]
      · simp [a, b]
/-- the state of _law_exchange behind its first choice -/
structure St1 (a l : Addr) (R R' H' : Hp) (n : Nat) (P S : Addr) (ps : List Nat) : Prop where
  ex : Ex R R'
  wl : Wl 1 a l R' H'
  hP : R' P = some (.lst ((nI ps).map V.int))
  hS : R' S = some (.lst (List.replicate n (V.int 1)))
  RS : R S = none
  ne : P ≠ S
  pm : ps.Perm (List.range n)
section
variable {P : Program} {w : World} {K : PySem.W.Frag} {mg : Str → Option Value} {base : Heap} {f : Addr} {fd : FuncData}
theorem ok__law_exchange (F : FnP K "_law_exchange" s__law_exchange f fd) (Z : Zs mg) (G__law_any : Fn P w K mg base CX0 1 "_law_any" s__law_any ["draws", "bound"] (spAny 1)) (G__law_shuffled : Fn P w K mg base CX0 2 "_law_shuffled" s__law_shuffled ["draws", "things"] (spShuf K)) : FnOk P w K mg base CX0 3 f fd ["draws", "letters", "length"] (spExch K) := by
  refine F.ok sc__law_exchange (fun vs H Q E h => ?_) (fun cdv A outer s H vs Q E hr h => ⟨_, PSs.nox (pss_cons (ps_par3 (i := 3) (j := 4) (l := 5) rfl sc__law_exchange.nd rfl rfl rfl (by decide) (by decide) (by decide) rfl rfl rfl (pa_cons (pe_callF G__law_any (hr.mono (by decide)) rfl pass0 (pa_cons (pv 0) (pa_cons pe_int pa_nil))) (pa_cons (pe_list_range Z.list Z.range (pv 2)) (pa_cons (pe_op op_rep (pe_lst (pa_cons pe_int pa_nil)) (pv 2)) pa_nil))) (by rfl))
  (pss_cons (ps_if (pt_cmpR op_lt (pv 3) pe_int (nomark _)) (pss_one (ps_set (i := 4) sc__law_exchange.nd rfl (by first | exact Or.inl rfl | exact Or.inr rfl) (pe_callF G__law_shuffled (hr.mono (by decide)) rfl pass0 (pa_cons (pv 0) (pa_cons (pv 4) pa_nil))))) (pss_one (ps_if (pt_cmpR op_eq (pv 3) pe_int (nomark _)) (pss_cons (ps_set (i := 6) sc__law_exchange.nd rfl (by first | exact Or.inl rfl | exact Or.inr rfl) (pe_callF G__law_any (hr.mono (by decide)) rfl pass0 (pa_cons (pv 0) (pa_cons (pe_op op_add (pv 2) pe_int) pa_nil))))
  (pss_one (ps_set (i := 4) sc__law_exchange.nd rfl (by first | exact Or.inl rfl | exact Or.inr rfl) (pe_op op_cat (pe_slice (ksl_list (K := K)) (pv 4) (po_some (pv 6)) po_none) (pe_slice (ksl_list (K := K)) (pv 4) po_none (po_some (pv 6))))))) (pss_one (ps_if (PW.pt (pw_and (pt_cmpR op_eq (pv 3) pe_int (nomark _)) (pw_and1 (pt_cmpR op_gt (pv 2) pe_int (nomark _))))) (pss_cons (ps_par (i := 7) (j := 8) rfl sc__law_exchange.nd rfl rfl (by decide) rfl rfl (pa_cons (pe_callF G__law_any (hr.mono (by decide)) rfl pass0 (pa_cons (pv 0) (pa_cons (pv 2) pa_nil))) (pa_cons (pe_callF G__law_any (hr.mono (by decide)) rfl pass0 (pa_cons (pv 0) (pa_cons (pv 2) pa_nil))) pa_nil)) (by rfl))
  (pss_one (ps_asg (pe_tupF (pa_cons (pe_ix (kx_list (K := K)) (pv 4) (pv 8) (fun _ _ => rfl)) (pa_cons (pe_ix (kx_list (K := K)) (pv 4) (pv 7) (fun _ _ => rfl)) pa_nil))) (pg_tup rfl (pgs_cons (pg_sub (pv 4) (pv 7) set_list) (pgs_cons (pg_sub (pv 4) (pv 8) set_list) pgs_nil)))))) (pss_one (ps_if (pt_cmpR op_eq (pv 3) pe_int (nomark _)) (pss_one (ps_set (i := 4) sc__law_exchange.nd rfl (by first | exact Or.inl rfl | exact Or.inr rfl) (pe_revL (pv 4)))) pss_nil)))))))
  (pss_cons (ps_set (i := 3) sc__law_exchange.nd rfl (by first | exact Or.inl rfl | exact Or.inr rfl) (pe_ifExp (pt_cmpR op_eq (pv 1) pe_int (nomark _)) (pe_callF G__law_any (hr.mono (by decide)) rfl pass0 (pa_cons (pv 0) (pa_cons pe_int pa_nil))) pe_int))
  (pss_cons (ps_for PassesOwn.never rfl (pi_range1 (by rfl) Z.range (pa_cons (pv 2) pa_nil)) (pg_name (i := 9) sc__law_exchange.nd rfl (by first | exact Or.inl rfl | exact Or.inr rfl)) (pss_one (ps_if (PW.pt (pw_or (pt_cmpR op_eq (pv 3) pe_int (nomark _)) (pw_or1 (PW.pt (pw_and (pt_cmpR op_gt (pv 3) pe_int (nomark _)) (pw_and1 (pt_cmpR op_eq (pe_callF G__law_any (hr.mono (by decide)) rfl pass0 (pa_cons (pv 0) (pa_cons (pe_op op_add (pv 3) pe_int) pa_nil))) pe_int (nomark _)))))))) (pss_one (ps_asg pe_int (pg_sub (pv 5) (pv 9) set_list))) pss_nil)))
  (pss_one (ps_ret (pe_tupF (pa_cons (pe_callTy (kc_tuple (K := K)) (by rfl) Z.tuple (by decide +kernel) (pa_cons (pv 4) pa_nil)) (pa_cons (pe_callTy (kc_tuple (K := K)) (by rfl) Z.tuple (by decide +kernel) (pa_cons (pv 5) pa_nil)) pa_nil))))))))), ?_⟩)
  · obtain ⟨a, l, R, q, n, rfl, _⟩ := h
    rfl
  · obtain ⟨a, l, R, q, n, rfl, hw, q0, q1, few, k⟩ := h
    refine ⟨_, rfl, a, l, R, 7, rfl, hw, by decide, log_lt (by decide) (by decide), fun road H1 r0 r1 w1 => ?_⟩
    refine ⟨_, rfl, _, rfl, rg_ok (by omega), fun P hP => ?_⟩
    rw [rgV_nI]
    have RP : R P = none := w1.free hP
    have w2 := w1.new (o := .lst ((nI (List.range n)).map V.int)) hP
    have eR := Ex.new (o := .lst ((nI (List.range n)).map V.int)) RP
    have hP2 : upd R P (.lst ((nI (List.range n)).map V.int)) P = some (.lst ((nI (List.range n)).map V.int)) := upd_same
    generalize upd R P (.lst ((nI (List.range n)).map V.int)) = R2 at w2 eR hP2
    generalize upd H1 P (.lst ((nI (List.range n)).map V.int)) = H2 at w2 ⊢
    refine ⟨by decide, fun t ht => ⟨_, rfl, rep_lst upd_same (by omega) fun S hS => ⟨_, _, _, rfl, ?_⟩⟩⟩
    have w3 := w2.keep (Ex.new (o := .lst [V.int 1]) ht)
    have R2S : R2 S = none := w3.free hS
    have RS : R S = none := fresh_back eR R2S
    have SP : P ≠ S := fun e => by
      rw [e, R2S] at hP2
      cases hP2
    have w4 := w3.new (o := .lst (List.replicate n (V.int 1))) hS
    have st : St1 a l R (upd R2 S (.lst (List.replicate n (V.int 1)))) (upd (upd H2 t (.lst [V.int 1])) S (.lst (List.replicate n (V.int 1)))) n P S (List.range n) :=
      ⟨eR.trans (Ex.new R2S), w4, by rw [upd_ne SP]; exact hP2, upd_same, RS, SP, List.Perm.refl _⟩
    generalize upd R2 S (.lst (List.replicate n (V.int 1))) = R4 at st
    generalize upd (upd H2 t (.lst [V.int 1])) S (.lst (List.replicate n (V.int 1))) = H4 at st ⊢
    dsimp only
    refine if_both (fun σ' H' => ∃ (v3 v6 v7 v8 : Option V) (R' : Hp) (P' : Addr) (ps : List Nat), σ' = [some (.ref a), some (.int q), some (.int (n : Int)), v3, some (.ref P'), some (.ref S), v6, v7, v8, none] ∧ St1 a l R R' H' n P' S ps) ?_ ?_
    · rintro σ' H5 ⟨v3, v6, v7, v8, R5, P5, ps, rfl, s5⟩
      dsimp only
      refine asg_join (fun v H' => ∃ rd : Int, v = .int rd ∧ 0 ≤ rd ∧ rd < 4 ∧ (rd = 0 ∨ q = 3) ∧ Wl 1 a l R5 H') ?_ ?_
      · rintro v H6 ⟨rd, rfl, d0, d1, d2, w6⟩
        refine ⟨_, rfl, (n : Int), rfl, by omega, by omega, ?_⟩
        rw [show ((n : Nat) : Int).toNat = n by omega]
        refine for_range (lo := 0) (n := n) (fun i σ H' => ∃ (v9 : Option V) (ss : List Int) (R' : Hp), σ = [some (.ref a), some (.int q), some (.int (n : Int)), some (.int rd), some (.ref P5), some (.ref S), v6, v7, v8, v9] ∧ Ex R R' ∧ Wl 1 a l R' H' ∧ R' P5 = some (.lst ((nI ps).map V.int)) ∧ R' S = some (.lst (ss.map V.int)) ∧ ss.length = n ∧ ∀ s ∈ ss, 1 ≤ s ∧ s < q)
          ⟨none, List.replicate n 1, R5, rfl, s5.ex, w6, s5.hP, by rw [List.map_replicate]; exact s5.hS, List.length_replicate .., fun s hs => by rw [List.eq_of_mem_replicate hs]; omega⟩ (fun i σ H' hi z => ?_) (fun σ H' z => ?_)
        · obtain ⟨v9, ss, R', rfl, ex, w7, hP7, hS7, sl, sin⟩ := z
          have e0 : (0 : Int) + (i : Int) = (i : Int) := by omega
          show gName _ (V.int ((0 : Int) + (i : Int))) _ _ _
          rw [e0]
          dsimp only [gName]
          refine if_join (fun σ' H' => σ' = [some (.ref a), some (.int q), some (.int (n : Int)), some (.int rd), some (.ref P5), some (.ref S), v6, v7, v8, some (.int (i : Int))] ∧ ∃ (ss : List Int) (R' : Hp), Ex R R' ∧ Wl 1 a l R' H' ∧ R' P5 = some (.lst ((nI ps).map V.int)) ∧ R' S = some (.lst (ss.map V.int)) ∧ ss.length = n ∧ ∀ s ∈ ss, 1 ≤ s ∧ s < q) ?_ ?_
          · rintro σ' H8 ⟨rfl, ss8, R8, h⟩
            exact ⟨_, ss8, R8, rfl, h⟩
          · intro nx hn
            have RS := s5.RS
            have fin : ∀ H8, q = 3 → Wl 1 a l R' H8 → nx [some (.ref a), some (.int q), some (.int (n : Int)), some (.int rd), some (.ref P5), some (.ref S), v6, v7, v8, some (.int (i : Int))] (upd H8 S (.lst ((ss.map V.int).set i (.int 2)))) := fun H8 hq w8 => by
              rw [int_set]
              refine hn _ _ ⟨rfl, ss.set i 2, upd R' S (.lst ((ss.set i 2).map V.int)), ex_side ex RS, w8.mut hS7, by rw [upd_ne s5.ne]; exact hP7, upd_same, by rw [List.length_set]; exact sl, fun s hs => ?_⟩
              rcases List.mem_or_eq_of_mem_set hs with h | rfl
              · exact sin s h
              · omega
            have skip : ∀ H8, Wl 1 a l R' H8 → nx [some (.ref a), some (.int q), some (.int (n : Int)), some (.int rd), some (.ref P5), some (.ref S), v6, v7, v8, some (.int (i : Int))] H8 := fun H8 w8 => hn _ _ ⟨rfl, ss, R', ex, w8, hP7, hS7, sl, sin⟩
            have ix : ixN (ss.map V.int).length (i : Int) = some i := ixN_nat (by rw [List.length_map]; omega)
            refine ⟨_, rfl, rfl, _, rfl, ?_⟩
            rw [dec_int]
            by_cases c3 : rd = 3
            · subst c3
              refine iteT (iteT ⟨_, rfl, _, rfl, S, _, _, _, rfl, rfl, w7.ex _ _ hS7, ix, fin _ (by omega) w7⟩)
            · rw [beq_eq_false_iff_ne.mpr c3]
              refine iteF ⟨_, rfl, _, _, rfl, rfl, _, rfl, ?_⟩
              by_cases c0 : 0 < rd
              · rw [decide_eq_true c0]
                refine iteT ⟨_, rfl, _, rfl, _, _, rfl, rfl, a, l, R', rd + 1, rfl, w7, by omega, log_lt (by omega) (by omega), fun x H8 x0 x1 w8 => ⟨rfl, _, rfl, ?_⟩⟩
                rw [dec_int]
                by_cases cx : x = 0
                · rw [cx]
                  exact iteT ⟨_, rfl, _, rfl, S, _, _, _, rfl, rfl, w8.ex _ _ hS7, ix, fin _ (by omega) w8⟩
                · rw [beq_eq_false_iff_ne.mpr cx]
                  exact iteF (skip _ w8)
              · rw [decide_eq_false c0]
                exact iteF (iteF (skip _ w7))
        · obtain ⟨v9, ss, R', rfl, ex, w7, hP7, hS7, sl, sin⟩ := z
          have hP7' := w7.ex _ _ hP7
          have hS7' := w7.ex _ _ hS7
          refine ⟨_, rfl, P5, _, rfl, .inl ⟨sq_of hP7', RetU.new (K := K) (H := H') (fun c H8 e8 hc => ?_) (Ex.refl _)⟩⟩
          refine ⟨_, rfl, S, _, rfl, .inl ⟨sq_of (e8 _ _ hS7'), RetU.new (K := K) (H := H8) (fun d H9 e9 hd => ?_) (Ex.refl _)⟩⟩
          exact ⟨by show 2 ≤ sizeLine; decide, retX_new (((k ps ss (perm_isX s5.pm sl sin few q0 q1)).more ex).ret w7) (e8.trans e9) (hc.ex e9) hd⟩
      · intro Qk hk
        refine ⟨_, rfl, rfl, _, rfl, ?_⟩
        rw [dec_int]
        by_cases c : q = 3
        · rw [c]
          exact iteT ⟨_, rfl, a, l, R5, 4, rfl, s5.wl, by decide, log_lt (by decide) (by decide), fun x H6 x0 x1 w6 => hk _ _ ⟨x, rfl, x0, x1, .inr c, w6⟩⟩
        · rw [beq_eq_false_iff_ne.mpr c]
          exact iteF (hk _ _ ⟨0, rfl, by decide, by decide, .inl rfl, s5.wl⟩)
    · intro nx hn
      refine ⟨_, rfl, _, _, rfl, rfl, _, rfl, ?_⟩
      by_cases c4 : road < 4
      · rw [decide_eq_true c4]
        refine iteT ⟨_, rfl, _, rfl, a, l, R4, P, _, rfl, st.wl, sq_of st.hP, by rw [List.length_map, nI_len, List.length_range]; omega, fun ys pm r R5 H5 hr ex w5 h5 => ?_⟩
        obtain ⟨ps, rfl, pm'⟩ := perm_nI pm
        refine hn _ _ ⟨_, _, _, _, R5, r, ps, rfl, st.ex.trans ex, w5, h5, ex _ _ st.hS, RS, fun e => ?_, pm'⟩
        rw [e, st.hS] at hr
        cases hr
      rw [decide_eq_false c4]
      refine iteF ⟨_, rfl, rfl, _, rfl, ?_⟩
      rw [dec_int]
      by_cases c5 : road = 4
      · rw [c5]
        refine iteT ⟨_, rfl, _, rfl, _, _, rfl, rfl, a, l, R4, (n : Int) + 1, rfl, st.wl, by omega, log_lt (by omega) (by omega), fun x H5 x0 x1 w5 => ?_⟩
        obtain ⟨m, rfl⟩ := Int.eq_ofNat_of_zero_le x0
        have hm : m ≤ (List.range n).length := by rw [List.length_range]; omega
        have hP5 := w5.ex _ _ st.hP
        refine ⟨_, rfl, _, rfl, _, rfl, P, _, rfl, sq_of hP5, fun p1 hp1 => ?_⟩
        rw [cut_from hm]
        have e1 := Ex.new (o := .lst ((nI ((List.range n).drop m)).map V.int)) hp1
        refine ⟨_, rfl, _, rfl, _, rfl, P, _, rfl, sq_of (e1 _ _ hP5), fun p2 hp2 => ?_⟩
        rw [cut_to hm]
        have e2 := Ex.new (o := .lst ((nI ((List.range n).take m)).map V.int)) hp2
        have w6 := w5.keep (e1.trans e2)
        refine ⟨p1, p2, _, _, rfl, rfl, e2 _ _ upd_same, upd_same, Nat.le_of_lt (sz_lt (by simp only [List.length_map, nI_len, List.length_drop, List.length_take, List.length_range]; omega)), fun p3 hp3 => ?_⟩
        have ee : (nI ((List.range n).drop m)).map V.int ++ (nI ((List.range n).take m)).map V.int = (nI ((List.range n).drop m ++ (List.range n).take m)).map V.int := by
          rw [nI_map, nI_map, nI_map, List.map_append]
        rw [ee]
        have R4p := w6.free hp3
        have w7 := w6.new (o := .lst ((nI ((List.range n).drop m ++ (List.range n).take m)).map V.int)) hp3
        have ne3 : S ≠ p3 := fun e => by
          have := st.hS
          rw [e, R4p] at this
          cases this
        exact hn _ _ ⟨_, _, _, _, _, p3, _, rfl, st.ex.trans (Ex.new R4p), w7, upd_same, by rw [upd_ne ne3]; exact st.hS, RS, ne3.symm, List.perm_append_comm.trans (by rw [List.take_append_drop])⟩
      rw [beq_eq_false_iff_ne.mpr c5]
      refine iteF ⟨_, rfl, rfl, _, rfl, ?_⟩
      rw [dec_int]
      have last : ∀ (σ : L2.St), σ = [some (.ref a), some (.int q), some (.int (n : Int)), some (.int road), some (.ref P), some (.ref S), none, none, none, none] → nx σ H4 := fun σ e => hn _ _ ⟨_, _, _, _, R4, P, _, e, st⟩
      by_cases c6 : road = 5 ∧ (1 : Int) < n
      · rw [c6.1]
        have npos : (0 : Int) < n := by omega
        refine iteT ⟨_, rfl, _, _, rfl, rfl, _, rfl, ?_⟩
        rw [decide_eq_true c6.2]
        refine iteT ⟨_, rfl, _, rfl, a, l, R4, (n : Int), rfl, st.wl, npos, log_lt npos (by omega), fun x H5 x0 x1 w5 => ⟨_, rfl, _, rfl, a, l, R4, (n : Int), rfl, w5, npos, log_lt npos (by omega), fun y H6 y0 y1 w6 => ⟨_, _, rfl, ?_⟩⟩⟩
        obtain ⟨i, rfl⟩ := Int.eq_ofNat_of_zero_le x0
        obtain ⟨j, rfl⟩ := Int.eq_ofNat_of_zero_le y0
        have rl : (List.range n).length = n := List.length_range
        have hi : i < (List.range n).length := by omega
        have hj : j < (List.range n).length := by omega
        have hP6 := w6.ex _ _ st.hP
        refine ⟨_, rfl, _, rfl, P, _, _, _, rfl, rfl, sq_of hP6, at_nI hj, _, rfl, _, rfl, P, _, _, _, rfl, rfl, sq_of hP6, at_nI hi, by show 2 ≤ sizeLine; decide, fun t o ht ho => ?_⟩
        have e7 := Ex.new (o := .frz o (.tup [V.int (((List.range n).getD j 0 : Nat) : Int), V.int (((List.range n).getD i 0 : Nat) : Int)])) ht
        have w7 := w6.keep e7
        refine ⟨t, _, rfl, (Tp.of (K := K) ho upd_same).sq, rfl, _, _, rfl, _, rfl, _, rfl, P, _, _, _, rfl, rfl, e7 _ _ hP6, ixN_nat (by rw [List.length_map, nI_len]; exact hi), ?_⟩
        rw [nI_set]
        have w8 := w7.mut (o' := .lst ((nI ((List.range n).set i ((List.range n).getD j 0))).map V.int)) st.hP
        refine ⟨_, _, rfl, _, rfl, _, rfl, P, _, _, _, rfl, rfl, upd_same, ixN_nat (by rw [List.length_map, nI_len, List.length_set]; exact hj), ?_⟩
        rw [nI_set, upd_upd]
        refine ⟨rfl, hn _ _ ⟨_, _, _, _, upd R4 P (.lst ((nI (((List.range n).set i ((List.range n).getD j 0)).set j ((List.range n).getD i 0))).map V.int)), P, ((List.range n).set i ((List.range n).getD j 0)).set j ((List.range n).getD i 0), rfl, ?_⟩⟩
        have w9 := w7.mut (o' := .lst ((nI (((List.range n).set i ((List.range n).getD j 0)).set j ((List.range n).getD i 0))).map V.int)) st.hP
        exact ⟨ex_side st.ex RP, w9, upd_same, by rw [upd_ne SP.symm]; exact st.hS, RS, SP, set_swap hi hj⟩
      · by_cases c5 : road = 5
        · rw [c5]
          refine iteT ⟨_, rfl, _, _, rfl, rfl, _, rfl, ?_⟩
          rw [decide_eq_false (fun h => c6 ⟨c5, h⟩)]
          refine iteF ⟨_, rfl, rfl, _, rfl, ?_⟩
          rw [dec_int]
          exact iteF (last _ (by rw [c5]; rfl))
        · rw [beq_eq_false_iff_ne.mpr c5]
          refine iteF (iteF ⟨_, rfl, rfl, _, rfl, ?_⟩)
          rw [dec_int]
          by_cases c6 : road = 6
          · rw [c6]
            refine iteT ⟨_, rfl, P, _, rfl, sq_of (st.wl.ex _ _ st.hP), fun p hp => ?_⟩
            have R4p := st.wl.free hp
            have ee : ((nI (List.range n)).map V.int).reverse = (nI (List.range n).reverse).map V.int := by
              rw [nI_map, nI_map, List.map_reverse]
            rw [ee]
            have np : S ≠ p := fun e => by
              have := st.hS
              rw [e, R4p] at this
              cases this
            exact hn _ _ ⟨_, _, _, _, _, p, _, rfl, st.ex.trans (Ex.new R4p), st.wl.new hp, upd_same, by rw [upd_ne np]; exact st.hS, RS, np.symm, List.reverse_perm _⟩
          · rw [beq_eq_false_iff_ne.mpr c6]
            exact iteF (last _ rfl)
end
end K31

namespace K31
open PySem PySem.Spec PyProof.Rows L2 Evl Own
/-! ### plain laws of exchanges -/
theorem range_map_getD (ps : List Nat) : (List.range ps.length).map (fun i => ps.getD i 0) = ps := by
  have := range_map (0 : Nat) (id : Nat → Nat) ps
  rw [List.map_id] at this
  exact this
theorem ext_getD {α : Type} {d : α} {xs ys : List α} (h : xs.length = ys.length) (e : ∀ i, i < xs.length → xs.getD i d = ys.getD i d) : xs = ys := by
  apply List.ext_getElem h
  intro i h1 h2
  have := e i h1
  rw [List.getD_eq_getElem?_getD, List.getD_eq_getElem?_getD, List.getElem?_eq_getElem h1, List.getElem?_eq_getElem h2] at this
  exact this
theorem thenP_getD {ps ps' : List Nat} {i : Nat} (h : i < ps'.length) : (thenP ps ps').getD i 0 = ps.getD (ps'.getD i 0) 0 := by
  unfold thenP
  simp only [List.getD_eq_getElem?_getD, List.getElem?_map, List.getElem?_eq_getElem h]
  rfl
theorem getD_rangeMap {α : Type} {d : α} (f : Nat → α) {n i : Nat} (h : i < n) : ((List.range n).map f).getD i d = f i := by
  simp only [List.getD_eq_getElem?_getD, List.getElem?_map, List.getElem?_range h]
  rfl
theorem thenS_getD {q : Int} {ss ss' : List Int} {ps' : List Nat} {i : Nat} (h : i < ps'.length) : (thenS q ss ps' ss').getD i 0 = ss.getD (ps'.getD i 0) 0 * ss'.getD i 0 % q := getD_rangeMap _ h
theorem thenP_len (ps ps' : List Nat) : (thenP ps ps').length = ps'.length := List.length_map ..
theorem thenS_len (q : Int) (ss : List Int) (ps' : List Nat) (ss' : List Int) : (thenS q ss ps' ss').length = ps'.length := by
  unfold thenS
  rw [List.length_map, List.length_range]
theorem sg_mul {q s t : Int} (q0 : 2 ≤ q) (q1 : q ≤ 3) (hs : 1 ≤ s ∧ s < q) (ht : 1 ≤ t ∧ t < q) : 1 ≤ s * t % q ∧ s * t % q < q := by
  have : q = 2 ∨ q = 3 := by omega
  rcases this with rfl | rfl
  · have e1 : s = 1 := by omega
    have e2 : t = 1 := by omega
    subst e1 e2
    decide
  · have e1 : s = 1 ∨ s = 2 := by omega
    have e2 : t = 1 ∨ t = 2 := by omega
    rcases e1 with rfl | rfl <;> rcases e2 with rfl | rfl <;> decide
theorem IsX.then_ {q : Int} {n : Nat} {ps ps' : List Nat} {ss ss' : List Int} (x : IsX q n ps ss) (y : IsX q n ps' ss') : IsX q n (thenP ps ps') (thenS q ss ps' ss') := by
  refine ⟨?_, by rw [thenS_len, y.pn], fun s hs => ?_, x.few, x.q0, x.q1⟩
  · have h : (thenP ps ps').Perm ((List.range n).map fun j => ps.getD j 0) := y.pm.map _
    have e : (List.range n).map (fun j => ps.getD j 0) = ps := by
      have := range_map_getD ps
      rw [x.pn] at this
      exact this
    rw [e] at h
    exact h.trans x.pm
  · unfold thenS at hs
    obtain ⟨i, hi, rfl⟩ := List.mem_map.mp hs
    have hi := List.mem_range.mp hi
    rw [y.pn] at hi
    exact sg_mul x.q0 x.q1 (x.sg (y.at_ hi)) (y.sg hi)
theorem IsX.unit {q : Int} {n : Nat} (few : n ≤ 1000) (q0 : 2 ≤ q) (q1 : q ≤ 3) : IsX q n (List.range n) (List.replicate n 1) :=
  ⟨List.Perm.refl _, List.length_replicate .., fun s hs => by rw [List.eq_of_mem_replicate hs]; omega, few, q0, q1⟩
/-- places are apart -/
theorem IsX.inj {q : Int} {n : Nat} {ps : List Nat} {ss : List Int} (x : IsX q n ps ss) {i j : Nat} (hi : i < n) (hj : j < n) (h : ps.getD i 0 = ps.getD j 0) : i = j := by
  have nd : ps.Nodup := x.pm.nodup_iff.mpr List.nodup_range
  have hi' : i < ps.length := by rw [x.pn]; exact hi
  have hj' : j < ps.length := by rw [x.pn]; exact hj
  rw [List.getD_eq_getElem?_getD, List.getD_eq_getElem?_getD, List.getElem?_eq_getElem hi', List.getElem?_eq_getElem hj'] at h
  exact (List.getElem_inj nd).mp h
theorem IsX.surj {q : Int} {n : Nat} {ps : List Nat} {ss : List Int} (x : IsX q n ps ss) {y : Nat} (hy : y < n) : ∃ i, i < n ∧ ps.getD i 0 = y := by
  have : y ∈ ps := x.pm.mem_iff.mpr (List.mem_range.mpr hy)
  obtain ⟨i, hi, e⟩ := List.getElem_of_mem this
  refine ⟨i, by rw [x.pn] at hi; exact hi, ?_⟩
  rw [List.getD_eq_getElem?_getD, List.getElem?_eq_getElem hi]
  exact e
/-- what was put -/
theorem putP_at {q : Int} {n : Nat} {ps : List Nat} {ss : List Int} (x : IsX q n ps ss) : ∀ m, m ≤ n → ∀ i, i < m → (putP ps m).getD (ps.getD i 0) 0 = i
  | 0, _, i, h => by omega
  | m + 1, hm, i, h => by
    rw [putP_succ]
    have pl : ps.getD m 0 < (putP ps m).length := by rw [putP_len, x.pn]; exact x.at_ (by omega)
    by_cases e : i = m
    · subst e
      rw [List.getD_eq_getElem?_getD, List.getElem?_set_self pl]
      rfl
    · have ne : ps.getD m 0 ≠ ps.getD i 0 := fun h' => e (x.inj (by omega) (by omega) h').symm
      rw [List.getD_eq_getElem?_getD, List.getElem?_set_ne ne, ← List.getD_eq_getElem?_getD]
      exact putP_at x m (by omega) i (by omega)
theorem putS_at {q : Int} {n : Nat} {ps : List Nat} {ss : List Int} (f : Int → Int) (x : IsX q n ps ss) : ∀ m, m ≤ n → ∀ i, i < m → (putS f ps ss m).getD (ps.getD i 0) 0 = f (ss.getD i 0)
  | 0, _, i, h => by omega
  | m + 1, hm, i, h => by
    rw [putS_succ]
    have pl : ps.getD m 0 < (putS f ps ss m).length := by rw [putS_len, x.pn]; exact x.at_ (by omega)
    by_cases e : i = m
    · subst e
      rw [List.getD_eq_getElem?_getD, List.getElem?_set_self pl]
      rfl
    · have ne : ps.getD m 0 ≠ ps.getD i 0 := fun h' => e (x.inj (by omega) (by omega) h').symm
      rw [List.getD_eq_getElem?_getD, List.getElem?_set_ne ne, ← List.getD_eq_getElem?_getD]
      exact putS_at f x m (by omega) i (by omega)
theorem IsX.back {q : Int} {n : Nat} {ps : List Nat} {ss : List Int} (x : IsX q n ps ss) : IsX q n (putP ps n) (putS id ps ss n) := by
  refine ⟨?_, by rw [putS_len, x.pn], fun s hs => ?_, x.few, x.q0, x.q1⟩
  · have h : (ps.map fun j => (putP ps n).getD j 0).Perm ((List.range n).map fun j => (putP ps n).getD j 0) := x.pm.map _
    have e1 : (List.range n).map (fun j => (putP ps n).getD j 0) = putP ps n := by
      have := range_map_getD (putP ps n)
      rw [putP_len, x.pn] at this
      exact this
    have e2 : (ps.map fun j => (putP ps n).getD j 0) = List.range n := by
      apply ext_getD (d := 0)
      · rw [List.length_map, x.pn, List.length_range]
      · intro i hi
        rw [List.length_map, x.pn] at hi
        have hi' : i < ps.length := by rw [x.pn]; exact hi
        have := putP_at x n (Nat.le_refl _) i hi
        simp only [List.getD_eq_getElem?_getD, List.getElem?_map, List.getElem?_eq_getElem hi', List.getElem?_range hi] at this ⊢
        exact this
    rw [e1, e2] at h
    exact h.symm
  · obtain ⟨y, hy, rfl⟩ := List.getElem_of_mem hs
    rw [putS_len, x.pn] at hy
    obtain ⟨i, hi, e⟩ := x.surj hy
    have := putS_at id x n (Nat.le_refl _) i hi
    rw [e, List.getD_eq_getElem?_getD, List.getElem?_eq_getElem (by rw [putS_len, x.pn]; exact hy)] at this
    have e2 : (putS id ps ss n)[y]'(by rw [putS_len, x.pn]; exact hy) = ss.getD i 0 := this
    rw [e2]
    exact x.sg hi
theorem putS_mod {q : Int} {n : Nat} {ps : List Nat} {ss : List Int} (x : IsX q n ps ss) : putS (fun s => s % q) ps ss n = putS id ps ss n := by
  apply ext_getD (d := 0)
  · rw [putS_len, putS_len]
  · intro y hy
    rw [putS_len, x.pn] at hy
    obtain ⟨i, hi, rfl⟩ := x.surj hy
    rw [putS_at _ x n (Nat.le_refl _) i hi, putS_at _ x n (Nat.le_refl _) i hi]
    have := x.sg hi
    exact Int.emod_eq_of_lt (by omega) this.2
end K31

namespace K31
open PySem PySem.Spec PyProof.Rows L2 Evl Own
def spUndone (K : PySem.W.Frag) : Sp := fun vs H Q _ => ∃ (q : Int) (n : Nat) (e : Addr) (ps : List Nat) (ss : List Int), vs = [.ref e] ∧ TpX K H e ps ss ∧ IsX q n ps ss ∧ RetX K (putP ps n) (putS id ps ss n) H Q
/-- how many pairs stand the wrong way round, up to m -/
def inv (ps : List Nat) : Nat → Nat
  | 0 => 0
  | m + 1 => inv ps m + (List.range m).countP fun k => decide (ps.getD m 0 < ps.getD k 0)
def twos (ss : List Int) : Nat := ss.countP fun s => decide (s = 2)
def lsgn (ps : List Nat) (ss : List Int) : Int := if ((twos ss + inv ps ps.length : Nat) : Int) % 2 = 0 then 1 else -1
def spLSign (K : PySem.W.Frag) : Sp := fun vs H Q _ => ∃ (q : Int) (n : Nat) (e : Addr) (ps : List Nat) (ss : List Int), vs = [.ref e] ∧ TpX K H e ps ss ∧ IsX q n ps ss ∧ ∀ H', Ex H H' → Q (.int (lsgn ps ss)) H'
def spRowL (K : PySem.W.Frag) : Sp := fun vs H Q _ => ∃ (a l : Addr) (R : Hp) (q : Int) (n : Nat), vs = [.ref a, .int q, .int n] ∧ Wl 1 a l R H ∧ 2 ≤ q ∧ q ≤ 3 ∧ n ≤ 1000 ∧ ∀ xs : List Int, xs.length = n → (∀ x ∈ xs, 0 ≤ x ∧ x < q) → RetLW a l R (xs.map V.int) Q
def circ (c : List Nat) (n : Nat) : Nat → List Nat
  | 0 => List.range n
  | t + 1 => (circ c n t).set (c.getD t 0) (c.getD (if t + 1 = c.length then 0 else t + 1) 0)
def spCircle (K : PySem.W.Frag) : Sp := fun vs H Q _ => ∃ (n : Nat) (p : Addr) (c : List Nat), vs = [.int n, .ref p] ∧ SqL K H p ((nI c).map V.int) ∧ (∀ x ∈ c, x < n) ∧ c.length ≤ n ∧ n ≤ 1000 ∧ RetX K (circ c n c.length) (List.replicate n 1) H Q
abbrev XX : Type := List Nat × List Int
def thenX (q : Int) (x y : XX) : XX := (thenP x.1 y.1, thenS q x.2 y.1 y.2)
def unitX (n : Nat) : XX := (List.range n, List.replicate n 1)
def allX (q : Int) (n : Nat) (xs : List XX) : XX := xs.foldl (thenX q) (unitX n)
/-- exchanges in a list -/
structure LstX (K : PySem.W.Frag) (H : Hp) (q : Int) (n : Nat) (es : List Addr) (xs : List XX) : Prop where
  len : es.length = xs.length
  few : xs.length ≤ 1000
  at_ : ∀ (i : Nat) e x, es[i]? = some e → xs[i]? = some x → TpX K H e x.1 x.2 ∧ IsX q n x.1 x.2
theorem LstX.ex {K : PySem.W.Frag} {H H1 : Hp} {q : Int} {n : Nat} {es : List Addr} {xs : List XX} (l : LstX K H q n es xs) (e : Ex H H1) : LstX K H1 q n es xs := ⟨l.len, l.few, fun i a x h1 h2 => ⟨(l.at_ i a x h1 h2).1.ex e, (l.at_ i a x h1 h2).2⟩⟩
theorem LstX.get {K : PySem.W.Frag} {H : Hp} {q : Int} {n : Nat} {es : List Addr} {xs : List XX} (l : LstX K H q n es xs) {i : Nat} {v : V} (h : (es.map V.ref)[i]? = some v) : ∃ e x, v = .ref e ∧ es[i]? = some e ∧ xs[i]? = some x ∧ TpX K H e x.1 x.2 ∧ IsX q n x.1 x.2 := by
  rw [List.getElem?_map] at h
  cases e : es[i]? with
  | none =>
    rw [e] at h
    cases h
  | some a =>
    rw [e] at h
    have hi := (List.getElem?_eq_some_iff.mp e).1
    have hx : xs[i]? = some (xs[i]'(by rw [← l.len]; exact hi)) := List.getElem?_eq_getElem _
    exact ⟨a, _, (Option.some.inj h).symm, rfl, hx, l.at_ i a _ e hx⟩
def spAll (K : PySem.W.Frag) : Sp := fun vs H Q _ => ∃ (q : Int) (n : Nat) (p : Addr) (es : List Addr) (xs : List XX), vs = [.int q, .int n, .ref p] ∧ SqL K H p (es.map V.ref) ∧ LstX K H q n es xs ∧ n ≤ 1000 ∧ 2 ≤ q ∧ q ≤ 3 ∧ RetX K (allX q n xs).1 (allX q n xs).2 H Q
theorem allX_isX {q : Int} {n : Nat} (few : n ≤ 1000) (q0 : 2 ≤ q) (q1 : q ≤ 3) : ∀ (xs : List XX) (z : XX), IsX q n z.1 z.2 → (∀ x ∈ xs, IsX q n x.1 x.2) → IsX q n (xs.foldl (thenX q) z).1 (xs.foldl (thenX q) z).2
  | [], z, hz, _ => hz
  | x :: r, z, hz, h => allX_isX few q0 q1 r (thenX q z x) (hz.then_ (h x (by simp))) fun y hy => h y (List.mem_cons_of_mem _ hy)
theorem LstX.all {K : PySem.W.Frag} {H : Hp} {q : Int} {n : Nat} {es : List Addr} {xs : List XX} (l : LstX K H q n es xs) : ∀ x ∈ xs, IsX q n x.1 x.2 := fun x hx => by
  obtain ⟨i, hi, rfl⟩ := List.getElem_of_mem hx
  exact (l.at_ i _ _ (List.getElem?_eq_getElem (by rw [l.len]; exact hi)) (List.getElem?_eq_getElem hi)).2
section
variable {P : Program} {w : World} {K : PySem.W.Frag} {mg : Str → Option Value} {base : Heap} {f : Addr} {fd : FuncData}
theorem ok__law_led (F : FnP K "_law_led" s__law_led f fd) (Z : Zs mg) : FnOk P w K mg base CX0 1 f fd ["letters", "exchange", "row"] (spLed K) := by
  refine F.ok sc__law_led (fun vs H Q E h => ?_) (fun cdv A outer s H vs Q E hr h => ⟨_, PSs.nox (pss_cons (ps_asg (pv 1) (pg_tup rfl (pgs_cons (pg_name (i := 3) sc__law_led.nd rfl (by first | exact Or.inl rfl | exact Or.inr rfl)) (pgs_cons (pg_name (i := 4) sc__law_led.nd rfl (by first | exact Or.inl rfl | exact Or.inr rfl)) pgs_nil))))
  (pss_one (ps_ret (pe_callTy (kc_tuple (K := K)) (by rfl) Z.tuple (by decide +kernel) (pa_cons (pe_lc (own := [("at", 5)]) (g := (gName 5)) rfl sc__law_led.nd (pi_range1 (by rfl) Z.range (pa_cons (pe_callB (kc_len (K := K)) (by rfl) Z.len PySem.boot_len (pa_cons (pv 2) pa_nil)) pa_nil)) (blkOk_by (own := [("at", 5)]) (N := ["letters", "exchange", "row", "places", "signs", "at"]) (sc := defScope s__law_led) (by decide +kernel)) (fun _ _ _ _ _ => (pg_name (i := 5) sc__law_led.nd rfl (Or.inl rfl))) (fun _ _ _ _ _ => pts_nil) (fun _ _ _ _ _ => (pe_op op_mod (pe_callTy call_int1 (by rfl) Z.int (by decide +kernel) (pa_cons (pe_op op_mul (pe_ix (kx_tup (K := K)) (pv 2) (pe_ix (kx_tup (K := K)) (pv 3) (pv 5) (fun _ _ => rfl)) (fun _ _ => rfl)) (pe_ix (kx_tup (K := K)) (pv 4) (pv 5) (fun _ _ => rfl))) pa_nil)) (pv 0)))) pa_nil))))), ?_⟩)
  · obtain ⟨q, n, e, r, ps, ss, row, rfl, _⟩ := h
    rfl
  · obtain ⟨q, n, e, r, ps, ss, row, rfl, ⟨a, b, he, ha, hb⟩, x, hr, hrl, k⟩ := h
    have few := x.few
    have pn := x.pn
    refine ⟨_, rfl, e, _, rfl, he.sq, rfl, _, _, rfl, _, _, rfl, rfl, ?_⟩
    refine ⟨_, rfl, r, _, rfl, .inr hr.sq, _, rfl, by omega, by rw [List.length_map]; omega, ?_⟩
    rw [show (((row.map V.int).length : Nat) : Int).toNat = ps.length by rw [List.length_map]; omega]
    refine lcP (walk_range (lo := 0)) (fun _ _ => trivial) (by omega) (fun _ => true) (fun i => V.int (row.getD (ps.getD i 0) 0 * ss.getD i 0 % q)) (fun i H1 z H2 hi e1 y K1 K0 k1 k0 => ?_) (fun p H2 hp e2 h2 => ?_)
    · obtain ⟨rfl, rfl⟩ := y
      have e0 : (0 : Int) + (i : Int) = (i : Int) := by omega
      show gName _ (V.int ((0 : Int) + (i : Int))) _ _ _
      rw [e0]
      have s1 := x.sg (i := i) (by omega)
      have p1 := x.at_ (i := i) (by omega)
      have q1 := x.q1
      refine ⟨rfl, yes_go ⟨_, rfl, _, rfl, _, rfl, a, _, _, _, rfl, rfl, (ha.ex e1).sq, at_nI hi, r, _, _, _, rfl, rfl, (hr.ex e1).sq, atI_int (by omega), _, rfl, _, rfl, b, _, _, _, rfl, rfl, (hb.ex e1).sq, atI_int (by rw [x.sn]; omega), _, _, rfl, rfl, .inr ⟨by omega, by omega⟩, .inl ⟨_, rfl, _, rfl, _, _, rfl, rfl, by have := x.q0; show 0 < q; omega, k1 rfl _ (Ex.refl _)⟩⟩⟩
    · rw [given_all] at h2
      have : (List.range ps.length).map (fun i => V.int (row.getD (ps.getD i 0) 0 * ss.getD i 0 % q)) = (ledL q ps ss row).map V.int := by
        unfold ledL
        rw [List.map_map]
        rfl
      rw [this] at h2
      exact ⟨p, _, rfl, .inl ⟨sq_of h2, k.new e2⟩⟩
theorem ok__law_still (F : FnP K "_law_still" s__law_still f fd) (Z : Zs mg) : FnOk P w K mg base CX0 1 f fd ["length"] (spUnitX K) := by
  refine F.ok sc__law_still (fun vs H Q E h => ?_) (fun cdv A outer s H vs Q E hr h => ⟨_, PSs.nox (pss_one (ps_ret (pe_tupF (pa_cons (pe_callTy (kc_tuple (K := K)) (by rfl) Z.tuple (by decide +kernel) (pa_cons (pe_list_range Z.list Z.range (pv 0)) pa_nil)) (pa_cons (pe_op (ko_rep (K := K)) (pe_tupF (pa_cons pe_int pa_nil)) (pv 0)) pa_nil))))), ?_⟩)
  · obtain ⟨n, rfl, _⟩ := h
    rfl
  · obtain ⟨n, rfl, few, k⟩ := h
    refine ⟨_, rfl, _, rfl, rg_ok (by omega), fun r hr => ?_⟩
    rw [rgV_nI]
    refine ⟨r, _, rfl, .inl ⟨sq_of upd_same, RetU.new (K := K) (H := H) (fun a H1 e1 ha => ?_) (Ex.new hr)⟩⟩
    refine ⟨by show 1 ≤ sizeLine; decide, fun p o hp ho => ⟨_, rfl, rep_one (by omega) (by omega) (fun b H2 e2 hb => ?_) p o hp ho⟩⟩
    refine ⟨by show 2 ≤ sizeLine; decide, retX_new k (e1.trans e2) (ha.ex e2) ?_⟩
    rw [show ((n : Int)).toNat = n by omega, ← List.map_replicate] at hb
    exact hb
theorem ok__law_undone (F : FnP K "_law_undone" s__law_undone f fd) (Z : Zs mg) : FnOk P w K mg base CX0 1 f fd ["exchange"] (spUndone K) := by
  refine F.ok sc__law_undone (fun vs H Q E h => ?_) (fun cdv A outer s H vs Q E hr h => ⟨_, PSs.nox (pss_cons (ps_asg (pv 0) (pg_tup rfl (pgs_cons (pg_name (i := 1) sc__law_undone.nd rfl (by first | exact Or.inl rfl | exact Or.inr rfl)) (pgs_cons (pg_name (i := 2) sc__law_undone.nd rfl (by first | exact Or.inl rfl | exact Or.inr rfl)) pgs_nil))))
  (pss_cons (ps_par (i := 3) (j := 4) rfl sc__law_undone.nd rfl rfl (by decide) rfl rfl (pa_cons (pe_op op_rep (pe_lst (pa_cons pe_int pa_nil)) (pe_callB (kc_len (K := K)) (by rfl) Z.len PySem.boot_len (pa_cons (pv 1) pa_nil))) (pa_cons (pe_op op_rep (pe_lst (pa_cons pe_int pa_nil)) (pe_callB (kc_len (K := K)) (by rfl) Z.len PySem.boot_len (pa_cons (pv 1) pa_nil))) pa_nil)) (by rfl))
  (pss_cons (ps_for PassesOwn.never rfl (pi_range1 (by rfl) Z.range (pa_cons (pe_callB (kc_len (K := K)) (by rfl) Z.len PySem.boot_len (pa_cons (pv 1) pa_nil)) pa_nil)) (pg_name (i := 5) sc__law_undone.nd rfl (by first | exact Or.inl rfl | exact Or.inr rfl)) (pss_one (ps_asg (pe_tupF (pa_cons (pv 5) (pa_cons (pe_ix (kx_tup (K := K)) (pv 2) (pv 5) (fun _ _ => rfl)) pa_nil))) (pg_tup rfl (pgs_cons (pg_sub (pv 3) (pe_ix (kx_tup (K := K)) (pv 1) (pv 5) (fun _ _ => rfl)) set_list) (pgs_cons (pg_sub (pv 4) (pe_ix (kx_tup (K := K)) (pv 1) (pv 5) (fun _ _ => rfl)) set_list) pgs_nil))))))
  (pss_one (ps_ret (pe_tupF (pa_cons (pe_callTy (kc_tuple (K := K)) (by rfl) Z.tuple (by decide +kernel) (pa_cons (pv 3) pa_nil)) (pa_cons (pe_callTy (kc_tuple (K := K)) (by rfl) Z.tuple (by decide +kernel) (pa_cons (pv 4) pa_nil)) pa_nil)))))))), ?_⟩)
  · obtain ⟨q, n, e, ps, ss, rfl, _⟩ := h
    rfl
  · obtain ⟨q, n, e, ps, ss, rfl, ⟨a, b, he, ha, hb⟩, x, k⟩ := h
    have few := x.few
    have pn := x.pn
    have lenA : (((nI ps).map V.int).length : Int) = (n : Int) := by rw [List.length_map, nI_len, pn]
    refine ⟨_, rfl, e, _, rfl, he.sq, rfl, _, _, rfl, _, _, rfl, rfl, ?_⟩
    refine ⟨by decide, fun l1 hl1 => ⟨_, rfl, a, _, rfl, .inr (ha.ex (Ex.new hl1)).sq, ?_⟩⟩
    rw [lenA]
    refine rep_lst upd_same (by omega) fun O hO => ?_
    refine ⟨by decide, fun l2 hl2 => ⟨_, rfl, a, _, rfl, .inr (((ha.ex (Ex.new hl1)).ex (Ex.new hO)).ex (Ex.new hl2)).sq, ?_⟩⟩
    rw [lenA]
    refine rep_lst upd_same (by omega) fun T hT => ⟨_, _, rfl, ?_⟩
    have HO : H O = none := by
      by_cases c : O = l1
      · rw [c]; exact hl1
      · rw [upd_ne c] at hO; exact hO
    have hT2 : (upd (upd H l1 (.lst [V.int 0])) O (.lst (List.replicate n (V.int 0)))) T = none := by
      by_cases c : T = l2
      · rw [c]; exact hl2
      · rw [upd_ne c] at hT; exact hT
    have OT : T ≠ O := fun c => by
      rw [c, upd_same] at hT2
      cases hT2
    have HT : H T = none := by
      rw [upd_ne OT] at hT2
      by_cases c : T = l1
      · rw [c]; exact hl1
      · rw [upd_ne c] at hT2; exact hT2
    have ex0 := (((Ex.new (o := .lst [V.int 0]) hl1).trans (Ex.new (o := .lst (List.replicate n (V.int 0))) hO)).trans (Ex.new (o := .lst [V.int 1]) hl2)).trans (Ex.new (o := .lst (List.replicate n (V.int 1))) hT)
    have O0 : upd (upd (upd (upd H l1 (.lst [V.int 0])) O (.lst (List.replicate n (V.int 0)))) l2 (.lst [V.int 1])) T (.lst (List.replicate n (V.int 1))) O = some (.lst ((nI (putP ps 0)).map V.int)) := by
      have : (nI (putP ps 0)).map V.int = List.replicate n (V.int 0) := by
        rw [← pn]
        exact (nI_rep ps.length 0).symm
      rw [this]
      exact ((Ex.new (o := .lst [V.int 1]) hl2).trans (Ex.new (o := .lst (List.replicate n (V.int 1))) hT)) _ _ upd_same
    have T0 : upd (upd (upd (upd H l1 (.lst [V.int 0])) O (.lst (List.replicate n (V.int 0)))) l2 (.lst [V.int 1])) T (.lst (List.replicate n (V.int 1))) T = some (.lst ((putS (id) ps ss 0).map V.int)) := by
      have : (putS (id) ps ss 0).map V.int = List.replicate n (V.int 1) := by
        rw [← pn]
        exact List.map_replicate ..
      rw [this]
      exact upd_same
    generalize upd (upd (upd (upd H l1 (.lst [V.int 0])) O (.lst (List.replicate n (V.int 0)))) l2 (.lst [V.int 1])) T (.lst (List.replicate n (V.int 1))) = H4 at ex0 O0 T0 ⊢
    refine ⟨_, rfl, a, _, rfl, .inr (ha.ex ex0).sq, _, rfl, by omega, by rw [lenA]; omega, ?_⟩
    rw [show ((((nI ps).map V.int).length : Nat) : Int).toNat = n by rw [lenA]; omega]
    refine for_range (lo := 0) (n := n) (fun i σ H' => Ex H H' ∧ H' O = some (.lst ((nI (putP ps i)).map V.int)) ∧ H' T = some (.lst ((putS (id) ps ss i).map V.int)) ∧ ∃ v, σ = [some (.ref e), some (.ref a), some (.ref b), some (.ref O), some (.ref T), v]) ⟨ex0, O0, T0, none, rfl⟩ (fun i σ H' hi z => ?_) (fun σ H' z => ?_)
    · obtain ⟨e1, o1, t1, v, rfl⟩ := z
      have e0 : (0 : Int) + (i : Int) = (i : Int) := by omega
      show gName _ (V.int ((0 : Int) + (i : Int))) _ _ _
      rw [e0]
      have p1 := x.at_ (i := i) (by omega)
      refine ⟨_, rfl, _, rfl, _, rfl, b, _, _, _, rfl, rfl, (hb.ex e1).sq, atI_int (by rw [x.sn]; omega), by show 2 ≤ sizeLine; decide, fun t o ht ho => ?_⟩
      have e3 := Ex.new (o := .frz o (.tup [V.int (i : Int), V.int (ss.getD i 0)])) ht
      have e1' := e1.trans e3
      refine ⟨t, _, rfl, (Tp.of (K := K) ho upd_same).sq, rfl, _, _, rfl, _, rfl, _, rfl, _, rfl, a, _, _, _, rfl, rfl, (ha.ex e1').sq, at_nI (by omega), O, _, _, _, rfl, rfl, e3 _ _ o1, ixN_nat (by rw [List.length_map, nI_len, putP_len]; omega), ?_⟩
      rw [nI_set]
      have e2 := ex_side (o := .lst ((nI ((putP ps i).set (ps.getD i 0) i)).map V.int)) e1' HO
      refine ⟨_, _, rfl, _, rfl, _, rfl, _, rfl, a, _, _, _, rfl, rfl, (ha.ex e2).sq, at_nI (by omega), T, _, _, _, rfl, rfl, by rw [upd_ne OT]; exact e3 _ _ t1, ixN_nat (by rw [List.length_map, putS_len]; omega), ?_⟩
      rw [int_set]
      refine ⟨rfl, ex_side e2 HT, ?_, ?_, _, rfl⟩
      · rw [upd_ne OT.symm, upd_same, putP_succ]
      · rw [upd_same, putS_succ]
        rfl
    · obtain ⟨e1, o1, t1, v, rfl⟩ := z
      refine ⟨_, rfl, O, _, rfl, .inl ⟨sq_of o1, RetU.new (K := K) (H := H') (fun c H5 e5 hc => ?_) (Ex.refl _)⟩⟩
      refine ⟨_, rfl, T, _, rfl, .inl ⟨sq_of (e5 _ _ t1), RetU.new (K := K) (H := H5) (fun d H6 e6 hd => ?_) (Ex.refl _)⟩⟩
      exact ⟨by show 2 ≤ sizeLine; decide, retX_new k (e1.trans (e5.trans e6)) (hc.ex e6) hd⟩
theorem ok__law_then (F : FnP K "_law_then" s__law_then f fd) (Z : Zs mg) : FnOk P w K mg base CX0 1 f fd ["letters", "one", "other"] (spBehind K) := by
  refine F.ok sc__law_then (fun vs H Q E h => ?_) (fun cdv A outer s H vs Q E hr h => ⟨_, PSs.nox (pss_cons (ps_asg (pv 1) (pg_tup rfl (pgs_cons (pg_name (i := 3) sc__law_then.nd rfl (by first | exact Or.inl rfl | exact Or.inr rfl)) (pgs_cons (pg_name (i := 4) sc__law_then.nd rfl (by first | exact Or.inl rfl | exact Or.inr rfl)) pgs_nil))))
  (pss_one (ps_ret (pe_tupF (pa_cons (pe_callTy (kc_tuple (K := K)) (by rfl) Z.tuple (by decide +kernel) (pa_cons (pe_lc (own := [("at", 5)]) (g := (gName 5)) rfl sc__law_then.nd (pi_tup (pe_ix (kx_tup (K := K)) (pv 2) pe_int (fun _ _ => rfl))) (blkOk_by (own := [("at", 5)]) (N := ["letters", "one", "other", "places", "signs", "at"]) (sc := defScope s__law_then) (by decide +kernel)) (fun _ _ _ _ _ => (pg_name (i := 5) sc__law_then.nd rfl (Or.inl rfl))) (fun _ _ _ _ _ => pts_nil) (fun _ _ _ _ _ => (pe_ix (kx_tup (K := K)) (pv 3) (pv 5) (fun _ _ => rfl)))) pa_nil)) (pa_cons (pe_callTy (kc_tuple (K := K)) (by rfl) Z.tuple (by decide +kernel) (pa_cons (pe_lc (own := [("at", 5)]) (g := (gName 5)) rfl sc__law_then.nd (pi_range1 (by rfl) Z.range (pa_cons (pe_callB (kc_len (K := K)) (by rfl) Z.len PySem.boot_len (pa_cons (pv 3) pa_nil)) pa_nil)) (blkOk_by (own := [("at", 5)]) (N := ["letters", "one", "other", "places", "signs", "at"]) (sc := defScope s__law_then) (by decide +kernel)) (fun _ _ _ _ _ => (pg_name (i := 5) sc__law_then.nd rfl (Or.inl rfl))) (fun _ _ _ _ _ => pts_nil) (fun _ _ _ _ _ => (pe_op op_mod (pe_callTy call_int1 (by rfl) Z.int (by decide +kernel) (pa_cons (pe_op op_mul (pe_ix (kx_tup (K := K)) (pv 4) (pe_ix (kx_tup (K := K)) (pe_ix (kx_tup (K := K)) (pv 2) pe_int (fun _ _ => rfl)) (pv 5) (fun _ _ => rfl)) (fun _ _ => rfl)) (pe_ix (kx_tup (K := K)) (pe_ix (kx_tup (K := K)) (pv 2) pe_int (fun _ _ => rfl)) (pv 5) (fun _ _ => rfl))) pa_nil)) (pv 0)))) pa_nil)) pa_nil)))))), ?_⟩)
  · obtain ⟨q, n, e, r, ps, ss, ps', ss', rfl, _⟩ := h
    rfl
  · obtain ⟨q, n, e, r, ps, ss, ps', ss', rfl, ⟨a, b, he, ha, hb⟩, x, ⟨c, d, hr', hc, hd⟩, x', k⟩ := h
    have few := x.few
    have pn := x.pn
    have pn' := x'.pn
    refine ⟨_, rfl, e, _, rfl, he.sq, rfl, _, _, rfl, _, _, rfl, rfl, ?_⟩
    refine ⟨_, rfl, r, _, 0, .ref c, rfl, rfl, hr'.sq, rfl, c, rfl, ⟨_, hc.sq⟩, lcP (walk_tup (xs := (nI ps').map V.int)) (fun H' e => (hc.ex e).sq) (by rw [List.length_map, nI_len]; omega) (fun _ => true) (fun i => V.int ((ps.getD (ps'.getD i 0) 0 : Nat) : Int)) (fun i H1 z H2 hi e1 y K1 K0 k1 k0 => ?_) (fun p H2 hp e2 h2 => ?_)⟩
    · obtain ⟨rfl, g⟩ := y
      obtain ⟨rfl, hi⟩ := nI_at g
      have p1 := x'.at_ (i := i) (by omega)
      exact ⟨rfl, yes_go ⟨_, rfl, _, rfl, a, _, _, _, rfl, rfl, (ha.ex e1).sq, at_nI (by omega), k1 rfl _ (Ex.refl _)⟩⟩
    · rw [given_all, List.length_map, nI_len, range_ofN _ (ys := thenP ps ps') (by unfold thenP; rw [List.length_map]) (fun i hi => by
        unfold thenP
        simp only [List.getD_eq_getElem?_getD, List.getElem?_map, List.getElem?_eq_getElem hi]
        rfl)] at h2
      refine ⟨p, _, rfl, .inl ⟨sq_of h2, RetU.new (K := K) (H := H) (fun o H3 e3 ho => ?_) e2⟩⟩
      refine ⟨_, rfl, a, _, rfl, .inr (ha.ex e3).sq, _, rfl, by omega, by rw [List.length_map, nI_len]; omega, ?_⟩
      rw [show ((((nI ps).map V.int).length : Nat) : Int).toNat = ps'.length by rw [List.length_map, nI_len]; omega]
      refine lcP (walk_range (lo := 0)) (fun _ _ => trivial) (by omega) (fun _ => true) (fun i => V.int (ss.getD (ps'.getD i 0) 0 * ss'.getD i 0 % q)) (fun i H4 z H5 hi e4 y K1 K0 k1 k0 => ?_) (fun p H5 hp e5 h5 => ?_)
      · obtain ⟨rfl, rfl⟩ := y
        have e0 : (0 : Int) + (i : Int) = (i : Int) := by omega
        show gName _ (V.int ((0 : Int) + (i : Int))) _ _ _
        rw [e0]
        have s1 := x'.sg (i := i) (by omega)
        have p1 := x'.at_ (i := i) (by omega)
        have q1 := x.q1
        have e34 := e3.trans e4
        exact ⟨rfl, yes_go ⟨_, rfl, _, rfl, r, _, 0, .ref c, rfl, rfl, (hr'.ex e34).sq, rfl, _, rfl, c, _, _, _, rfl, rfl, (hc.ex e34).sq, at_nI hi, b, _, _, _, rfl, rfl, (hb.ex e34).sq, atI_int (by rw [x.sn]; omega), _, rfl, r, _, 1, .ref d, rfl, rfl, (hr'.ex e34).sq, rfl, _, rfl, d, _, _, _, rfl, rfl, (hd.ex e34).sq, atI_int (by rw [x'.sn]; omega), _, _, rfl, rfl, .inr ⟨by omega, by omega⟩, .inl ⟨_, rfl, _, rfl, _, _, rfl, rfl, by have := x.q0; show 0 < q; omega, k1 rfl _ (Ex.refl _)⟩⟩⟩
      · rw [given_all] at h5
        have : (List.range ps'.length).map (fun i => V.int (ss.getD (ps'.getD i 0) 0 * ss'.getD i 0 % q)) = (thenS q ss ps' ss').map V.int := by
          unfold thenS
          rw [List.map_map]
          rfl
        rw [this] at h5
        refine ⟨p, _, rfl, .inl ⟨sq_of h5, RetU.new (K := K) (H := H3) (fun t H6 e6 ht => ?_) e5⟩⟩
        exact ⟨by show 2 ≤ sizeLine; decide, retX_new k (e3.trans e6) (ho.ex e6) ht⟩
theorem ok__law_sign (F : FnP K "_law_sign" s__law_sign f fd) (Z : Zs mg) : FnOk P w K mg base CX0 1 f fd ["exchange"] (spLSign K) := by
  refine F.ok sc__law_sign (fun vs H Q E h => ?_) (fun cdv A outer s H vs Q E hr h => ⟨_, PSs.nox (pss_cons (ps_asg (pv 0) (pg_tup rfl (pgs_cons (pg_name (i := 1) sc__law_sign.nd rfl (by first | exact Or.inl rfl | exact Or.inr rfl)) (pgs_cons (pg_name (i := 2) sc__law_sign.nd rfl (by first | exact Or.inl rfl | exact Or.inr rfl)) pgs_nil))))
  (pss_cons (ps_set (i := 3) sc__law_sign.nd rfl (by first | exact Or.inl rfl | exact Or.inr rfl) (pe_callB (kc_len (K := K)) (by rfl) Z.len PySem.boot_len (pa_cons (pe_lc (own := [("sign", 4)]) (g := (gName 4)) rfl sc__law_sign.nd (pi_tup (pv 2)) (blkOk_by (own := [("sign", 4)]) (N := ["exchange", "places", "signs", "many", "sign", "at", "k"]) (sc := defScope s__law_sign) (by decide +kernel)) (fun _ _ _ _ _ => (pg_name (i := 4) sc__law_sign.nd rfl (Or.inl rfl))) (fun _ _ _ _ _ => (pts_one (pt_cmpR op_eq (pv 4) pe_int (nomark _)))) (fun _ _ _ _ _ => (pv 4))) pa_nil)))
  (pss_cons (ps_for PassesOwn.never rfl (pi_range1 (by rfl) Z.range (pa_cons (pe_callB (kc_len (K := K)) (by rfl) Z.len PySem.boot_len (pa_cons (pv 1) pa_nil)) pa_nil)) (pg_name (i := 5) sc__law_sign.nd rfl (by first | exact Or.inl rfl | exact Or.inr rfl)) (pss_one (ps_set (i := 3) sc__law_sign.nd rfl (by first | exact Or.inl rfl | exact Or.inr rfl) (pe_op op_add (pv 3) (pe_callB (kc_len (K := K)) (by rfl) Z.len PySem.boot_len (pa_cons (pe_lc (own := [("k", 6)]) (g := (gName 6)) rfl sc__law_sign.nd (pi_range1 (by rfl) Z.range (pa_cons (pv 5) pa_nil)) (blkOk_by (own := [("k", 6)]) (N := ["exchange", "places", "signs", "many", "sign", "at", "k"]) (sc := defScope s__law_sign) (by decide +kernel)) (fun _ _ _ _ _ => (pg_name (i := 6) sc__law_sign.nd rfl (Or.inl rfl))) (fun _ _ _ _ _ => (pts_one (pt_cmpR op_gt (pe_ix (kx_tup (K := K)) (pv 1) (pv 6) (fun _ _ => rfl)) (pe_ix (kx_tup (K := K)) (pv 1) (pv 5) (fun _ _ => rfl)) (nomark _)))) (fun _ _ _ _ _ => (pv 6))) pa_nil))))))
  (pss_one (ps_ret (pe_ifExp (pt_cmpR op_eq (pe_op op_mod (pe_callTy call_int1 (by rfl) Z.int (by decide +kernel) (pa_cons (pv 3) pa_nil)) pe_int) pe_int (nomark _)) pe_int (pe_un un_neg pe_int))))))), ?_⟩)
  · obtain ⟨q, n, e, ps, ss, rfl, _⟩ := h
    rfl
  · obtain ⟨q, n, e, ps, ss, rfl, ⟨a, b, he, ha, hb⟩, x, k⟩ := h
    have few := x.few
    have pn := x.pn
    have sn := x.sn
    have lenA : (((nI ps).map V.int).length : Int) = (n : Int) := by rw [List.length_map, nI_len, pn]
    refine ⟨_, rfl, e, _, rfl, he.sq, rfl, _, _, rfl, _, _, rfl, rfl, ?_⟩
    refine ⟨_, rfl, b, rfl, ⟨_, hb.sq⟩, lcP (walk_tup (xs := ss.map V.int)) (fun H' ee => (hb.ex ee).sq) (by rw [List.length_map]; omega) (fun i => decide (ss.getD i 0 = 2)) (fun i => V.int (ss.getD i 0)) (fun i H1 z H2 hi e1 y K1 K0 k1 k0 => ?_) (fun p H2 hp e2 h2 => ?_)⟩
    · obtain ⟨rfl, g⟩ := y
      obtain ⟨rfl, hi⟩ := int_at g
      refine ⟨rfl, _, rfl, rfl, _, rfl, ?_⟩
      rw [dec_int]
      by_cases c : ss.getD i 0 = 2
      · rw [c, beq_self_eq_true]
        refine iteT ⟨_, rfl, ?_⟩
        have := k1 (decide_eq_true c) _ (Ex.refl _)
        rw [c] at this
        exact this
      · rw [beq_eq_false_iff_ne.mpr c]
        exact iteF (k0 (decide_eq_false c) _ (Ex.refl _))
    · rw [List.length_map] at h2
      have glen := given_count ss (fun s => decide (s = 2)) (fun i => V.int (ss.getD i 0))
      refine ⟨p, _, rfl, .inl (sq_of h2), ?_⟩
      rw [glen]
      have he2 := he.ex e2
      refine ⟨_, rfl, a, _, rfl, .inr (ha.ex e2).sq, _, rfl, by omega, by rw [lenA]; omega, ?_⟩
      rw [show ((((nI ps).map V.int).length : Nat) : Int).toNat = n by rw [lenA]; omega]
      refine for_range (lo := 0) (n := n) (fun i σ H' => Ex H H' ∧ ∃ v, σ = [some (.ref e), some (.ref a), some (.ref b), some (.int ((twos ss + inv ps i : Nat) : Int)), none, v, none]) ⟨e2, none, rfl⟩ (fun i σ H' hi z => ?_) (fun σ H' z => ?_)
      · obtain ⟨ex, v, rfl⟩ := z
        have e0 : (0 : Int) + (i : Int) = (i : Int) := by omega
        show gName _ (V.int ((0 : Int) + (i : Int))) _ _ _
        rw [e0]
        refine ⟨_, rfl, _, rfl, _, rfl, by omega, by omega, ?_⟩
        rw [show ((i : Nat) : Int).toNat = i by omega]
        refine lcP (walk_range (lo := 0)) (fun _ _ => trivial) (by omega) (fun k => decide (ps.getD i 0 < ps.getD k 0)) (fun k => V.int (k : Int)) (fun k H1 z H2 hk e1 y K1 K0 k1 k0 => ?_) (fun p H2 hp e3 h3 => ?_)
        · obtain ⟨rfl, rfl⟩ := y
          have e0 : (0 : Int) + (k : Int) = (k : Int) := by omega
          show gName _ (V.int ((0 : Int) + (k : Int))) _ _ _
          rw [e0]
          have ee := ex.trans e1
          refine ⟨rfl, _, rfl, _, rfl, a, _, _, _, rfl, rfl, (ha.ex ee).sq, at_nI (by omega), _, rfl, _, rfl, a, _, _, _, rfl, rfl, (ha.ex ee).sq, at_nI (by omega), _, _, rfl, rfl, _, rfl, ?_⟩
          by_cases c : ps.getD i 0 < ps.getD k 0
          · rw [decide_eq_true (show ((ps.getD i 0 : Nat) : Int) < ((ps.getD k 0 : Nat) : Int) by omega)]
            exact iteT ⟨_, rfl, k1 (decide_eq_true c) _ (Ex.refl _)⟩
          · rw [decide_eq_false (show ¬ ((ps.getD i 0 : Nat) : Int) < ((ps.getD k 0 : Nat) : Int) by omega)]
            exact iteF (k0 (decide_eq_false c) _ (Ex.refl _))
        · refine ⟨p, _, rfl, .inl (sq_of h3), _, _, rfl, rfl, ex.trans e3, some (.int (i : Int)), ?_⟩
          have gl : (given i (fun k => decide (ps.getD i 0 < ps.getD k 0)) (fun k => V.int (k : Int))).length = (List.range i).countP fun k => decide (ps.getD i 0 < ps.getD k 0) := by
            unfold given
            rw [List.length_map, ← List.countP_eq_length_filter]
          rw [gl]
          have : ((twos ss + inv ps i : Nat) : Int) + (((List.range i).countP fun k => decide (ps.getD i 0 < ps.getD k 0) : Nat) : Int) = ((twos ss + inv ps (i + 1) : Nat) : Int) := by
            show _ = ((twos ss + (inv ps i + _) : Nat) : Int)
            omega
          rw [← this]
          rfl
      · obtain ⟨ex, v, rfl⟩ := z
        have kk := k _ ex
        unfold lsgn at kk
        rw [pn] at kk
        refine ⟨_, rfl, .inl ⟨_, rfl, _, _, rfl, rfl, (show (0 : Int) < 2 by decide), rfl, _, rfl, ?_⟩⟩
        rw [dec_int]
        by_cases c : ((twos ss + inv ps n : Nat) : Int) % 2 = 0
        · rw [if_pos c] at kk
          rw [c]
          exact iteT kk
        · rw [if_neg c] at kk
          rw [beq_eq_false_iff_ne.mpr c]
          exact iteF ⟨_, rfl, kk⟩
theorem ok__law_row (F : FnP K "_law_row" s__law_row f fd) (Z : Zs mg) (G__law_any : Fn P w K mg base CX0 1 "_law_any" s__law_any ["draws", "bound"] (spAny 1)) : FnOk P w K mg base CX0 2 f fd ["draws", "letters", "length"] (spRowL K) := by
  refine F.ok sc__law_row (fun vs H Q E h => ?_) (fun cdv A outer s H vs Q E hr h => ⟨_, PSs.nox (pss_one (ps_ret (pe_lc (own := [("at", 3)]) (g := (gName 3)) rfl sc__law_row.nd (pi_range1 (by rfl) Z.range (pa_cons (pv 2) pa_nil)) (blkOk_by (own := [("at", 3)]) (N := ["draws", "letters", "length", "at"]) (sc := defScope s__law_row) (by decide +kernel)) (fun _ _ _ _ _ => (pg_name (i := 3) sc__law_row.nd rfl (Or.inl rfl))) (fun _ _ _ _ _ => pts_nil) (fun _ _ _ _ _ => (pe_callF G__law_any (hr.mono (by decide)) rfl pass0 (pa_cons (pv 0) (pa_cons (pv 1) pa_nil))))))), ?_⟩)
  · obtain ⟨a, l, R, q, n, rfl, _⟩ := h
    rfl
  · obtain ⟨a, l, R, q, n, rfl, hw, q0, q1, few, k⟩ := h
    refine ⟨_, rfl, _, rfl, by omega, by omega, ?_⟩
    rw [show ((n : Nat) : Int).toNat = n by omega]
    refine lcW (Q := fun D H' => Q (.ref D) H') (fun i acc _ => ∃ xs : List Int, acc = xs.map V.int ∧ xs.length = i ∧ i ≤ n ∧ ∀ x ∈ xs, 0 ≤ x ∧ x < q) (walk_range (lo := 0)) hw (fun D _ => ⟨[], rfl, rfl, by omega, fun x h => (List.not_mem_nil h).elim⟩) (fun _ _ _ _ => trivial) (fun i acc Rd s => ?_)
      (fun i D acc Rd H1 z H2 hi ex w1 hD hacc s y K1 K0 k1 k0 => ?_) (fun D acc Rd H2 hD ex w2 hacc s => ?_)
    · obtain ⟨xs, rfl, h1, h2, _⟩ := s
      rw [List.length_map]
      omega
    · obtain ⟨rfl, rfl⟩ := y
      obtain ⟨xs, rfl, h1, h2, h3⟩ := s
      refine ⟨rfl, yes_go ⟨_, rfl, _, rfl, a, l, Rd, q, rfl, w1, by omega, log_lt (by omega) (by omega), fun x H5 x0 x1 w5 => k1 _ Rd H5 ex w5 hacc ⟨xs ++ [x], by rw [List.map_append]; rfl, by rw [List.length_append, h1]; rfl, by omega, fun y hy => ?_⟩⟩⟩
      rcases List.mem_append.mp hy with h | h
      · exact h3 y h
      · rw [List.mem_singleton.mp h]
        exact ⟨x0, x1⟩
    · obtain ⟨xs, rfl, h1, h2, h3⟩ := s
      exact k xs h1 h3 D Rd H2 hD ex w2 hacc
theorem circ_len (c : List Nat) (n : Nat) : ∀ t, (circ c n t).length = n
  | 0 => List.length_range
  | t + 1 => by
    show ((circ c n t).set _ _).length = n
    rw [List.length_set, circ_len c n t]
theorem getD_lt {c : List Nat} {n i : Nat} (h : ∀ x ∈ c, x < n) (hi : i < c.length) : c.getD i 0 < n := by
  rw [List.getD_eq_getElem?_getD, List.getElem?_eq_getElem hi]
  exact h _ (List.getElem_mem hi)
theorem ok__law_circle (F : FnP K "_law_circle" s__law_circle f fd) (Z : Zs mg) : FnOk P w K mg base CX0 1 f fd ["many", "circle"] (spCircle K) := by
  refine F.ok sc__law_circle (fun vs H Q E h => ?_) (fun cdv A outer s H vs Q E hr h => ⟨_, PSs.nox (pss_cons (ps_set (i := 2) sc__law_circle.nd rfl (by first | exact Or.inl rfl | exact Or.inr rfl) (pe_list_range Z.list Z.range (pv 0)))
  (pss_cons (ps_for PassesOwn.never rfl (pi_range1 (by rfl) Z.range (pa_cons (pe_callB (kc_len (K := K)) (by rfl) Z.len PySem.boot_len (pa_cons (pv 1) pa_nil)) pa_nil)) (pg_name (i := 3) sc__law_circle.nd rfl (by first | exact Or.inl rfl | exact Or.inr rfl)) (pss_one (ps_asg (pe_ix (kx_list (K := K)) (pv 1) (pe_op op_sub (pe_op op_add (pv 3) pe_int) (pe_callB (kc_len (K := K)) (by rfl) Z.len PySem.boot_len (pa_cons (pv 1) pa_nil))) (fun _ _ => rfl)) (pg_sub (pv 2) (pe_ix (kx_list (K := K)) (pv 1) (pv 3) (fun _ _ => rfl)) set_list))))
  (pss_one (ps_ret (pe_tupF (pa_cons (pe_callTy (kc_tuple (K := K)) (by rfl) Z.tuple (by decide +kernel) (pa_cons (pv 2) pa_nil)) (pa_cons (pe_op (ko_rep (K := K)) (pe_tupF (pa_cons pe_int pa_nil)) (pv 0)) pa_nil))))))), ?_⟩)
  · obtain ⟨n, p, c, rfl, _⟩ := h
    rfl
  · obtain ⟨n, p, c, rfl, hp, cin, cl, few, k⟩ := h
    refine ⟨_, rfl, _, rfl, rg_ok (by omega), fun r hr => ?_⟩
    rw [rgV_nI]
    have e1 := Ex.new (o := .lst ((nI (List.range n)).map V.int)) hr
    have h1 : upd H r (.lst ((nI (List.range n)).map V.int)) r = some (.lst ((nI (List.range n)).map V.int)) := upd_same
    generalize upd H r (.lst ((nI (List.range n)).map V.int)) = H1 at e1 h1 ⊢
    have lenC : (((nI c).map V.int).length : Int) = (c.length : Int) := by rw [List.length_map, nI_len]
    refine ⟨_, rfl, p, _, rfl, .inl (ex_l e1 hp), _, rfl, by omega, by rw [lenC]; omega, ?_⟩
    rw [show ((((nI c).map V.int).length : Nat) : Int).toNat = c.length by rw [lenC]; omega]
    refine for_range (lo := 0) (n := c.length) (fun i σ H' => Ex H H' ∧ H' r = some (.lst ((nI (circ c n i)).map V.int)) ∧ ∃ v, σ = [some (.int (n : Int)), some (.ref p), some (.ref r), v]) ⟨e1, h1, none, rfl⟩ (fun i σ H' hi z => ?_) (fun σ H' z => ?_)
    · obtain ⟨ex, h2, v, rfl⟩ := z
      have e0 : (0 : Int) + (i : Int) = (i : Int) := by omega
      show gName _ (V.int ((0 : Int) + (i : Int))) _ _ _
      rw [e0]
      have hat : atI ((nI c).map V.int) ((i : Int) + 1 - (c.length : Int)) = some (.int ((c.getD (if i + 1 = c.length then 0 else i + 1) 0 : Nat) : Int)) := by
        by_cases e : i + 1 = c.length
        · rw [if_pos e, show (i : Int) + 1 - (c.length : Int) = ((0 : Nat) : Int) by omega]
          exact at_nI (by omega)
        · rw [if_neg e]
          have := at_nI (ps := c) (i := i + 1) (by omega)
          unfold atI at this ⊢
          rw [ixN_nat (by rw [List.length_map, nI_len]; omega)] at this
          have : ixN ((nI c).map V.int).length ((i : Int) + 1 - (c.length : Int)) = some (i + 1) := by
            unfold ixN
            rw [List.length_map, nI_len, if_neg (by omega), if_pos (by omega)]
            congr 1
            omega
          rw [this]
          assumption
      refine ⟨_, rfl, _, rfl, _, _, rfl, rfl, _, rfl, p, _, rfl, .inl (ex_l ex hp), _, _, rfl, rfl, p, _, _, _, rfl, rfl, ex_l ex hp, by rw [lenC]; exact hat, _, rfl, _, rfl, _, rfl, p, _, _, _, rfl, rfl, ex_l ex hp, at_nI hi, r, _, _, _, rfl, rfl, h2, ixN_nat (by rw [List.length_map, nI_len, circ_len]; exact getD_lt cin hi), ?_⟩
      rw [nI_set]
      exact ⟨ex_side ex hr, upd_same, _, rfl⟩
    · obtain ⟨ex, h2, v, rfl⟩ := z
      refine ⟨_, rfl, r, _, rfl, .inl ⟨sq_of h2, RetU.new (K := K) (H := H') (fun a H3 e3 ha => ?_) (Ex.refl _)⟩⟩
      refine ⟨by show 1 ≤ sizeLine; decide, fun p o hp ho => ⟨_, rfl, rep_one (by omega) (by omega) (fun b H4 e4 hb => ?_) p o hp ho⟩⟩
      refine ⟨by show 2 ≤ sizeLine; decide, retX_new k (ex.trans (e3.trans e4)) (ha.ex e4) ?_⟩
      rw [show ((n : Int)).toNat = n by omega, ← List.map_replicate] at hb
      exact hb
theorem ok__law_all (F : FnP K "_law_all" s__law_all f fd) (Z : Zs mg) (G__law_still : Fn P w K mg base CX0 1 "_law_still" s__law_still ["length"] (spUnitX K)) (G__law_then : Fn P w K mg base CX0 1 "_law_then" s__law_then ["letters", "one", "other"] (spBehind K)) : FnOk P w K mg base CX0 2 f fd ["letters", "length", "exchanges"] (spAll K) := by
  refine F.ok sc__law_all (fun vs H Q E h => ?_) (fun cdv A outer s H vs Q E hr h => ⟨_, PSs.nox (pss_cons (ps_set (i := 3) sc__law_all.nd rfl (by first | exact Or.inl rfl | exact Or.inr rfl) (pe_callF G__law_still (hr.mono (by decide)) rfl pass0 (pa_cons (pv 1) pa_nil)))
  (pss_cons (ps_for PassesOwn.never rfl (pi_list (pv 2)) (pg_name (i := 4) sc__law_all.nd rfl (by first | exact Or.inl rfl | exact Or.inr rfl)) (pss_one (ps_set (i := 3) sc__law_all.nd rfl (by first | exact Or.inl rfl | exact Or.inr rfl) (pe_callF G__law_then (hr.mono (by decide)) rfl pass0 (pa_cons (pv 0) (pa_cons (pv 3) (pa_cons (pv 4) pa_nil)))))))
  (pss_one (ps_ret (pv 3))))), ?_⟩)
  · obtain ⟨q, n, p, es, xs, rfl, _⟩ := h
    rfl
  · obtain ⟨q, n, p, es, xs, rfl, hp, lx, few, q0, q1, k⟩ := h
    refine ⟨_, rfl, n, rfl, few, fun e0 H1 e1 h1 => ?_⟩
    refine ⟨_, rfl, p, rfl, ⟨_, ex_l e1 hp⟩, for_list (xs := es.map V.ref) (fun i σ H' => Ex H H' ∧ ∃ v c, σ = [some (.int q), some (.int (n : Int)), some (.ref p), some (.ref c), v] ∧ TpX K H' c (allX q n (xs.take i)).1 (allX q n (xs.take i)).2) ⟨e1, none, e0, rfl, h1⟩ (fun i σ H' _ h => ex_l h.1 hp) (fun i z σ H' hz h => ?_) (fun σ H' h => ?_)⟩
    · obtain ⟨ex, v, c, rfl, hc⟩ := h
      obtain ⟨e, x, rfl, he, hx, tx, ix⟩ := (lx.ex ex).get hz
      have ia := allX_isX few q0 q1 (xs.take i) (unitX n) (IsX.unit few q0 q1) fun y hy => lx.all y (List.mem_of_mem_take hy)
      refine ⟨_, rfl, _, rfl, _, rfl, q, n, c, e, _, _, _, _, rfl, hc, ia, tx, ix, fun d H2 e2 hd => ⟨ex.trans e2, _, d, rfl, ?_⟩⟩
      have : allX q n (xs.take (i + 1)) = thenX q (allX q n (xs.take i)) x := by
        unfold allX
        rw [List.take_succ, hx, List.foldl_append]
        rfl
      rw [this]
      exact hd
    · obtain ⟨ex, v, c, rfl, hc⟩ := h
      rw [List.length_map, lx.len, List.take_length] at hc
      exact ⟨_, rfl, k c H' ex hc⟩
end
end K31

namespace K31
open PySem PySem.Spec PyProof.Rows L2 Evl Own
theorem ledL_len (q : Int) (ps : List Nat) (ss row : List Int) : (ledL q ps ss row).length = ps.length := by
  unfold ledL
  rw [List.length_map, List.length_range]
theorem ledL_getD {q : Int} {ps : List Nat} {ss row : List Int} {i : Nat} (h : i < ps.length) : (ledL q ps ss row).getD i 0 = row.getD (ps.getD i 0) 0 * ss.getD i 0 % q := getD_rangeMap _ h
theorem mul_mod3 (a b c q : Int) : a * b % q * c % q = a * (b * c % q) % q := by
  rw [Int.mul_emod (a * b % q) c, Int.emod_emod_of_dvd _ (Int.dvd_refl q), ← Int.mul_emod, Int.mul_emod a (b * c % q), Int.emod_emod_of_dvd _ (Int.dvd_refl q), ← Int.mul_emod, Int.mul_assoc]
theorem led_then {q : Int} {n : Nat} {x y : XX} (hx : IsX q n x.1 x.2) (hy : IsX q n y.1 y.2) (row : List Int) : ledL q (thenX q x y).1 (thenX q x y).2 row = ledL q y.1 y.2 (ledL q x.1 x.2 row) := by
  have l1 : (thenX q x y).1.length = n := by
    show (thenP _ _).length = n
    rw [thenP_len, hy.pn]
  apply ext_getD (d := 0)
  · rw [ledL_len, ledL_len, l1, hy.pn]
  · intro i hi
    rw [ledL_len, l1] at hi
    have hyi : i < y.1.length := by rw [hy.pn]; exact hi
    have h1 := hy.at_ hi
    rw [ledL_getD (by rw [l1]; exact hi), ledL_getD hyi, ledL_getD (by rw [hx.pn]; exact h1)]
    show row.getD ((thenP x.1 y.1).getD i 0) 0 * (thenS q x.2 y.1 y.2).getD i 0 % q = _
    rw [thenP_getD hyi, thenS_getD hyi, mul_mod3]
theorem led_unit {q : Int} {n : Nat} {row : List Int} (h : row.length = n) (hr : ∀ x ∈ row, 0 ≤ x ∧ x < q) : ledL q (unitX n).1 (unitX n).2 row = row := by
  apply ext_getD (d := 0)
  · rw [ledL_len]
    show (List.range n).length = _
    rw [List.length_range, h]
  · intro i hi
    rw [ledL_len] at hi
    have hi' : i < n := by
      have : (unitX n).1.length = n := List.length_range
      omega
    rw [ledL_getD hi]
    show row.getD ((List.range n).getD i 0) 0 * (List.replicate n (1 : Int)).getD i 0 % q = _
    have e1 : (List.range n).getD i 0 = i := by rw [List.getD_eq_getElem?_getD, List.getElem?_range hi']; rfl
    have e2 : (List.replicate n (1 : Int)).getD i 0 = 1 := by rw [List.getD_eq_getElem?_getD, List.getElem?_replicate, if_pos hi']; rfl
    rw [e1, e2, Int.mul_one]
    have := hr _ (Own.getD_mem (xs := row) (i := i) (by omega))
    exact Int.emod_eq_of_lt this.1 this.2
theorem then_assoc {q : Int} {n : Nat} {x y z : XX} (hx : IsX q n x.1 x.2) (hy : IsX q n y.1 y.2) (hz : IsX q n z.1 z.2) : thenX q (thenX q x y) z = thenX q x (thenX q y z) := by
  have l1 : (thenP y.1 z.1).length = n := by rw [thenP_len, hz.pn]
  refine Prod.ext ?_ ?_
  · show thenP (thenP x.1 y.1) z.1 = thenP x.1 (thenP y.1 z.1)
    apply ext_getD (d := 0)
    · rw [thenP_len, thenP_len, thenP_len]
    · intro i hi
      rw [thenP_len] at hi
      have hi' : i < n := by rw [hz.pn] at hi; exact hi
      rw [thenP_getD hi, thenP_getD (by rw [hy.pn]; exact hz.at_ hi'), thenP_getD (by rw [l1]; exact hi'), thenP_getD hi]
  · show thenS q (thenS q x.2 y.1 y.2) z.1 z.2 = thenS q x.2 (thenP y.1 z.1) (thenS q y.2 z.1 z.2)
    apply ext_getD (d := 0)
    · rw [thenS_len, thenS_len, thenP_len]
    · intro i hi
      rw [thenS_len] at hi
      have hi' : i < n := by rw [hz.pn] at hi; exact hi
      rw [thenS_getD hi, thenS_getD (by rw [hy.pn]; exact hz.at_ hi'), thenS_getD (by rw [l1]; exact hi'), thenP_getD hi, thenS_getD hi, mul_mod3]
theorem unit_at {n i : Nat} (h : i < n) : (unitX n).1.getD i 0 = i ∧ (unitX n).2.getD i 0 = 1 := by
  constructor
  · show (List.range n).getD i 0 = i
    rw [List.getD_eq_getElem?_getD, List.getElem?_range h]
    rfl
  · show (List.replicate n (1 : Int)).getD i 0 = 1
    rw [List.getD_eq_getElem?_getD, List.getElem?_replicate, if_pos h]
    rfl
theorem then_unit {q : Int} {n : Nat} {x : XX} (hx : IsX q n x.1 x.2) : thenX q x (unitX n) = x := by
  have l1 : (unitX n).1.length = n := List.length_range
  refine Prod.ext ?_ ?_
  · show thenP x.1 (unitX n).1 = x.1
    apply ext_getD (d := 0)
    · rw [thenP_len, l1, hx.pn]
    · intro i hi
      rw [thenP_len, l1] at hi
      rw [thenP_getD (by rw [l1]; exact hi), (unit_at hi).1]
  · show thenS q x.2 (unitX n).1 (unitX n).2 = x.2
    apply ext_getD (d := 0)
    · rw [thenS_len, l1, hx.sn]
    · intro i hi
      rw [thenS_len, l1] at hi
      rw [thenS_getD (by rw [l1]; exact hi), (unit_at hi).1, (unit_at hi).2, Int.mul_one]
      have := hx.sg hi
      exact Int.emod_eq_of_lt (by omega) this.2
theorem unit_then {q : Int} {n : Nat} {x : XX} (hx : IsX q n x.1 x.2) : thenX q (unitX n) x = x := by
  refine Prod.ext ?_ ?_
  · show thenP (unitX n).1 x.1 = x.1
    apply ext_getD (d := 0)
    · rw [thenP_len]
    · intro i hi
      rw [thenP_len] at hi
      have hi' : i < n := by rw [hx.pn] at hi; exact hi
      rw [thenP_getD hi, (unit_at (hx.at_ hi')).1]
  · show thenS q (unitX n).2 x.1 x.2 = x.2
    apply ext_getD (d := 0)
    · rw [thenS_len, hx.pn, hx.sn]
    · intro i hi
      rw [thenS_len] at hi
      have hi' : i < n := by rw [hx.pn] at hi; exact hi
      rw [thenS_getD hi, (unit_at (hx.at_ hi')).2, Int.one_mul]
      have := hx.sg hi'
      exact Int.emod_eq_of_lt (by omega) this.2
theorem fold_then {q : Int} {n : Nat} (few : n ≤ 1000) (q0 : 2 ≤ q) (q1 : q ≤ 3) : ∀ (ys : List XX) (z : XX), IsX q n z.1 z.2 → (∀ y ∈ ys, IsX q n y.1 y.2) → ys.foldl (thenX q) z = thenX q z (allX q n ys)
  | [], z, hz, _ => (then_unit hz).symm
  | y :: r, z, hz, h => by
    have hy := h y (by simp)
    have hr : ∀ y ∈ r, IsX q n y.1 y.2 := fun w hw => h w (List.mem_cons_of_mem _ hw)
    have hu : IsX q n (unitX n).1 (unitX n).2 := IsX.unit few q0 q1
    have ha := allX_isX few q0 q1 r (unitX n) hu hr
    show r.foldl (thenX q) (thenX q z y) = thenX q z (r.foldl (thenX q) (thenX q (unitX n) y))
    rw [fold_then few q0 q1 r _ (hz.then_ hy) hr, fold_then few q0 q1 r _ (hu.then_ hy) hr, unit_then hy]
    exact then_assoc hz hy ha
theorem all_app {q : Int} {n : Nat} (few : n ≤ 1000) (q0 : 2 ≤ q) (q1 : q ≤ 3) (xs ys : List XX) (hx : ∀ y ∈ xs, IsX q n y.1 y.2) (hy : ∀ y ∈ ys, IsX q n y.1 y.2) : allX q n (xs ++ ys) = thenX q (allX q n xs) (allX q n ys) := by
  have hu : IsX q n (unitX n).1 (unitX n).2 := IsX.unit few q0 q1
  unfold allX
  rw [List.foldl_append]
  exact fold_then few q0 q1 ys _ (allX_isX few q0 q1 xs _ hu hx) hy
theorem led_fold {q : Int} {n : Nat} (few : n ≤ 1000) (q0 : 2 ≤ q) (q1 : q ≤ 3) (row : List Int) : ∀ (xs : List XX) (z : XX), IsX q n z.1 z.2 → (∀ y ∈ xs, IsX q n y.1 y.2) → ledL q (xs.foldl (thenX q) z).1 (xs.foldl (thenX q) z).2 row = xs.foldl (fun r x => ledL q x.1 x.2 r) (ledL q z.1 z.2 row)
  | [], z, _, _ => rfl
  | y :: r, z, hz, h => by
    have hy := h y (by simp)
    show ledL q (r.foldl (thenX q) (thenX q z y)).1 (r.foldl (thenX q) (thenX q z y)).2 row = r.foldl (fun r x => ledL q x.1 x.2 r) (ledL q y.1 y.2 (ledL q z.1 z.2 row))
    rw [led_fold few q0 q1 row r _ (hz.then_ hy) fun w hw => h w (List.mem_cons_of_mem _ hw), led_then hz hy]
def backX (n : Nat) (x : XX) : XX := (putP x.1 n, putS id x.1 x.2 n)
theorem back_back {q : Int} {n : Nat} {x : XX} (hx : IsX q n x.1 x.2) : backX n (backX n x) = x := by
  have hb := hx.back
  refine Prod.ext ?_ ?_
  · show putP (putP x.1 n) n = x.1
    apply ext_getD (d := 0)
    · rw [putP_len, putP_len]
    · intro i hi
      rw [putP_len, putP_len, hx.pn] at hi
      have h1 := putP_at hx n (Nat.le_refl _) i hi
      have h2 := putP_at hb n (Nat.le_refl _) (x.1.getD i 0) (hx.at_ hi)
      rw [h1] at h2
      exact h2
  · show putS id (putP x.1 n) (putS id x.1 x.2 n) n = x.2
    apply ext_getD (d := 0)
    · rw [putS_len, putP_len, hx.pn, hx.sn]
    · intro i hi
      rw [putS_len, putP_len, hx.pn] at hi
      have h1 := putP_at hx n (Nat.le_refl _) i hi
      have h2 := putS_at id hb n (Nat.le_refl _) (x.1.getD i 0) (hx.at_ hi)
      have h3 := putS_at id hx n (Nat.le_refl _) i hi
      rw [h1, h3] at h2
      exact h2
theorem sg_sq {q s : Int} (q0 : 2 ≤ q) (q1 : q ≤ 3) (h : 1 ≤ s ∧ s < q) : s * s % q = 1 := by
  have : q = 2 ∨ q = 3 := by omega
  rcases this with rfl | rfl
  · have e1 : s = 1 := by omega
    subst e1
    decide
  · have e1 : s = 1 ∨ s = 2 := by omega
    rcases e1 with rfl | rfl <;> decide
theorem then_back {q : Int} {n : Nat} {x : XX} (hx : IsX q n x.1 x.2) : thenX q x (backX n x) = unitX n := by
  have hb := hx.back
  have l1 : (putP x.1 n).length = n := by rw [putP_len, hx.pn]
  refine Prod.ext ?_ ?_
  · show thenP x.1 (putP x.1 n) = (unitX n).1
    apply ext_getD (d := 0)
    · rw [thenP_len, l1]
      exact List.length_range.symm
    · intro y hy
      rw [thenP_len, l1] at hy
      obtain ⟨i, hi, rfl⟩ := hx.surj hy
      rw [thenP_getD (by rw [l1]; exact hy), putP_at hx n (Nat.le_refl _) i hi, (unit_at hy).1]
  · show thenS q x.2 (putP x.1 n) (putS id x.1 x.2 n) = (unitX n).2
    apply ext_getD (d := 0)
    · rw [thenS_len, l1]
      exact (List.length_replicate ..).symm
    · intro y hy
      rw [thenS_len, l1] at hy
      obtain ⟨i, hi, rfl⟩ := hx.surj hy
      rw [thenS_getD (by rw [l1]; exact hy), putP_at hx n (Nat.le_refl _) i hi, putS_at id hx n (Nat.le_refl _) i hi, (unit_at hy).2]
      exact sg_sq hx.q0 hx.q1 (hx.sg hi)
theorem back_then {q : Int} {n : Nat} {x : XX} (hx : IsX q n x.1 x.2) : thenX q (backX n x) x = unitX n := by
  have hb : IsX q n (backX n x).1 (backX n x).2 := hx.back
  have := then_back hb
  rw [back_back hx] at this
  exact this
end K31

namespace K31
open PySem PySem.Spec PyProof.Rows L2 Evl Own
/-! ### signs: circles and pairs -/
def cnt (p : Nat → Bool) (m : Nat) : Nat := (List.range m).countP p
theorem cnt_succ (p : Nat → Bool) (m : Nat) : cnt p (m + 1) = cnt p m + (if p m = true then 1 else 0) := by
  unfold cnt
  rw [List.range_succ, List.countP_append, List.countP_singleton]
theorem cnt_congr {p p' : Nat → Bool} : ∀ {m : Nat}, (∀ k, k < m → p k = p' k) → cnt p m = cnt p' m
  | 0, _ => rfl
  | m + 1, h => by rw [cnt_succ, cnt_succ, cnt_congr fun k hk => h k (by omega), h m (by omega)]
theorem cnt_upd {p p' : Nat → Bool} {a : Nat} (h : ∀ k, k ≠ a → p k = p' k) : ∀ {m : Nat}, a < m → cnt p m + (if p' a = true then 1 else 0) = cnt p' m + (if p a = true then 1 else 0)
  | m + 1, hm => by
    rw [cnt_succ, cnt_succ]
    by_cases e : a = m
    · subst e
      rw [cnt_congr (p := p) (p' := p') fun k hk => h k (by omega)]
      omega
    · have := cnt_upd h (show a < m by omega)
      rw [h m (fun c => e c.symm)]
      omega
def invF (f : Nat → Nat) : Nat → Nat
  | 0 => 0
  | m + 1 => invF f m + cnt (fun k => decide (f m < f k)) m
def itF (f : Nat → Nat) : Nat → Nat → Nat
  | 0, x => x
  | k + 1, x => f (itF f k x)
def RF (f : Nat → Nat) (m x : Nat) : Prop := ∃ s, s < m ∧ ∃ k, itF f k s = x
open Classical in
noncomputable def cycF (f : Nat → Nat) (m : Nat) : Nat := cnt (fun x => !decide (RF f x x)) m
structure Bij (f : Nat → Nat) (n : Nat) : Prop where
  lt : ∀ x, x < n → f x < n
  inj : ∀ x y, x < n → y < n → f x = f y → x = y
  sur : ∀ y, y < n → ∃ x, x < n ∧ f x = y
/-- one left out -/
def skip (f : Nat → Nat) (a b x : Nat) : Nat := if x = a then b else f x
theorem inv_skip {f : Nat → Nat} {n a b : Nat} (ha : a < n) (fa : f a = n) (hl : ∀ x, x < n → f x ≤ n) (h2 : ∀ x, x < n → x ≠ a → f x < n) (hb : b < n) (nb : ∀ x, x < n → f x ≠ b) : ∀ m, m ≤ n → (m ≤ a → invF f m = invF (skip f a b) m) ∧
    (a < m → invF f m + cnt (fun k => decide (b < f k)) m = invF (skip f a b) m + 1 + 2 * cnt (fun k => decide (a < k ∧ b < f k)) m)
  | 0, _ => ⟨fun _ => rfl, fun h => by omega⟩
  | m + 1, hm => by
    obtain ⟨i1, i2⟩ := inv_skip ha fa hl h2 hb nb m (by omega)
    have lo : m < a → cnt (fun k => decide (f m < f k)) m = cnt (fun k => decide (skip f a b m < skip f a b k)) m := fun h => cnt_congr fun k hk => by
      unfold skip
      rw [if_neg (by omega), if_neg (by omega)]
    refine ⟨fun h => ?_, fun h => ?_⟩
    · show invF f m + _ = invF (skip f a b) m + _
      rw [i1 (by omega), lo (by omega)]
    · show invF f m + cnt (fun k => decide (f m < f k)) m + cnt (fun k => decide (b < f k)) (m + 1) = invF (skip f a b) m + cnt (fun k => decide (skip f a b m < skip f a b k)) m + 1 + 2 * cnt (fun k => decide (a < k ∧ b < f k)) (m + 1)
      rw [cnt_succ (fun k => decide (b < f k)), cnt_succ (fun k => decide (a < k ∧ b < f k))]
      by_cases e : m = a
      · subst e
        have c1 : cnt (fun k => decide (f m < f k)) m = 0 := by
          have : cnt (fun k => decide (f m < f k)) m = cnt (fun _ => false) m := cnt_congr fun k hk => decide_eq_false (by have := hl k (by omega); omega)
          rw [this]
          unfold cnt
          rw [List.countP_false]
          rfl
        have c2 : cnt (fun k => decide (skip f m b m < skip f m b k)) m = cnt (fun k => decide (b < f k)) m := cnt_congr fun k hk => by
          unfold skip
          rw [if_pos rfl, if_neg (by omega)]
        have c3 : cnt (fun k => decide (m < k ∧ b < f k)) m = 0 := by
          have : cnt (fun k => decide (m < k ∧ b < f k)) m = cnt (fun _ => false) m := cnt_congr fun k hk => decide_eq_false (by omega)
          rw [this]
          unfold cnt
          rw [List.countP_false]
          rfl
        have d1 : (decide (b < f m)) = true := decide_eq_true (by omega)
        have d2 : (decide (m < m ∧ b < f m)) = false := decide_eq_false (by omega)
        rw [c1, c2, c3, i1 (by omega), d1, d2]
        simp
        omega
      · have am : a < m := by omega
        have i2' := i2 am
        have sm : skip f a b m = f m := if_neg e
        have u := cnt_upd (p := fun k => decide (f m < f k)) (p' := fun k => decide (skip f a b m < skip f a b k)) (a := a) (fun k hk => by
          show decide (f m < f k) = decide (skip f a b m < skip f a b k)
          rw [sm]
          unfold skip
          rw [if_neg hk]) am
        have fm := h2 m (by omega) e
        have nbm := nb m (by omega)
        have g1 : decide (f m < f a) = true := decide_eq_true (by omega)
        have g2 : decide (skip f a b m < skip f a b a) = decide (f m < b) := by
          rw [sm]
          unfold skip
          rw [if_pos rfl]
        rw [if_pos g1, g2] at u
        by_cases c : b < f m
        · rw [decide_eq_false (show ¬ f m < b by omega), if_neg (by decide)] at u
          rw [decide_eq_true c, decide_eq_true (show a < m ∧ b < f m from ⟨am, c⟩), if_pos rfl]
          omega
        · rw [decide_eq_true (show f m < b by omega), if_pos rfl] at u
          rw [decide_eq_false c, decide_eq_false (show ¬ (a < m ∧ b < f m) from fun h => c h.2), if_neg (by decide)]
          omega
theorem RF_step {f : Nat → Nat} {m x : Nat} (h : RF f m x) : RF f m (f x) := by
  obtain ⟨s, hs, k, rfl⟩ := h
  exact ⟨s, hs, k + 1, rfl⟩
/-- what is come to, with one left out -/
theorem RF_skip {f : Nat → Nat} {n a b m x : Nat} (ha : a < n) (fa : f a = n) (fn : f n = b) (h2 : ∀ x, x < n → x ≠ a → f x < n) (hb : b < n) (hm : m ≤ n) (hx : x < n) : RF f m x ↔ RF (skip f a b) m x := by
  constructor
  · rintro ⟨s, hs, k, rfl⟩
    have key : ∀ k, (itF f k s < n → RF (skip f a b) m (itF f k s)) ∧ (¬ itF f k s < n → itF f k s = n ∧ RF (skip f a b) m b) := fun k => by
      induction k with
      | zero => exact ⟨fun _ => ⟨s, hs, 0, rfl⟩, fun h => (h (by show s < n; omega)).elim⟩
      | succ k ih =>
        show (f (itF f k s) < n → RF _ m (f (itF f k s))) ∧ (¬ f (itF f k s) < n → f (itF f k s) = n ∧ _)
        by_cases c : itF f k s < n
        · have r := ih.1 c
          generalize itF f k s = y at c r
          by_cases e : y = a
          · subst e
            have := RF_step r
            unfold skip at this
            rw [if_pos rfl] at this
            exact ⟨fun h => by omega, fun _ => ⟨fa, this⟩⟩
          · have := RF_step r
            have sy : skip f a b y = f y := if_neg e
            rw [sy] at this
            exact ⟨fun _ => this, fun h => (h (h2 y c e)).elim⟩
        · obtain ⟨e, r⟩ := ih.2 c
          rw [e, fn]
          exact ⟨fun _ => r, fun h => (h hb).elim⟩
    exact (key k).1 hx
  · rintro ⟨s, hs, k, rfl⟩
    have key : ∀ k, itF (skip f a b) k s < n ∧ RF f m (itF (skip f a b) k s) := fun k => by
      induction k with
      | zero => exact ⟨by show s < n; omega, ⟨s, hs, 0, rfl⟩⟩
      | succ k ih =>
        obtain ⟨c, r⟩ := ih
        show skip f a b (itF (skip f a b) k s) < n ∧ RF f m (skip f a b (itF (skip f a b) k s))
        generalize itF (skip f a b) k s = y at c r
        by_cases e : y = a
        · subst e
          have : skip f y b y = b := if_pos rfl
          rw [this]
          have r2 := RF_step (RF_step r)
          rw [fa, fn] at r2
          exact ⟨hb, r2⟩
        · have sy : skip f a b y = f y := if_neg e
          rw [sy]
          exact ⟨h2 y c e, RF_step r⟩
    exact (key k).2
theorem inv_eq (ps : List Nat) : ∀ m, inv ps m = invF (fun i => ps.getD i 0) m
  | 0 => rfl
  | m + 1 => by
    show inv ps m + _ = invF _ m + _
    rw [inv_eq ps m]
    rfl
theorem it_eq (ps : List Nat) (k s : Nat) : it ps k s = itF (fun i => ps.getD i 0) k s := by
  induction k with
  | zero => rfl
  | succ k ih =>
    show ps.getD (it ps k s) 0 = _
    rw [ih]
    rfl
theorem cyc_eq (ps : List Nat) (m : Nat) : cycN ps m = cycF (fun i => ps.getD i 0) m := by
  unfold cycN cycF cnt
  congr 1
  funext x
  congr 1
  apply decide_eq_decide.mpr
  unfold Rch RF
  constructor
  · rintro ⟨s, hs, k, e⟩
    exact ⟨s, hs, k, by rw [← it_eq]; exact e⟩
  · rintro ⟨s, hs, k, e⟩
    exact ⟨s, hs, k, by rw [it_eq]; exact e⟩
theorem cycF_succ (f : Nat → Nat) (m : Nat) [Decidable (RF f m m)] : cycF f (m + 1) = cycF f m + (if RF f m m then 0 else 1) := by
  unfold cycF
  rw [cnt_succ]
  by_cases c : RF f m m
  · simp [c]
  · simp [c]
/-- circles and pairs -/
theorem parity : ∀ (n : Nat) (f : Nat → Nat), Bij f n → (n + cycF f n + invF f n) % 2 = 0
  | 0, _, _ => rfl
  | n + 1, f, h => by
    classical
    rw [cycF_succ]
    show (n + 1 + (cycF f n + _) + (invF f n + cnt (fun k => decide (f n < f k)) n)) % 2 = 0
    by_cases e : f n = n
    · have lt : ∀ x, x < n → f x < n := fun x hx => by
        have h1 := h.lt x (by omega)
        by_cases c : f x = n
        · have := h.inj x n (by omega) (by omega) (by omega)
          omega
        · omega
      have hb : Bij f n := ⟨lt, fun x y hx hy => h.inj x y (by omega) (by omega), fun y hy => by
        obtain ⟨x, hx, ex⟩ := h.sur y (by omega)
        refine ⟨x, ?_, ex⟩
        by_cases c : x = n
        · subst c
          omega
        · omega⟩
      have ih := parity n f hb
      have nr : ¬ RF f n n := by
        rintro ⟨s, hs, k, ek⟩
        have : itF f k s < n := by
          clear ek
          induction k with
          | zero => exact hs
          | succ k ih => exact lt _ ih
        omega
      have c0 : cnt (fun k => decide (f n < f k)) n = 0 := by
        have : cnt (fun k => decide (f n < f k)) n = cnt (fun _ => false) n := cnt_congr fun k hk => decide_eq_false (by have := lt k hk; omega)
        rw [this]
        unfold cnt
        rw [List.countP_false]
        rfl
      rw [if_neg nr, c0]
      omega
    · obtain ⟨a, ha', fa⟩ := h.sur n (by omega)
      have ha : a < n := by
        by_cases c : a = n
        · subst c
          exact (e fa).elim
        · omega
      have hb : f n < n := by have := h.lt n (by omega); omega
      have h2 : ∀ x, x < n → x ≠ a → f x < n := fun x hx hxa => by
        have h1 := h.lt x (by omega)
        by_cases c : f x = n
        · have := h.inj x a (by omega) (by omega) (by omega)
          omega
        · omega
      have nb : ∀ x, x < n → f x ≠ f n := fun x hx c => by
        have := h.inj x n (by omega) (by omega) c
        omega
      have sa : skip f a (f n) a = f n := if_pos rfl
      have sx : ∀ x, x ≠ a → skip f a (f n) x = f x := fun x hx => if_neg hx
      have hq : Bij (skip f a (f n)) n := by
        refine ⟨fun x hx => ?_, fun x y hx hy he => ?_, fun y hy => ?_⟩
        · by_cases c : x = a
          · rw [c, sa]; exact hb
          · rw [sx x c]; exact h2 x hx c
        · by_cases c : x = a
          · by_cases d : y = a
            · omega
            · rw [c, sa, sx y d] at he
              exact (nb y hy he.symm).elim
          · by_cases d : y = a
            · rw [d, sa, sx x c] at he
              exact (nb x hx he).elim
            · rw [sx x c, sx y d] at he
              exact h.inj x y (by omega) (by omega) he
        · obtain ⟨x, hx, ex⟩ := h.sur y (by omega)
          by_cases c : x = n
          · subst c
            exact ⟨a, ha, by rw [sa]; exact ex⟩
          · have : x ≠ a := fun d => by
              rw [d, fa] at ex
              omega
            exact ⟨x, by omega, by rw [sx x this]; exact ex⟩
      have ih := parity n _ hq
      have rn : RF f n n := ⟨a, ha, 1, fa⟩
      have iv := (inv_skip ha fa (fun x hx => by have := h.lt x (by omega); omega) h2 hb nb n (Nat.le_refl _)).2 ha
      have cy : cycF f n = cycF (skip f a (f n)) n := cnt_congr fun x hx => by
        congr 1
        exact decide_eq_decide.mpr (RF_skip ha fa rfl h2 hb (by omega) hx)
      rw [if_pos rn, cy]
      omega
theorem IsX.bij {q : Int} {n : Nat} {ps : List Nat} {ss : List Int} (x : IsX q n ps ss) : Bij (fun i => ps.getD i 0) n := ⟨fun i hi => x.at_ hi, fun i j hi hj h => x.inj hi hj h, fun y hy => x.surj hy⟩
theorem twos_two {n : Nat} {ps : List Nat} {ss : List Int} (x : IsX 2 n ps ss) : twos ss = 0 := by
  unfold twos
  rw [List.countP_eq_zero]
  intro s hs
  have := x.sin s hs
  simp
  omega
theorem sgn_eq {q : Int} {n : Nat} {x : XX} (hx : IsX q n x.1 x.2) : sgnX q x.1 x.2 = lsgn x.1 x.2 := by
  have p := parity n _ hx.bij
  rw [← inv_eq, ← cyc_eq] at p
  unfold sgnX lsgn
  rw [hx.pn]
  have tw : (if q = 3 then ((x.2.countP fun s => decide (s = 2) : Nat) : Int) else 0) = (twos x.2 : Int) := by
    by_cases c : q = 3
    · rw [if_pos c]
      rfl
    · have : q = 2 := by have := hx.q0; have := hx.q1; omega
      subst this
      rw [if_neg c, twos_two hx]
      rfl
  rw [tw]
  by_cases c : ((twos x.2 + inv x.1 n : Nat) : Int) % 2 = 0
  · rw [if_pos c, if_pos (by omega)]
  · rw [if_neg c, if_neg (by omega)]
/-! ### one behind another -/
def sumN (h : Nat → Nat) (n : Nat) : Nat := ((List.range n).map h).sum
theorem sumN_succ (h : Nat → Nat) (n : Nat) : sumN h (n + 1) = sumN h n + h n := by
  unfold sumN
  rw [List.range_succ, List.map_append, List.sum_append]
  simp
theorem sumN_congr {h h' : Nat → Nat} : ∀ {n : Nat}, (∀ k, k < n → h k = h' k) → sumN h n = sumN h' n
  | 0, _ => rfl
  | n + 1, e => by rw [sumN_succ, sumN_succ, sumN_congr fun k hk => e k (by omega), e n (by omega)]
theorem sumN_add (h h' : Nat → Nat) : ∀ n : Nat, sumN (fun k => h k + h' k) n = sumN h n + sumN h' n
  | 0 => rfl
  | n + 1 => by
    rw [sumN_succ, sumN_succ, sumN_succ, sumN_add h h' n]
    omega
theorem sumN_even {h : Nat → Nat} : ∀ {n : Nat}, (∀ k, k < n → h k % 2 = 0) → sumN h n % 2 = 0
  | 0, _ => rfl
  | n + 1, e => by
    rw [sumN_succ]
    have := sumN_even (h := h) (n := n) fun k hk => e k (by omega)
    have := e n (by omega)
    omega
theorem cnt_sum (p : Nat → Bool) : ∀ n, cnt p n = sumN (fun k => if p k = true then 1 else 0) n
  | 0 => rfl
  | n + 1 => by rw [cnt_succ, sumN_succ, cnt_sum p n]
theorem dbl {G : Nat → Nat → Nat} (sy : ∀ i j, G i j = G j i) (dg : ∀ i, G i i = 0) : ∀ n, sumN (fun j => sumN (fun i => G i j) n) n = 2 * sumN (fun j => sumN (fun i => G i j) j) n
  | 0 => rfl
  | n + 1 => by
    rw [sumN_succ, sumN_succ, sumN_succ, dg, sumN_congr (h := fun j => sumN (fun i => G i j) (n + 1)) (h' := fun j => sumN (fun i => G i j) n + G n j) fun j _ => sumN_succ _ _, sumN_add, dbl sy dg n,
      sumN_congr (h := fun j => G n j) (h' := fun j => G j n) fun j _ => sy n j]
    omega
theorem sum_perm {l l' : List Nat} (h : l.Perm l') : l.sum = l'.sum := by
  induction h with
  | nil => rfl
  | cons x _ ih => rw [List.sum_cons, List.sum_cons, ih]
  | swap x y l =>
    rw [List.sum_cons, List.sum_cons, List.sum_cons, List.sum_cons]
    omega
  | trans _ _ h1 h2 => rw [h1, h2]
theorem reidx {ps : List Nat} {n : Nat} (pm : ps.Perm (List.range n)) (h : Nat → Nat) : sumN (fun j => h (ps.getD j 0)) n = sumN h n := by
  have pl : ps.length = n := by rw [pm.length_eq, List.length_range]
  have e : (List.range n).map (fun j => h (ps.getD j 0)) = ps.map h := by
    have := range_map (0 : Nat) h ps
    rw [pl] at this
    exact this
  unfold sumN
  rw [e]
  exact sum_perm (pm.map h)
def dis (f : Nat → Nat) (i j : Nat) : Nat := if f j < f i then 1 else 0
theorem inv_sum (f : Nat → Nat) : ∀ n, invF f n = sumN (fun j => sumN (fun i => dis f i j) j) n
  | 0 => rfl
  | n + 1 => by
    rw [sumN_succ, ← inv_sum f n]
    show invF f n + cnt _ n = _
    rw [cnt_sum]
    congr 1
    refine sumN_congr fun k _ => ?_
    unfold dis
    by_cases c : f n < f k <;> simp [c]
def bad (f : Nat → Nat) (x y : Nat) : Nat := if (x < y ∧ f y < f x) ∨ (y < x ∧ f x < f y) then 1 else 0
theorem bad_even (f : Nat → Nat) (u v : Nat) (ne : u ≠ v) (nf : f u ≠ f v) : ((if f v < f u then 1 else 0) + (if v < u then 1 else 0) + bad f u v) % 2 = 0 := by
  unfold bad
  by_cases c1 : f v < f u
  · by_cases c2 : v < u
    · rw [if_pos c1, if_pos c2, if_neg (by omega)]
    · rw [if_pos c1, if_neg c2, if_pos (by omega)]
  · by_cases c2 : v < u
    · rw [if_neg c1, if_pos c2, if_pos (by omega)]
    · rw [if_neg c1, if_neg c2, if_neg (by omega)]
theorem inv_comp {f : Nat → Nat} {ps : List Nat} {n : Nat} (hf : Bij f n) (pm : ps.Perm (List.range n)) (hg : Bij (fun i => ps.getD i 0) n) : (invF (fun i => f (ps.getD i 0)) n + invF (fun i => ps.getD i 0) n + invF f n) % 2 = 0 := by
  have sy : ∀ i j, bad f i j = bad f j i := fun i j => by
    unfold bad
    by_cases c : (i < j ∧ f j < f i) ∨ (j < i ∧ f i < f j)
    · rw [if_pos c, if_pos (by rcases c with c | c; exact .inr c; exact .inl c)]
    · rw [if_neg c, if_neg (by rintro (d | d); exact c (.inr d); exact c (.inl d))]
  have dg : ∀ i, bad f i i = 0 := fun i => if_neg (by omega)
  have A : sumN (fun j => sumN (fun i => bad f (ps.getD i 0) (ps.getD j 0)) j) n = sumN (fun j => sumN (fun i => bad f i j) j) n := by
    have d1 := dbl (G := fun i j => bad f (ps.getD i 0) (ps.getD j 0)) (fun i j => sy _ _) (fun i => dg _) n
    have d2 := dbl (G := bad f) sy dg n
    have e1 : sumN (fun j => sumN (fun i => bad f (ps.getD i 0) (ps.getD j 0)) n) n = sumN (fun j => sumN (fun i => bad f i j) n) n := by
      rw [sumN_congr (h := fun j => sumN (fun i => bad f (ps.getD i 0) (ps.getD j 0)) n) (h' := fun j => sumN (fun i => bad f i (ps.getD j 0)) n) fun j _ => reidx pm fun x => bad f x (ps.getD j 0)]
      exact reidx pm fun y => sumN (fun i => bad f i y) n
    rw [e1, d2] at d1
    omega
  have B : sumN (fun j => sumN (fun i => bad f i j) j) n = invF f n := by
    rw [inv_sum]
    refine sumN_congr fun j _ => sumN_congr fun i hi => ?_
    unfold bad dis
    by_cases c : f j < f i
    · rw [if_pos c, if_pos (.inl ⟨hi, c⟩)]
    · rw [if_neg c, if_neg (by omega)]
  rw [← B, ← A, inv_sum, inv_sum, ← sumN_add, ← sumN_add]
  refine sumN_even fun j hj => ?_
  rw [← sumN_add, ← sumN_add]
  refine sumN_even fun i hi => ?_
  have gi := hg.lt i (by omega)
  have gj := hg.lt j hj
  have ne : ps.getD i 0 ≠ ps.getD j 0 := fun e => by
    have := hg.inj i j (by omega) hj e
    omega
  have nf : f (ps.getD i 0) ≠ f (ps.getD j 0) := fun e => ne (hf.inj _ _ gi gj e)
  exact bad_even f _ _ ne nf
theorem invF_congr {f f' : Nat → Nat} : ∀ {n : Nat}, (∀ i, i < n → f i = f' i) → invF f n = invF f' n
  | 0, _ => rfl
  | n + 1, h => by
    show invF f n + _ = invF f' n + _
    rw [invF_congr fun i hi => h i (by omega), cnt_congr fun k hk => by rw [h n (by omega), h k (by omega)]]
theorem twos_sumN (ss : List Int) : twos ss = sumN (fun i => if ss.getD i 0 = 2 then 1 else 0) ss.length := by
  have e : (List.range ss.length).map (fun i => if ss.getD i 0 = 2 then 1 else 0) = ss.map fun s => if s = 2 then 1 else 0 := range_map (0 : Int) (fun s => if s = 2 then 1 else 0) ss
  unfold sumN
  rw [e]
  unfold twos
  clear e
  induction ss with
  | nil => rfl
  | cons s r ih =>
    rw [List.countP_cons, List.map_cons, List.sum_cons, ih]
    by_cases c : s = 2
    · simp [c]
      omega
    · simp [c]
theorem sg_two {q s t : Int} (q0 : 2 ≤ q) (q1 : q ≤ 3) (hs : 1 ≤ s ∧ s < q) (ht : 1 ≤ t ∧ t < q) : ((if s * t % q = 2 then 1 else 0) + (if s = 2 then 1 else 0) + (if t = 2 then 1 else 0) : Nat) % 2 = 0 := by
  have : q = 2 ∨ q = 3 := by omega
  rcases this with rfl | rfl
  · have e1 : s = 1 := by omega
    have e2 : t = 1 := by omega
    subst e1 e2
    decide
  · have e1 : s = 1 ∨ s = 2 := by omega
    have e2 : t = 1 ∨ t = 2 := by omega
    rcases e1 with rfl | rfl <;> rcases e2 with rfl | rfl <;> decide
theorem lsgn_then {q : Int} {n : Nat} {x y : XX} (hx : IsX q n x.1 x.2) (hy : IsX q n y.1 y.2) : lsgn (thenX q x y).1 (thenX q x y).2 = lsgn x.1 x.2 * lsgn y.1 y.2 := by
  have hz := hx.then_ hy
  have i1 : (inv (thenX q x y).1 n + inv y.1 n + inv x.1 n) % 2 = 0 := by
    have := inv_comp hx.bij hy.pm hy.bij
    rw [inv_eq, inv_eq, inv_eq, invF_congr (f := fun i => (thenX q x y).1.getD i 0) (f' := fun i => x.1.getD (y.1.getD i 0) 0) fun i hi => thenP_getD (by rw [hy.pn]; exact hi)]
    exact this
  have i2 : (twos (thenX q x y).2 + twos x.2 + twos y.2) % 2 = 0 := by
    have l2 : (thenX q x y).2.length = n := hz.sn
    rw [twos_sumN, twos_sumN x.2, twos_sumN y.2, l2, hx.sn, hy.sn, ← reidx hy.pm (fun i => if x.2.getD i 0 = 2 then 1 else 0), ← sumN_add, ← sumN_add]
    refine sumN_even fun i hi => ?_
    have e : (thenX q x y).2.getD i 0 = x.2.getD (y.1.getD i 0) 0 * y.2.getD i 0 % q := thenS_getD (by rw [hy.pn]; exact hi)
    rw [e]
    exact sg_two hx.q0 hx.q1 (hx.sg (hy.at_ hi)) (hy.sg hi)
  have pz : (thenX q x y).1.length = n := hz.pn
  unfold lsgn
  rw [pz, hx.pn, hy.pn]
  by_cases a : ((twos x.2 + inv x.1 n : Nat) : Int) % 2 = 0
  · by_cases b : ((twos y.2 + inv y.1 n : Nat) : Int) % 2 = 0
    · rw [if_pos a, if_pos b, if_pos (by omega)]
      rfl
    · rw [if_pos a, if_neg b, if_neg (by omega)]
      rfl
  · by_cases b : ((twos y.2 + inv y.1 n : Nat) : Int) % 2 = 0
    · rw [if_neg a, if_pos b, if_neg (by omega)]
      rfl
    · rw [if_neg a, if_neg b, if_pos (by omega)]
      rfl
end K31

namespace K31
open PySem PySem.Spec PyProof.Rows L2 Evl Own
theorem kb_exchanged_row_row_exchange_letters {K : PySem.W.Frag} {f : Addr} {fd : FuncData} (F : FnP K "exchanged_row" s_exchanged_row f fd) : KBinds K fd ["letters", "exchange", "row"] ["row", "exchange", "letters"] (pick 3 [2, 1, 0]) (pick 3 [2, 1, 0]) := kb_of 3 [2, 1, 0] F (by decide) (fun kV doc pm an cdv ct ws hw => match ws, hw with | [w0, w1, w2], _ => rfl)
theorem kb_sign_of_exchange_letters {K : PySem.W.Frag} {f : Addr} {fd : FuncData} (F : FnP K "sign_of" s_sign_of f fd) : KBinds K fd ["letters", "exchange"] ["exchange", "letters"] (pick 2 [1, 0]) (pick 2 [1, 0]) := kb_of 2 [1, 0] F (by decide) (fun kV doc pm an cdv ct ws hw => match ws, hw with | [w0, w1], _ => rfl)
theorem kb_behind_second_first_letters {K : PySem.W.Frag} {f : Addr} {fd : FuncData} (F : FnP K "behind" s_behind f fd) : KBinds K fd ["letters", "first", "second"] ["second", "first", "letters"] (pick 3 [2, 1, 0]) (pick 3 [2, 1, 0]) := kb_of 3 [2, 1, 0] F (by decide) (fun kV doc pm an cdv ct ws hw => match ws, hw with | [w0, w1, w2], _ => rfl)
theorem kb_back_exchange_letters {K : PySem.W.Frag} {f : Addr} {fd : FuncData} (F : FnP K "back" s_back f fd) : KBinds K fd ["letters", "exchange"] ["exchange", "letters"] (pick 2 [1, 0]) (pick 2 [1, 0]) := kb_of 2 [1, 0] F (by decide) (fun kV doc pm an cdv ct ws hw => match ws, hw with | [w0, w1], _ => rfl)
def spRows (K : PySem.W.Frag) : Sp := fun vs H Q _ => ∃ (a l : Addr) (R : Hp) (q : Int) (n : Nat) (p : Addr) (es : List Addr) (xs : List XX), vs = [.ref a, .int q, .int n, .ref p] ∧ Wl 1 a l R H ∧ SqL K R p (es.map V.ref) ∧ LstX K R q n es xs ∧ 2 ≤ q ∧ q ≤ 3 ∧ n ≤ 1000 ∧ ∀ H', Wl 1 a l R H' → Q (.bl true) H'
def spBacks (K : PySem.W.Frag) : Sp := fun vs H Q _ => ∃ (q : Int) (n : Nat) (e : Addr) (x : XX), vs = [.int q, .int n, .ref e] ∧ TpX K H e x.1 x.2 ∧ IsX q n x.1 x.2 ∧ ∀ H', Ex H H' → Q (.bl true) H'
section
variable {P : Program} {w : World} {K : PySem.W.Frag} {mg : Str → Option Value} {base : Heap} {f : Addr} {fd : FuncData}
theorem ok__law_backs (F : FnP K "_law_backs" s__law_backs f fd) (Z : Zs mg) (G_unit_exchange : Fn P w K mg base CX0 1 "unit_exchange" s_unit_exchange ["length"] (spUnitX K)) (G_behind : Fn P w K mg base CX0 1 "behind" s_behind ["letters", "first", "second"] (spBehind K)) (G_back : Fn P w K mg base CX0 1 "back" s_back ["letters", "exchange"] (spBack K))
    (G__law_undone : Fn P w K mg base CX0 1 "_law_undone" s__law_undone ["exchange"] (spUndone K)) (G__law_still : Fn P w K mg base CX0 1 "_law_still" s__law_still ["length"] (spUnitX K)) (G__law_same : Fn P w K mg base CX0 5 "_law_same" s__law_same ["found", "due"] (spSame K 3)) : FnOk P w K mg base CX0 6 f fd ["letters", "length", "one"] (spBacks K) := by
  refine F.ok sc__law_backs (fun vs H Q E h => ?_) (fun cdv A outer s H vs Q E hr h => ⟨_, PSs.nox (pss_cons (ps_par (i := 3) (j := 4) rfl sc__law_backs.nd rfl rfl (by decide) rfl rfl (pa_cons (pe_callF G__law_undone (hr.mono (by decide)) rfl pass0 (pa_cons (pv 2) pa_nil)) (pa_cons (pe_callF G__law_still (hr.mono (by decide)) rfl pass0 (pa_cons (pv 1) pa_nil)) pa_nil)) (by rfl))
  (pss_cons (ps_if (PW.pt (pw_or (pt_not (pt_val (pe_callF G__law_same (hr.mono (by decide)) rfl pass0 (pa_cons (pe_callF G_back (hr.mono (by decide)) rfl pass0 (pa_cons (pv 0) (pa_cons (pv 2) pa_nil))) (pa_cons (pv 3) pa_nil))))) (pw_or1 (pt_not (pt_val (pe_callF G__law_same (hr.mono (by decide)) rfl pass0 (pa_cons (pe_call0KF G_back (hr.mono (by decide)) kb_back_exchange_letters pass0 (pk_cons (pv 3) (pk_cons (pv 0) pk_nil))) (pa_cons (pv 2) pa_nil)))))))) (pss_one (ps_ret pe_bl)) pss_nil)
  (pss_cons (ps_if (PW.pt (pw_or (pt_not (pt_val (pe_callF G__law_same (hr.mono (by decide)) rfl pass0 (pa_cons (pe_callF G_behind (hr.mono (by decide)) rfl pass0 (pa_cons (pv 0) (pa_cons (pv 2) (pa_cons (pv 3) pa_nil)))) (pa_cons (pv 4) pa_nil))))) (pw_or1 (pt_not (pt_val (pe_callF G__law_same (hr.mono (by decide)) rfl pass0 (pa_cons (pe_callF G_behind (hr.mono (by decide)) rfl pass0 (pa_cons (pv 0) (pa_cons (pv 3) (pa_cons (pv 2) pa_nil)))) (pa_cons (pv 4) pa_nil)))))))) (pss_one (ps_ret pe_bl)) pss_nil)
  (pss_cons (ps_if (PW.pt (pw_or (pt_not (pt_val (pe_callF G__law_same (hr.mono (by decide)) rfl pass0 (pa_cons (pe_callF G_unit_exchange (hr.mono (by decide)) rfl pass0 (pa_cons (pv 1) pa_nil)) (pa_cons (pv 4) pa_nil))))) (pw_or1 (pt_not (pt_val (pe_callF G__law_same (hr.mono (by decide)) rfl pass0 (pa_cons (pe_callF G_behind (hr.mono (by decide)) rfl pass0 (pa_cons (pv 0) (pa_cons (pv 4) (pa_cons (pv 2) pa_nil)))) (pa_cons (pv 2) pa_nil)))))))) (pss_one (ps_ret pe_bl)) pss_nil)
  (pss_one (ps_ret (pe_callF G__law_same (hr.mono (by decide)) rfl pass0 (pa_cons (pe_callF G_behind (hr.mono (by decide)) rfl pass0 (pa_cons (pv 0) (pa_cons (pv 2) (pa_cons (pv 4) pa_nil)))) (pa_cons (pv 2) pa_nil))))))))), ?_⟩)
  · obtain ⟨q, n, e, x, rfl, _⟩ := h
    rfl
  · obtain ⟨q, n, e, x, rfl, t, hx, k⟩ := h
    have few := hx.few
    have hb : IsX q n (backX n x).1 (backX n x).2 := hx.back
    have hu : IsX q n (unitX n).1 (unitX n).2 := IsX.unit few hx.q0 hx.q1
    have lp : ∀ {z : XX}, IsX q n z.1 z.2 → z.1.length ≤ 1000 ∧ z.2.length ≤ 1000 := fun h => ⟨by rw [h.pn]; exact few, by rw [h.sn]; exact few⟩
    refine ⟨_, rfl, q, n, e, _, _, rfl, t, hx, fun d H1 e1 td => ⟨_, rfl, n, rfl, few, fun u H2 e2 tu => ⟨_, _, rfl, ?_⟩⟩⟩
    have t2 := t.ex (e1.trans e2)
    have td2 : TpX K H2 d (backX n x).1 (backX n x).2 := td.ex e2
    have tu2 : TpX K H2 u (unitX n).1 (unitX n).2 := tu
    have e02 := e1.trans e2
    -- back
    refine ⟨_, rfl, _, rfl, q, n, e, _, _, rfl, t2, hx, fun p3 H3 e3 h3 => ?_⟩
    rw [putS_mod hx] at h3
    refine ⟨_, rfl, _, _, rfl, .pair h3 (td2.ex e3) (lp hb).1 (lp hb).2 1, fun H4 e4 => ⟨_, rfl, iteF ?_⟩⟩
    have e34 := e3.trans e4
    refine ⟨_, rfl, _, rfl, q, n, d, _, _, rfl, td2.ex e34, hb, fun p5 H5 e5 h5 => ?_⟩
    rw [putS_mod hb] at h5
    have h5' : TpX K H5 p5 (backX n (backX n x)).1 (backX n (backX n x)).2 := h5
    rw [back_back hx] at h5'
    refine ⟨_, rfl, _, _, rfl, .pair h5' (t2.ex (e34.trans e5)) (lp hx).1 (lp hx).2 1, fun H6 e6 => ⟨_, rfl, iteF ?_⟩⟩
    have e26 := e34.trans (e5.trans e6)
    -- behind, to still
    refine ⟨_, rfl, _, rfl, _, rfl, q, n, e, d, _, _, _, _, rfl, t2.ex e26, hx, td2.ex e26, hb, fun p7 H7 e7 h7 => ?_⟩
    have h7' : TpX K H7 p7 (thenX q x (backX n x)).1 (thenX q x (backX n x)).2 := h7
    rw [then_back hx] at h7'
    refine ⟨_, rfl, _, _, rfl, .pair h7' (tu2.ex (e26.trans e7)) (lp hu).1 (lp hu).2 1, fun H8 e8 => ⟨_, rfl, iteF ?_⟩⟩
    have e28 := e26.trans (e7.trans e8)
    refine ⟨_, rfl, _, rfl, _, rfl, q, n, d, e, _, _, _, _, rfl, td2.ex e28, hb, t2.ex e28, hx, fun p9 H9 e9 h9 => ?_⟩
    have h9' : TpX K H9 p9 (thenX q (backX n x) x).1 (thenX q (backX n x) x).2 := h9
    rw [back_then hx] at h9'
    refine ⟨_, rfl, _, _, rfl, .pair h9' (tu2.ex (e28.trans e9)) (lp hu).1 (lp hu).2 1, fun H10 e10 => ⟨_, rfl, iteF ?_⟩⟩
    have e210 := e28.trans (e9.trans e10)
    -- unit
    refine ⟨_, rfl, n, rfl, few, fun p11 H11 e11 h11 => ?_⟩
    have h11' : TpX K H11 p11 (unitX n).1 (unitX n).2 := h11
    refine ⟨_, rfl, _, _, rfl, .pair h11' (tu2.ex (e210.trans e11)) (lp hu).1 (lp hu).2 1, fun H12 e12 => ⟨_, rfl, iteF ?_⟩⟩
    have e212 := e210.trans (e11.trans e12)
    refine ⟨_, rfl, _, rfl, _, rfl, q, n, u, e, _, _, _, _, rfl, tu2.ex e212, hu, t2.ex e212, hx, fun p13 H13 e13 h13 => ?_⟩
    have h13' : TpX K H13 p13 (thenX q (unitX n) x).1 (thenX q (unitX n) x).2 := h13
    rw [unit_then hx] at h13'
    refine ⟨_, rfl, _, _, rfl, .pair h13' (t2.ex (e212.trans e13)) (lp hx).1 (lp hx).2 1, fun H14 e14 => ⟨_, rfl, iteF ?_⟩⟩
    have e214 := e212.trans (e13.trans e14)
    refine ⟨_, rfl, _, rfl, _, rfl, q, n, e, u, _, _, _, _, rfl, t2.ex e214, hx, tu2.ex e214, hu, fun p15 H15 e15 h15 => ?_⟩
    have h15' : TpX K H15 p15 (thenX q x (unitX n)).1 (thenX q x (unitX n)).2 := h15
    rw [then_unit hx] at h15'
    exact ⟨_, rfl, _, _, rfl, .pair h15' (t2.ex (e214.trans e15)) (lp hx).1 (lp hx).2 1, fun H16 e16 => k _ (e02.trans (e214.trans (e15.trans e16)))⟩
theorem ok__law_rows (F : FnP K "_law_rows" s__law_rows f fd) (Z : Zs mg) (G_exchanged_row : Fn P w K mg base CX0 1 "exchanged_row" s_exchanged_row ["letters", "exchange", "row"] (spLed K)) (G__law_row : Fn P w K mg base CX0 2 "_law_row" s__law_row ["draws", "letters", "length"] (spRowL K)) (G__law_led : Fn P w K mg base CX0 1 "_law_led" s__law_led ["letters", "exchange", "row"] (spLed K))
    (G__law_all : Fn P w K mg base CX0 2 "_law_all" s__law_all ["letters", "length", "exchanges"] (spAll K)) (G__law_same : Fn P w K mg base CX0 5 "_law_same" s__law_same ["found", "due"] (spSame K 3)) : FnOk P w K mg base CX0 6 f fd ["draws", "letters", "length", "exchanges"] (spRows K) := by
  refine F.ok sc__law_rows (fun vs H Q E h => ?_) (fun cdv A outer s H vs Q E hr h => ⟨_, PSs.nox (pss_cons (ps_set (i := 4) sc__law_rows.nd rfl (by first | exact Or.inl rfl | exact Or.inr rfl) (pe_callTy (kc_tuple (K := K)) (by rfl) Z.tuple (by decide +kernel) (pa_cons (pe_callF G__law_row (hr.mono (by decide)) rfl pass0 (pa_cons (pv 0) (pa_cons (pv 1) (pa_cons (pv 2) pa_nil)))) pa_nil)))
  (pss_cons (ps_set (i := 5) sc__law_rows.nd rfl (by first | exact Or.inl rfl | exact Or.inr rfl) (pv 4))
  (pss_cons (ps_for PassesOwn.never rfl (pi_list (pv 3)) (pg_name (i := 6) sc__law_rows.nd rfl (by first | exact Or.inl rfl | exact Or.inr rfl)) (pss_cons (ps_set (i := 7) sc__law_rows.nd rfl (by first | exact Or.inl rfl | exact Or.inr rfl) (pe_callF G__law_led (hr.mono (by decide)) rfl pass0 (pa_cons (pv 1) (pa_cons (pv 6) (pa_cons (pv 5) pa_nil)))))
  (pss_cons (ps_if (pt_not (pt_val (pe_callF G__law_same (hr.mono (by decide)) rfl pass0 (pa_cons (pe_callF G_exchanged_row (hr.mono (by decide)) rfl pass0 (pa_cons (pv 1) (pa_cons (pv 6) (pa_cons (pv 5) pa_nil)))) (pa_cons (pv 7) pa_nil))))) (pss_one (ps_ret pe_bl)) pss_nil)
  (pss_one (ps_set (i := 5) sc__law_rows.nd rfl (by first | exact Or.inl rfl | exact Or.inr rfl) (pv 7))))))
  (pss_one (ps_ret (pe_callF G__law_same (hr.mono (by decide)) rfl pass0 (pa_cons (pe_call0KF G_exchanged_row (hr.mono (by decide)) kb_exchanged_row_row_exchange_letters pass0 (pk_cons (pv 4) (pk_cons (pe_callF G__law_all (hr.mono (by decide)) rfl pass0 (pa_cons (pv 1) (pa_cons (pv 2) (pa_cons (pv 3) pa_nil)))) (pk_cons (pv 1) pk_nil)))) (pa_cons (pv 5) pa_nil)))))))), ?_⟩)
  · obtain ⟨a, l, R, q, n, p, es, xs, rfl, _⟩ := h
    rfl
  · obtain ⟨a, l, R, q, n, p, es, xs, rfl, hw, hp, lx, q0, q1, few, k⟩ := h
    refine ⟨_, rfl, _, rfl, _, rfl, a, l, R, q, n, rfl, hw, q0, q1, few, fun row hrl hrow r R1 H1 _ e1 w1 hr1 => ?_⟩
    refine ⟨r, _, rfl, .inl ⟨sq_of (w1.ex _ _ hr1), RetU.new (K := K) (H := H1) (fun t H2 e2 ht => ?_) (Ex.refl _)⟩⟩
    have w2 := (w1.weak e1).keep e2
    refine ⟨_, rfl, ?_⟩
    have fold : ∀ i, (xs.take i).foldl (fun r x => ledL q x.1 x.2 r) row = ledL q (allX q n (xs.take i)).1 (allX q n (xs.take i)).2 row := fun i => by
      have := led_fold few q0 q1 row (xs.take i) (unitX n) (IsX.unit few q0 q1) fun y hy => lx.all y (List.mem_of_mem_take hy)
      rw [led_unit hrl hrow] at this
      exact this.symm
    refine ⟨_, rfl, p, rfl, ⟨_, ex_l w2.ex hp⟩, for_list (xs := es.map V.ref) (fun i σ H' => Ex H2 H' ∧ Wl 1 a l R H' ∧ ∃ v v2 c, σ = [some (.ref a), some (.int q), some (.int (n : Int)), some (.ref p), some (.ref t), some (.ref c), v, v2] ∧ Tp K H' c (((xs.take i).foldl (fun r x => ledL q x.1 x.2 r) row).map V.int)) ⟨Ex.refl _, w2, none, none, t, rfl, ht⟩ (fun i σ H' _ h => ex_l h.2.1.ex hp) (fun i z σ H' hz h => ?_) (fun σ H' h => ?_)⟩
    · obtain ⟨ex, w3, v, v2, c, rfl, hc⟩ := h
      obtain ⟨e, x, rfl, he, hx, tx, ix⟩ := (lx.ex w3.ex).get hz
      have cl : ((xs.take i).foldl (fun r x => ledL q x.1 x.2 r) row).length = n := by
        rw [fold, ledL_len]
        exact (allX_isX few q0 q1 _ _ (IsX.unit few q0 q1) fun y hy => lx.all y (List.mem_of_mem_take hy)).pn
      have nx : (xs.take (i + 1)).foldl (fun r x => ledL q x.1 x.2 r) row = ledL q x.1 x.2 ((xs.take i).foldl (fun r x => ledL q x.1 x.2 r) row) := by
        rw [List.take_succ, hx, List.foldl_append]
        rfl
      rw [nx]
      have dl : (ledL q x.1 x.2 ((xs.take i).foldl (fun r x => ledL q x.1 x.2 r) row)).length ≤ 1000 := by rw [ledL_len, ix.pn]; exact few
      generalize (xs.take i).foldl (fun r x => ledL q x.1 x.2 r) row = now at hc cl dl ⊢
      refine ⟨_, rfl, _, rfl, _, rfl, q, n, e, c, _, _, now, rfl, tx, ix, hc, cl, fun d H4 e4 hd => ?_⟩
      refine ⟨_, rfl, _, rfl, _, rfl, q, n, e, c, _, _, now, rfl, tx.ex e4, ix, hc.ex e4, cl, fun d5 H5 e5 hd5 => ?_⟩
      refine ⟨_, rfl, _, _, rfl, .tup hd5 (hd.ex e5) (scal_ints _) (by rw [List.length_map]; exact dl) 2, fun H6 e6 => ⟨_, rfl, iteF ?_⟩⟩
      have e46 := e5.trans e6
      exact ⟨_, rfl, ex.trans (e4.trans e46), w3.keep (e4.trans e46), _, _, d, rfl, hd.ex e46⟩
    · obtain ⟨ex, w3, v, v2, c, rfl, hc⟩ := h
      rw [List.length_map, lx.len, fold, List.take_length] at hc
      have ia : IsX q n (allX q n xs).1 (allX q n xs).2 := allX_isX few q0 q1 xs (unitX n) (IsX.unit few q0 q1) lx.all
      refine ⟨_, rfl, _, rfl, _, rfl, _, rfl, q, n, p, es, xs, rfl, ex_l w3.ex hp, lx.ex w3.ex, few, q0, q1, fun g H4 e4 hg => ?_⟩
      refine ⟨_, rfl, q, n, g, t, _, _, row, rfl, hg, ia, ht.ex (ex.trans e4), hrl, fun d5 H5 e5 hd5 => ?_⟩
      exact ⟨_, rfl, _, _, rfl, .tup hd5 (hc.ex (e4.trans e5)) (scal_ints _) (by rw [List.length_map, ledL_len, ia.pn]; exact few) 2, fun H6 e6 => k _ (w3.keep (e4.trans (e5.trans e6)))⟩
end
end K31

namespace K31
open PySem PySem.Spec PyProof.Rows L2 Evl Own
theorem LstX.take {K : PySem.W.Frag} {H : Hp} {q : Int} {n : Nat} {es : List Addr} {xs : List XX} (l : LstX K H q n es xs) (k : Nat) : LstX K H q n (es.take k) (xs.take k) := by
  refine ⟨by rw [List.length_take, List.length_take, l.len], by rw [List.length_take]; have := l.few; omega, fun i e x h1 h2 => ?_⟩
  rw [List.getElem?_take] at h1 h2
  split at h1
  · rename_i c
    rw [if_pos c] at h2
    exact l.at_ i e x h1 h2
  · cases h1
theorem LstX.drop {K : PySem.W.Frag} {H : Hp} {q : Int} {n : Nat} {es : List Addr} {xs : List XX} (l : LstX K H q n es xs) (k : Nat) : LstX K H q n (es.drop k) (xs.drop k) := by
  refine ⟨by rw [List.length_drop, List.length_drop, l.len], by rw [List.length_drop]; have := l.few; omega, fun i e x h1 h2 => ?_⟩
  rw [List.getElem?_drop] at h1 h2
  exact l.at_ _ e x h1 h2
theorem cutR_to {es : List Addr} {k : Nat} (h : k ≤ es.length) : cutV (es.map V.ref) none (some (k : Int)) = (es.take k).map V.ref := by
  unfold cutV
  rw [HT.sIx_nat, HT.sIx_none, List.length_map, Nat.min_eq_left h, List.drop_zero, Nat.sub_zero, List.map_take]
theorem cutR_to' {es : List Addr} {k : Nat} : cutV (es.map V.ref) none (some (k : Int)) = (es.take k).map V.ref := by
  unfold cutV
  rw [HT.sIx_nat, HT.sIx_none, List.length_map, List.drop_zero, Nat.sub_zero, ← List.map_take]
  congr 1
  by_cases h : k ≤ es.length
  · rw [Nat.min_eq_left h]
  · rw [Nat.min_eq_right (by omega), List.take_length, List.take_of_length_le (by omega)]
theorem cutR_from {es : List Addr} {k : Nat} (h : k ≤ es.length) : cutV (es.map V.ref) (some (k : Int)) none = (es.drop k).map V.ref := by
  unfold cutV
  rw [HT.sIx_nat, HT.sIx_none, List.length_map, Nat.min_eq_left h, List.take_of_length_le (by rw [List.length_drop, List.length_map]; omega), List.map_drop]
theorem lsgn_pm (ps : List Nat) (ss : List Int) : lsgn ps ss = 1 ∨ lsgn ps ss = -1 := by
  unfold lsgn
  split
  · exact .inl rfl
  · exact .inr rfl
section
variable {P : Program} {w : World} {K : PySem.W.Frag} {mg : Str → Option Value} {base : Heap} {f : Addr} {fd : FuncData}
theorem ok__law_halves (F : FnP K "_law_halves" s__law_halves f fd) (Z : Zs mg) (G__law_any : Fn P w K mg base CX0 1 "_law_any" s__law_any ["draws", "bound"] (spAny 1)) (G_behind : Fn P w K mg base CX0 1 "behind" s_behind ["letters", "first", "second"] (spBehind K)) (G_sign_of : Fn P w K mg base CX0 2 "sign_of" s_sign_of ["letters", "exchange"] (spSign K))
    (G__law_then : Fn P w K mg base CX0 1 "_law_then" s__law_then ["letters", "one", "other"] (spBehind K)) (G__law_undone : Fn P w K mg base CX0 1 "_law_undone" s__law_undone ["exchange"] (spUndone K)) (G__law_sign : Fn P w K mg base CX0 1 "_law_sign" s__law_sign ["exchange"] (spLSign K))
    (G__law_all : Fn P w K mg base CX0 2 "_law_all" s__law_all ["letters", "length", "exchanges"] (spAll K)) (G__law_same : Fn P w K mg base CX0 5 "_law_same" s__law_same ["found", "due"] (spSame K 3)) : FnOk P w K mg base CX0 6 f fd ["draws", "letters", "length", "exchanges"] (spRows K) := by
  refine F.ok sc__law_halves (fun vs H Q E h => ?_) (fun cdv A outer s H vs Q E hr h => ⟨_, PSs.nox (pss_cons (ps_set (i := 4) sc__law_halves.nd rfl (by first | exact Or.inl rfl | exact Or.inr rfl) (pe_callF G__law_any (hr.mono (by decide)) rfl pass0 (pa_cons (pv 0) (pa_cons (pe_op op_add (pe_callB (kc_len (K := K)) (by rfl) Z.len PySem.boot_len (pa_cons (pv 3) pa_nil)) pe_int) pa_nil))))
  (pss_cons (ps_par (i := 5) (j := 6) rfl sc__law_halves.nd rfl rfl (by decide) rfl rfl (pa_cons (pe_callF G__law_all (hr.mono (by decide)) rfl pass0 (pa_cons (pv 1) (pa_cons (pv 2) (pa_cons (pe_slice (ksl_list (K := K)) (pv 3) po_none (po_some (pv 4))) pa_nil)))) (pa_cons (pe_callF G__law_all (hr.mono (by decide)) rfl pass0 (pa_cons (pv 1) (pa_cons (pv 2) (pa_cons (pe_slice (ksl_list (K := K)) (pv 3) (po_some (pv 4)) po_none) pa_nil)))) pa_nil)) (by rfl))
  (pss_cons (ps_set (i := 7) sc__law_halves.nd rfl (by first | exact Or.inl rfl | exact Or.inr rfl) (pe_callF G__law_all (hr.mono (by decide)) rfl pass0 (pa_cons (pv 1) (pa_cons (pv 2) (pa_cons (pv 3) pa_nil)))))
  (pss_cons (ps_if (pt_not (pt_val (pe_callF G__law_same (hr.mono (by decide)) rfl pass0 (pa_cons (pe_callF G_behind (hr.mono (by decide)) rfl pass0 (pa_cons (pv 1) (pa_cons (pv 5) (pa_cons (pv 6) pa_nil)))) (pa_cons (pv 7) pa_nil))))) (pss_one (ps_ret pe_bl)) pss_nil)
  (pss_cons (ps_if (pt_not (pt_val (pe_callF G__law_same (hr.mono (by decide)) rfl pass0 (pa_cons (pe_call0KF G_behind (hr.mono (by decide)) kb_behind_second_first_letters pass0 (pk_cons (pe_callF G__law_undone (hr.mono (by decide)) rfl pass0 (pa_cons (pv 5) pa_nil)) (pk_cons (pv 7) (pk_cons (pv 1) pk_nil)))) (pa_cons (pe_callF G__law_then (hr.mono (by decide)) rfl pass0 (pa_cons (pv 1) (pa_cons (pv 7) (pa_cons (pe_callF G__law_undone (hr.mono (by decide)) rfl pass0 (pa_cons (pv 5) pa_nil)) pa_nil)))) pa_nil))))) (pss_one (ps_ret pe_bl)) pss_nil)
  (pss_cons (ps_for PassesOwn.never rfl (pi_list (pe_lst (pa_cons (pv 5) (pa_cons (pv 6) (pa_cons (pv 7) pa_nil))))) (pg_name (i := 8) sc__law_halves.nd rfl (by first | exact Or.inl rfl | exact Or.inr rfl)) (pss_one (ps_if (pt_not (pt_val (pe_callF G__law_same (hr.mono (by decide)) rfl pass0 (pa_cons (pe_callF G_sign_of (hr.mono (by decide)) rfl pass0 (pa_cons (pv 1) (pa_cons (pv 8) pa_nil))) (pa_cons (pe_callF G__law_sign (hr.mono (by decide)) rfl pass0 (pa_cons (pv 8) pa_nil)) pa_nil))))) (pss_one (ps_ret pe_bl)) pss_nil)))
  (pss_one (ps_ret (pe_callF G__law_same (hr.mono (by decide)) rfl pass0 (pa_cons (pe_call0KF G_sign_of (hr.mono (by decide)) kb_sign_of_exchange_letters pass0 (pk_cons (pv 7) (pk_cons (pv 1) pk_nil))) (pa_cons (pe_op op_mul (pe_callF G__law_sign (hr.mono (by decide)) rfl pass0 (pa_cons (pv 5) pa_nil)) (pe_callF G__law_sign (hr.mono (by decide)) rfl pass0 (pa_cons (pv 6) pa_nil))) pa_nil))))))))))), ?_⟩)
  · obtain ⟨a, l, R, q, n, p, es, xs, rfl, _⟩ := h
    rfl
  · obtain ⟨a, l, R, q, n, p, es, xs, rfl, hw, hp, lx, q0, q1, few, k⟩ := h
    have ll := lx.len
    have lf := lx.few
    have lp : ∀ {z : XX}, IsX q n z.1 z.2 → z.1.length ≤ 1000 ∧ z.2.length ≤ 1000 := fun h => ⟨by rw [h.pn]; exact few, by rw [h.sn]; exact few⟩
    refine ⟨_, rfl, _, rfl, p, _, rfl, .inl (ex_l hw.ex hp), _, _, rfl, rfl, a, l, R, _, rfl, hw, by omega, log_lt (by omega) (by rw [List.length_map]; omega), fun m H1 m0 m1 w1 => ?_⟩
    obtain ⟨m, rfl⟩ := Int.eq_ofNat_of_zero_le m0
    rw [List.length_map] at m1
    have hm : m ≤ es.length := by omega
    refine ⟨_, rfl, _, rfl, _, rfl, _, rfl, _, rfl, p, _, rfl, ex_l w1.ex hp, fun c1 hc1 => ?_⟩
    rw [cutR_to hm]
    have e2 := Ex.new (o := .lst ((es.take m).map V.ref)) hc1
    have w2 := w1.keep e2
    refine ⟨q, n, c1, _, _, rfl, sq_of upd_same, (lx.ex w2.ex).take m, few, q0, q1, fun g1 H3 e3 hg1 => ?_⟩
    have w3 := w2.keep e3
    refine ⟨_, rfl, _, rfl, _, rfl, _, rfl, _, rfl, p, _, rfl, ex_l w3.ex hp, fun c2 hc2 => ?_⟩
    rw [cutR_from hm]
    have e4 := Ex.new (o := .lst ((es.drop m).map V.ref)) hc2
    have w4 := w3.keep e4
    refine ⟨q, n, c2, _, _, rfl, sq_of upd_same, (lx.ex w4.ex).drop m, few, q0, q1, fun g2 H5 e5 hg2 => ⟨_, _, rfl, ?_⟩⟩
    have w5 := w4.keep e5
    refine ⟨_, rfl, _, rfl, _, rfl, q, n, p, es, xs, rfl, ex_l w5.ex hp, lx.ex w5.ex, few, q0, q1, fun g3 H6 e6 hg3 => ?_⟩
    have w6 := w5.keep e6
    have h1 := hg1.ex (e4.trans (e5.trans e6))
    have h2 := hg2.ex e6
    have i1 : IsX q n (allX q n (xs.take m)).1 (allX q n (xs.take m)).2 := allX_isX few q0 q1 _ (unitX n) (IsX.unit few q0 q1) (lx.take m).all
    have i2 : IsX q n (allX q n (xs.drop m)).1 (allX q n (xs.drop m)).2 := allX_isX few q0 q1 _ (unitX n) (IsX.unit few q0 q1) (lx.drop m).all
    have i3 : IsX q n (allX q n xs).1 (allX q n xs).2 := allX_isX few q0 q1 _ (unitX n) (IsX.unit few q0 q1) lx.all
    have whole : thenX q (allX q n (xs.take m)) (allX q n (xs.drop m)) = allX q n xs := by
      have := all_app few q0 q1 (xs.take m) (xs.drop m) (lx.take m).all (lx.drop m).all
      rw [List.take_append_drop] at this
      exact this.symm
    have sgn3 : lsgn (allX q n xs).1 (allX q n xs).2 = lsgn (allX q n (xs.take m)).1 (allX q n (xs.take m)).2 * lsgn (allX q n (xs.drop m)).1 (allX q n (xs.drop m)).2 := by
      rw [← whole]
      exact lsgn_then i1 i2
    generalize allX q n (xs.take m) = x1 at h1 i1 whole sgn3
    generalize allX q n (xs.drop m) = x2 at h2 i2 whole sgn3
    generalize allX q n xs = x3 at hg3 i3 whole sgn3
    clear hg1 hg2
    have b1 : IsX q n (backX n x1).1 (backX n x1).2 := i1.back
    -- behind
    refine ⟨_, rfl, _, rfl, _, rfl, q, n, g1, g2, _, _, _, _, rfl, h1, i1, h2, i2, fun p7 H7 e7 h7 => ?_⟩
    have h7' : TpX K H7 p7 (thenX q x1 x2).1 (thenX q x1 x2).2 := h7
    rw [whole] at h7'
    refine ⟨_, rfl, _, _, rfl, .pair h7' (hg3.ex e7) (lp i3).1 (lp i3).2 1, fun H8 e8 => ⟨_, rfl, iteF ?_⟩⟩
    have e68 := e7.trans e8
    refine ⟨_, rfl, q, n, g1, _, _, rfl, h1.ex e68, i1, fun d9 H9 e9 h9 => ?_⟩
    have e69 := e68.trans e9
    refine ⟨_, rfl, _, rfl, q, n, g3, d9, _, _, _, _, rfl, hg3.ex e69, i3, h9, b1, fun d10 H10 e10 h10 => ?_⟩
    have e610 := e69.trans e10
    refine ⟨_, rfl, _, rfl, _, rfl, q, n, g1, _, _, rfl, h1.ex e610, i1, fun d11 H11 e11 h11 => ?_⟩
    have e611 := e610.trans e11
    refine ⟨q, n, g3, d11, _, _, _, _, rfl, hg3.ex e611, i3, h11, b1, fun d12 H12 e12 h12 => ?_⟩
    have i4 := i3.then_ b1
    refine ⟨_, _, rfl, .pair (h10.ex (e11.trans e12)) h12 (Nat.le_trans (Nat.le_of_eq i4.pn) few) (Nat.le_trans (Nat.le_of_eq i4.sn) few) 1, fun H13 e13 => ⟨_, rfl, iteF ?_⟩⟩
    have e613 := e611.trans (e12.trans e13)
    -- signs
    refine ⟨_, rfl, _, rfl, _, rfl, by show 3 ≤ sizeLine; decide, fun mm hmm => ?_⟩
    have e14 := Ex.new (o := .lst [V.ref g1, .ref g2, .ref g3]) hmm
    have hm14 : upd H13 mm (.lst [V.ref g1, .ref g2, .ref g3]) mm = some (.lst [V.ref g1, .ref g2, .ref g3]) := upd_same
    generalize upd H13 mm (.lst [V.ref g1, .ref g2, .ref g3]) = H14 at e14 hm14 ⊢
    have e614 := e613.trans e14
    refine ⟨mm, rfl, ⟨_, sq_of hm14⟩, for_list (xs := [V.ref g1, .ref g2, .ref g3]) (fun i σ H' => Ex H14 H' ∧ ∃ v, σ = [some (.ref a), some (.int q), some (.int (n : Int)), some (.ref p), some (.int (m : Int)), some (.ref g1), some (.ref g2), some (.ref g3), v]) ⟨Ex.refl _, none, rfl⟩ (fun i σ H' _ h => sq_of (h.1 _ _ hm14)) (fun i z σ H' hz h => ?_) (fun σ H' h => ?_)⟩
    · obtain ⟨ex, v, rfl⟩ := h
      have hz' : ∃ (g : Addr) (x : XX), z = .ref g ∧ TpX K H' g x.1 x.2 ∧ IsX q n x.1 x.2 := by
        have e := e614.trans ex
        rcases i with _ | _ | _ | i
        · cases hz
          exact ⟨g1, x1, rfl, h1.ex e, i1⟩
        · cases hz
          exact ⟨g2, x2, rfl, h2.ex e, i2⟩
        · cases hz
          exact ⟨g3, x3, rfl, hg3.ex e, i3⟩
        · cases hz
      obtain ⟨g, x, rfl, tg, ig⟩ := hz'
      refine ⟨_, rfl, _, rfl, q, n, g, _, _, rfl, tg, ig, fun H15 e15 => ⟨_, rfl, q, n, g, _, _, rfl, tg.ex e15, ig, fun H16 e16 => ?_⟩⟩
      rw [sgn_eq ig]
      exact ⟨_, _, rfl, Sm.scal rfl _, fun H17 e17 => ⟨_, rfl, iteF ⟨ex.trans (e15.trans (e16.trans e17)), _, rfl⟩⟩⟩
    · obtain ⟨ex, v, rfl⟩ := h
      have e := e614.trans ex
      refine ⟨_, rfl, _, rfl, q, n, g3, _, _, rfl, hg3.ex e, i3, fun H15 e15 => ?_⟩
      refine ⟨_, rfl, q, n, g1, _, _, rfl, h1.ex (e.trans e15), i1, fun H16 e16 => ⟨_, rfl, q, n, g2, _, _, rfl, h2.ex (e.trans (e15.trans e16)), i2, fun H17 e17 => ?_⟩⟩
      have pm1 := lsgn_pm x1.1 x1.2
      refine ⟨_, _, rfl, rfl, .inl ⟨by omega, by omega⟩, ?_⟩
      rw [sgn_eq i3, sgn3]
      exact ⟨_, _, rfl, Sm.scal rfl _, fun H18 e18 => k _ (w6.keep (e.trans (e15.trans (e16.trans (e17.trans e18)))))⟩
end
end K31

namespace K31
open PySem PySem.Spec PyProof.Rows L2 Evl Own
def powX (q : Int) (x : XX) : Nat → XX
  | 0 => x
  | k + 1 => thenX q (powX q x k) x
/-- a circle of places, twos among it alone -/
structure Circ (q : Int) (n : Nat) (c tl : List Nat) (ss : List Int) : Prop where
  pm : (c ++ tl).Perm (List.range n)
  sn : ss.length = n
  one : ∀ i, i < n → ss.getD i 0 = 1 ∨ (ss.getD i 0 = 2 ∧ q = 3 ∧ i ∈ c)
  few : n ≤ 1000
  q0 : 2 ≤ q
  q1 : q ≤ 3
def manyN (c : List Nat) (ss : List Int) : Nat := max 1 c.length * (1 + twos ss % 2)
theorem Circ.nd {q : Int} {n : Nat} {c tl : List Nat} {ss : List Int} (h : Circ q n c tl ss) : (c ++ tl).Nodup := h.pm.nodup_iff.mpr List.nodup_range
theorem Circ.inj {q : Int} {n : Nat} {c tl : List Nat} {ss : List Int} (h : Circ q n c tl ss) {t u : Nat} (ht : t < c.length) (hu : u < c.length) (e : c.getD t 0 = c.getD u 0) : t = u := by
  have nd : c.Nodup := (List.nodup_append.mp h.nd).1
  rw [List.getD_eq_getElem?_getD, List.getD_eq_getElem?_getD, List.getElem?_eq_getElem ht, List.getElem?_eq_getElem hu] at e
  exact (List.getElem_inj nd).mp e
theorem Circ.lt {q : Int} {n : Nat} {c tl : List Nat} {ss : List Int} (h : Circ q n c tl ss) {x : Nat} (hx : x ∈ c ++ tl) : x < n := List.mem_range.mp (h.pm.mem_iff.mp hx)
theorem getD_in {c : List Nat} {t : Nat} (h : t < c.length) : c.getD t 0 ∈ c := by
  rw [List.getD_eq_getElem?_getD, List.getElem?_eq_getElem h]
  exact List.getElem_mem h
theorem in_getD {c : List Nat} {x : Nat} (h : x ∈ c) : ∃ t, t < c.length ∧ c.getD t 0 = x := by
  obtain ⟨t, ht, e⟩ := List.getElem_of_mem h
  refine ⟨t, ht, ?_⟩
  rw [List.getD_eq_getElem?_getD, List.getElem?_eq_getElem ht]
  exact e
theorem next_mod {t L : Nat} (h : t < L) : (if t + 1 = L then 0 else t + 1) = (t + 1) % L := by
  by_cases e : t + 1 = L
  · rw [if_pos e, e, Nat.mod_self]
  · rw [if_neg e, Nat.mod_eq_of_lt (by omega)]
theorem Circ.step {q : Int} {n : Nat} {c tl : List Nat} {ss : List Int} (h : Circ q n c tl ss) : ∀ m, m ≤ c.length → (∀ t, t < m → (circ c n m).getD (c.getD t 0) 0 = c.getD ((t + 1) % c.length) 0) ∧ (∀ x, x < n → (∀ t, t < m → c.getD t 0 ≠ x) → (circ c n m).getD x 0 = x)
  | 0, _ => ⟨fun t h => by omega, fun x hx _ => by
    show (List.range n).getD x 0 = x
    rw [List.getD_eq_getElem?_getD, List.getElem?_range hx]
    rfl⟩
  | m + 1, hm => by
    obtain ⟨i1, i2⟩ := h.step m (by omega)
    have lt : c.getD m 0 < (circ c n m).length := by rw [circ_len]; exact h.lt (List.mem_append_left _ (getD_in (by omega)))
    refine ⟨fun t ht => ?_, fun x hx hn => ?_⟩
    · show ((circ c n m).set (c.getD m 0) _).getD (c.getD t 0) 0 = _
      by_cases e : t = m
      · subst e
        rw [List.getD_eq_getElem?_getD, List.getElem?_set_self lt, next_mod (by omega)]
        rfl
      · have ne : c.getD m 0 ≠ c.getD t 0 := fun h' => e (h.inj (by omega) (by omega) h').symm
        rw [List.getD_eq_getElem?_getD, List.getElem?_set_ne ne, ← List.getD_eq_getElem?_getD]
        exact i1 t (by omega)
    · show ((circ c n m).set (c.getD m 0) _).getD x 0 = _
      rw [List.getD_eq_getElem?_getD, List.getElem?_set_ne (hn m (by omega)), ← List.getD_eq_getElem?_getD]
      exact i2 x hx fun t ht => hn t (by omega)
/-- on the circle, off it -/
theorem Circ.on {q : Int} {n : Nat} {c tl : List Nat} {ss : List Int} (h : Circ q n c tl ss) {t : Nat} (ht : t < c.length) : (circ c n c.length).getD (c.getD t 0) 0 = c.getD ((t + 1) % c.length) 0 := (h.step c.length (Nat.le_refl _)).1 t ht
theorem Circ.off {q : Int} {n : Nat} {c tl : List Nat} {ss : List Int} (h : Circ q n c tl ss) {x : Nat} (hx : x < n) (hn : x ∉ c) : (circ c n c.length).getD x 0 = x := (h.step c.length (Nat.le_refl _)).2 x hx fun t ht e => hn (e ▸ getD_in ht)
theorem Circ.apart {q : Int} {n : Nat} {c tl : List Nat} {ss : List Int} (h : Circ q n c tl ss) {x : Nat} (hx : x ∈ tl) : x ∉ c := fun hc => (List.nodup_append.mp h.nd).2.2 x hc x hx rfl
theorem Circ.sg {q : Int} {n : Nat} {c tl : List Nat} {ss : List Int} (h : Circ q n c tl ss) {i : Nat} (hi : i < n) : 1 ≤ ss.getD i 0 ∧ ss.getD i 0 < q := by
  have := h.q0
  rcases h.one i hi with e | ⟨e, e2, _⟩
  · rw [e]
    omega
  · rw [e]
    omega
theorem Circ.isX {q : Int} {n : Nat} {c tl : List Nat} {ss : List Int} (h : Circ q n c tl ss) : IsX q n (circ c n c.length) ss := by
  refine ⟨?_, h.sn, fun s hs => ?_, h.few, h.q0, h.q1⟩
  · have e0 : (List.range n).map (fun j => (circ c n c.length).getD j 0) = circ c n c.length := by
      have := range_map_getD (circ c n c.length)
      rw [circ_len] at this
      exact this
    have p1 := h.pm.map fun j => (circ c n c.length).getD j 0
    rw [e0, List.map_append] at p1
    have e1 : c.map (fun j => (circ c n c.length).getD j 0) = c.drop 1 ++ c.take 1 := by
      apply ext_getD (d := 0)
      · rw [List.length_map, List.length_append, List.length_drop, List.length_take]
        omega
      · intro t ht
        rw [List.length_map] at ht
        have a1 : (c.map fun j => (circ c n c.length).getD j 0).getD t 0 = (circ c n c.length).getD (c.getD t 0) 0 := by
          rw [List.getD_eq_getElem?_getD (l := c.map _), List.getElem?_map, List.getElem?_eq_getElem ht, List.getD_eq_getElem?_getD (l := c), List.getElem?_eq_getElem ht]
          rfl
        rw [a1, h.on ht]
        by_cases e : t + 1 = c.length
        · rw [e, Nat.mod_self, List.getD_eq_getElem?_getD (l := c.drop 1 ++ _), List.getElem?_append_right (by rw [List.length_drop]; omega), List.length_drop, show t - (c.length - 1) = 0 by omega, List.getElem?_take, if_pos (by decide)]
          rw [List.getD_eq_getElem?_getD]
        · rw [Nat.mod_eq_of_lt (by omega), List.getD_eq_getElem?_getD (l := c.drop 1 ++ _), List.getElem?_append_left (by rw [List.length_drop]; omega), List.getElem?_drop, List.getD_eq_getElem?_getD, Nat.add_comm]
    have e2 : tl.map (fun j => (circ c n c.length).getD j 0) = tl := by
      conv => rhs; rw [← List.map_id tl]
      apply List.map_congr_left
      intro x hx
      exact h.off (h.lt (List.mem_append_right _ hx)) (h.apart hx)
    rw [e1, e2] at p1
    have p2 : (c.drop 1 ++ c.take 1 ++ tl).Perm (c ++ tl) := (List.perm_append_comm.trans (by rw [List.take_append_drop])).append_right tl
    exact p1.symm.trans (p2.trans h.pm)
  · obtain ⟨i, hi, rfl⟩ := List.getElem_of_mem hs
    have := h.sg (i := i) (by rw [h.sn] at hi; exact hi)
    rw [List.getD_eq_getElem?_getD, List.getElem?_eq_getElem hi] at this
    exact this
/-! ### how often -/
def Eat (c : List Nat) (ss : List Int) (u : Nat) : Nat := if ss.getD (c.getD (u % c.length) 0) 0 = 2 then 1 else 0
def sgv (m : Nat) : Int := if m % 2 = 0 then 1 else 2
theorem sgv_mul {q : Int} {a b : Nat} (q0 : 2 ≤ q) (q1 : q ≤ 3) (h : q = 2 → a % 2 = 0 ∧ b % 2 = 0) : sgv a * sgv b % q = sgv (a + b) := by
  unfold sgv
  by_cases e : q = 2
  · obtain ⟨ha, hb⟩ := h e
    rw [if_pos ha, if_pos hb, if_pos (by omega), e]
    rfl
  · have : q = 3 := by omega
    subst this
    by_cases ha : a % 2 = 0
    · by_cases hb : b % 2 = 0
      · rw [if_pos ha, if_pos hb, if_pos (by omega)]
        rfl
      · rw [if_pos ha, if_neg hb, if_neg (by omega)]
        rfl
    · by_cases hb : b % 2 = 0
      · rw [if_neg ha, if_pos hb, if_neg (by omega)]
        rfl
      · rw [if_neg ha, if_neg hb, if_pos (by omega)]
        rfl
theorem sumN_left (h : Nat → Nat) : ∀ n : Nat, sumN h (n + 1) = h 0 + sumN (fun u => h (u + 1)) n
  | 0 => by rw [sumN_succ]; show sumN h 0 + h 0 = h 0 + 0; show 0 + h 0 = _; omega
  | n + 1 => by
    rw [sumN_succ, sumN_left h n, sumN_succ]
    omega
theorem sumN_split (h : Nat → Nat) (a : Nat) : ∀ b : Nat, sumN h (a + b) = sumN h a + sumN (fun u => h (a + u)) b
  | 0 => rfl
  | b + 1 => by
    show sumN h (a + b + 1) = _
    rw [sumN_succ, sumN_split h a b, sumN_succ]
    omega
theorem Circ.E2 {q : Int} {n : Nat} {c tl : List Nat} {ss : List Int} (h : Circ q n c tl ss) (e : q = 2) (u : Nat) (hu : 0 < c.length) : Eat c ss u = 0 := by
  unfold Eat
  have hl : u % c.length < c.length := Nat.mod_lt _ hu
  have := h.one _ (h.lt (List.mem_append_left _ (getD_in hl)))
  refine if_neg fun h2 => ?_
  rcases this with h1 | ⟨_, h3, _⟩
  · omega
  · omega
theorem sumN_zero : ∀ {h : Nat → Nat} {n : Nat}, (∀ k, k < n → h k = 0) → sumN h n = 0 := fun {h n} e => by
  have : sumN h n = sumN (fun _ => 0) n := sumN_congr e
  rw [this]
  clear this e
  induction n with
  | zero => rfl
  | succ n ih => rw [sumN_succ, ih]
theorem Circ.pow {q : Int} {n : Nat} {c tl : List Nat} {ss : List Int} (h : Circ q n c tl ss) : ∀ k, (∀ t, t < c.length → (powX q (circ c n c.length, ss) k).1.getD (c.getD t 0) 0 = c.getD ((t + (k + 1)) % c.length) 0 ∧ (powX q (circ c n c.length, ss) k).2.getD (c.getD t 0) 0 = sgv (sumN (fun u => Eat c ss (t + u)) (k + 1))) ∧
    (∀ x, x < n → x ∉ c → (powX q (circ c n c.length, ss) k).1.getD x 0 = x ∧ (powX q (circ c n c.length, ss) k).2.getD x 0 = 1)
  | 0 => by
    refine ⟨fun t ht => ⟨h.on ht, ?_⟩, fun x hx hn => ⟨h.off hx hn, ?_⟩⟩
    · show ss.getD (c.getD t 0) 0 = sgv (sumN (fun u => Eat c ss (t + u)) 1)
      have e : sumN (fun u => Eat c ss (t + u)) 1 = Eat c ss t := by
        rw [sumN_succ]
        show 0 + Eat c ss (t + 0) = _
        rw [Nat.zero_add]
        rfl
      rw [e]
      unfold Eat sgv
      rw [Nat.mod_eq_of_lt ht]
      rcases h.one _ (h.lt (List.mem_append_left _ (getD_in ht))) with e1 | ⟨e1, _⟩
      · rw [e1]
        rfl
      · rw [e1]
        rfl
    · show ss.getD x 0 = 1
      rcases h.one x hx with e | ⟨_, _, e⟩
      · exact e
      · exact (hn e).elim
  | k + 1 => by
    obtain ⟨i1, i2⟩ := h.pow k
    have hx := h.isX
    have pn : (circ c n c.length).length = n := circ_len c n _
    refine ⟨fun t ht => ?_, fun x hx' hn => ?_⟩
    · have ct : c.getD t 0 < n := h.lt (List.mem_append_left _ (getD_in ht))
      have hl : (t + 1) % c.length < c.length := Nat.mod_lt _ (by omega)
      obtain ⟨j1, j2⟩ := i1 _ hl
      constructor
      · show (thenP _ (circ c n c.length)).getD (c.getD t 0) 0 = _
        rw [thenP_getD (by rw [pn]; exact ct), h.on ht, j1, Nat.mod_add_mod]
        congr 2
        omega
      · show (thenS q _ (circ c n c.length) ss).getD (c.getD t 0) 0 = _
        rw [thenS_getD (by rw [pn]; exact ct), h.on ht, j2]
        have e1 : sumN (fun u => Eat c ss ((t + 1) % c.length + u)) (k + 1) = sumN (fun u => Eat c ss (t + (u + 1))) (k + 1) := sumN_congr fun u _ => by
          unfold Eat
          rw [Nat.mod_add_mod, show t + 1 + u = t + (u + 1) by omega]
        have e2 : ss.getD (c.getD t 0) 0 = sgv (Eat c ss (t + 0)) := by
          unfold Eat sgv
          rw [Nat.add_zero, Nat.mod_eq_of_lt ht]
          rcases h.one _ ct with e1 | ⟨e1, _⟩
          · rw [e1]
            rfl
          · rw [e1]
            rfl
        rw [e1, e2, sgv_mul h.q0 h.q1, sumN_left (fun u => Eat c ss (t + u)) (k + 1), Nat.add_comm]
        intro e
        refine ⟨?_, by rw [h.E2 e _ (by omega)]⟩
        rw [sumN_zero fun u _ => h.E2 e _ (by omega)]
    · obtain ⟨j1, j2⟩ := i2 x hx' hn
      constructor
      · show (thenP _ (circ c n c.length)).getD x 0 = _
        rw [thenP_getD (by rw [pn]; exact hx'), h.off hx' hn, j1]
      · show (thenS q _ (circ c n c.length) ss).getD x 0 = _
        rw [thenS_getD (by rw [pn]; exact hx'), h.off hx' hn, j2]
        have : ss.getD x 0 = 1 := by
          rcases h.one x hx' with e | ⟨_, _, e⟩
          · exact e
          · exact (hn e).elim
        rw [this]
        have := h.q0
        exact Int.emod_eq_of_lt (by decide) (by omega)
theorem Circ.total {q : Int} {n : Nat} {c tl : List Nat} {ss : List Int} (h : Circ q n c tl ss) : sumN (fun u => Eat c ss u) c.length = twos ss := by
  have e1 : sumN (fun u => Eat c ss u) c.length = (c.map fun x => if ss.getD x 0 = 2 then 1 else 0).sum := by
    have := range_map (0 : Nat) (fun x => if ss.getD x 0 = 2 then (1 : Nat) else 0) c
    rw [← this]
    unfold sumN
    congr 1
    apply List.map_congr_left
    intro u hu
    unfold Eat
    rw [Nat.mod_eq_of_lt (List.mem_range.mp hu)]
  have e2 : (tl.map fun x => if ss.getD x 0 = 2 then (1 : Nat) else 0).sum = 0 := by
    have : (tl.map fun x => if ss.getD x 0 = 2 then (1 : Nat) else 0) = tl.map fun _ => 0 := by
      apply List.map_congr_left
      intro x hx
      refine if_neg fun e => ?_
      rcases h.one x (h.lt (List.mem_append_right _ hx)) with e1 | ⟨_, _, e1⟩
      · omega
      · exact h.apart hx e1
    rw [this]
    clear this e1 h
    induction tl with
    | nil => rfl
    | cons _ _ ih => rw [List.map_cons, List.sum_cons, ih]
  have e3 := sum_perm (h.pm.map fun x => if ss.getD x 0 = 2 then (1 : Nat) else 0)
  rw [List.map_append, List.sum_append, e2, Nat.add_zero, ← e1] at e3
  rw [e3, twos_sumN, h.sn]
  rfl
theorem Circ.window {q : Int} {n : Nat} {c tl : List Nat} {ss : List Int} (h : Circ q n c tl ss) : ∀ t, sumN (fun u => Eat c ss (t + u)) c.length = twos ss
  | 0 => by
    have := h.total
    rw [← this]
    exact sumN_congr fun u _ => by rw [Nat.zero_add]
  | t + 1 => by
    have ih := h.window t
    have s1 := sumN_succ (fun u => Eat c ss (t + u)) c.length
    have s2 := sumN_left (fun u => Eat c ss (t + u)) c.length
    have e1 : Eat c ss (t + c.length) = Eat c ss (t + 0) := by
      unfold Eat
      rw [Nat.add_mod_right, Nat.add_zero]
    have e2 : sumN (fun u => Eat c ss (t + 1 + u)) c.length = sumN (fun u => Eat c ss (t + (u + 1))) c.length := sumN_congr fun u _ => by rw [show t + 1 + u = t + (u + 1) by omega]
    rw [e2]
    rw [s2, e1] at s1
    omega
theorem Circ.none_ {q : Int} {n : Nat} {c tl : List Nat} {ss : List Int} (h : Circ q n c tl ss) (e : c.length = 0) : twos ss = 0 := by
  rw [← h.total, e]
  rfl
theorem Circ.not_yet {q : Int} {n : Nat} {c tl : List Nat} {ss : List Int} (h : Circ q n c tl ss) : ∀ k, k + 1 < manyN c ss → powX q (circ c n c.length, ss) k ≠ unitX n := by
  intro k hk e
  unfold manyN at hk
  by_cases hL : c.length = 0
  · rw [h.none_ hL, hL] at hk
    simp at hk
  · have hpos : 0 < c.length := by omega
    obtain ⟨p1, p2⟩ := (h.pow k).1 0 hpos
    have c0 : c.getD 0 0 < n := h.lt (List.mem_append_left _ (getD_in hpos))
    rw [e, (unit_at c0).1] at p1
    rw [e, (unit_at c0).2] at p2
    have m0 := h.inj hpos (Nat.mod_lt _ hpos) p1
    rw [Nat.zero_add] at m0
    obtain ⟨j, hj⟩ := Nat.dvd_of_mod_eq_zero m0.symm
    rw [Nat.max_eq_right (by omega : 1 ≤ c.length), hj] at hk
    have hj2 := Nat.lt_of_mul_lt_mul_left hk
    have hj1 : j ≠ 0 := fun z => by rw [z, Nat.mul_zero] at hj; omega
    have jone : j = 1 := by omega
    have todd : twos ss % 2 = 1 := by omega
    rw [jone, Nat.mul_one] at hj
    rw [hj] at p2
    have tot : sumN (fun u => Eat c ss (0 + u)) c.length = twos ss := h.window 0
    rw [tot] at p2
    unfold sgv at p2
    rw [if_neg (by omega)] at p2
    cases p2
theorem Circ.at_last {q : Int} {n : Nat} {c tl : List Nat} {ss : List Int} (h : Circ q n c tl ss) : powX q (circ c n c.length, ss) (manyN c ss - 1) = unitX n := by
  have hx : ∀ k, IsX q n (powX q (circ c n c.length, ss) k).1 (powX q (circ c n c.length, ss) k).2 := fun k => by
    have := h.isX
    induction k with
    | zero => exact this
    | succ k ih => exact ih.then_ this
  have mp : manyN c ss - 1 + 1 = manyN c ss := by
    have : 1 ≤ manyN c ss := Nat.mul_pos (by omega) (by omega)
    omega
  have key : ∀ x, x < n → (powX q (circ c n c.length, ss) (manyN c ss - 1)).1.getD x 0 = x ∧ (powX q (circ c n c.length, ss) (manyN c ss - 1)).2.getD x 0 = 1 := fun x hxn => by
    by_cases hc : x ∈ c
    · obtain ⟨t, ht, rfl⟩ := in_getD hc
      obtain ⟨p1, p2⟩ := (h.pow (manyN c ss - 1)).1 t ht
      rw [mp] at p1 p2
      have ml : manyN c ss = c.length * (1 + twos ss % 2) := by
        unfold manyN
        rw [Nat.max_eq_right (by omega : 1 ≤ c.length)]
      constructor
      · rw [p1, ml, Nat.add_mul_mod_self_left, Nat.mod_eq_of_lt ht]
      · rw [p2]
        unfold sgv
        refine if_pos ?_
        rw [ml]
        have w1 := h.window t
        by_cases o : twos ss % 2 = 0
        · rw [o, Nat.mul_one, w1, o]
        · have w2 := h.window (t + c.length)
          rw [show twos ss % 2 = 1 by omega, show c.length * (1 + 1) = c.length + c.length by omega, sumN_split, w1]
          have : sumN (fun u => Eat c ss (t + (c.length + u))) c.length = twos ss := by
            rw [← w2]
            exact sumN_congr fun u _ => by rw [Nat.add_assoc]
          rw [this]
          omega
    · exact (h.pow _).2 x hxn hc
  refine Prod.ext ?_ ?_
  · apply ext_getD (d := 0)
    · rw [(hx _).pn]
      exact List.length_range.symm
    · intro i hi
      rw [(hx _).pn] at hi
      rw [(key i hi).1, (unit_at hi).1]
  · apply ext_getD (d := 0)
    · rw [(hx _).sn]
      exact (List.length_replicate ..).symm
    · intro i hi
      rw [(hx _).sn] at hi
      rw [(key i hi).2, (unit_at hi).2]
theorem Circ.it_on {q : Int} {n : Nat} {c tl : List Nat} {ss : List Int} (h : Circ q n c tl ss) {t : Nat} (ht : t < c.length) : ∀ k, it (circ c n c.length) k (c.getD t 0) = c.getD ((t + k) % c.length) 0
  | 0 => by
    show c.getD t 0 = _
    rw [Nat.add_zero, Nat.mod_eq_of_lt ht]
  | k + 1 => by
    show (circ c n c.length).getD (it (circ c n c.length) k (c.getD t 0)) 0 = _
    rw [h.it_on ht k, h.on (Nat.mod_lt _ (by omega)), Nat.mod_add_mod]
    rfl
theorem Circ.it_off {q : Int} {n : Nat} {c tl : List Nat} {ss : List Int} (h : Circ q n c tl ss) {x : Nat} (hx : x < n) (hn : x ∉ c) : ∀ k, it (circ c n c.length) k x = x
  | 0 => rfl
  | k + 1 => by
    show (circ c n c.length).getD (it (circ c n c.length) k x) 0 = _
    rw [h.it_off hx hn k, h.off hx hn]
theorem leastN : ∀ ps : List Nat, ps ≠ [] → ∃ m, m ∈ ps ∧ ∀ y, y ∈ ps → m ≤ y
  | [], h => (h rfl).elim
  | [x], _ => ⟨x, by simp, fun y hy => by rw [List.mem_singleton.mp hy]; exact Nat.le_refl _⟩
  | x :: z :: r, _ => by
    obtain ⟨m, h1, h2⟩ := leastN (z :: r) (by simp)
    by_cases c : x ≤ m
    · refine ⟨x, by simp, fun y hy => ?_⟩
      rcases List.mem_cons.mp hy with rfl | h
      · exact Nat.le_refl _
      · exact Nat.le_trans c (h2 y h)
    · refine ⟨m, List.mem_cons_of_mem _ h1, fun y hy => ?_⟩
      rcases List.mem_cons.mp hy with rfl | h
      · omega
      · exact h2 y h
theorem count_one {p : Nat → Bool} {m : Nat} : ∀ {c : List Nat}, c.Nodup → m ∈ c → (∀ x, x ∈ c → (p x = true ↔ x = m)) → c.countP p = 1
  | [], _, h, _ => by cases h
  | x :: r, nd, h, e => by
    obtain ⟨n1, n2⟩ := List.nodup_cons.mp nd
    rw [List.countP_cons]
    by_cases c : x = m
    · subst c
      have : r.countP p = 0 := List.countP_eq_zero.mpr fun y hy => fun hp => n1 (((e y (List.mem_cons_of_mem _ hy)).mp hp) ▸ hy)
      rw [this, if_pos ((e x (by simp)).mpr rfl)]
    · have hm : m ∈ r := by
        rcases List.mem_cons.mp h with h | h
        · exact (c h.symm).elim
        · exact h
      rw [count_one n2 hm fun y hy => e y (List.mem_cons_of_mem _ hy), if_neg fun hp => c ((e x (by simp)).mp hp)]
open Classical in
theorem Circ.cyc {q : Int} {n : Nat} {c tl : List Nat} {ss : List Int} (h : Circ q n c tl ss) : cycN (circ c n c.length) n + max 1 c.length = n + 1 := by
  unfold cycN
  have pl := h.pm.length_eq
  rw [List.length_append, List.length_range] at pl
  rw [← h.pm.countP_eq, List.countP_append]
  have e2 : (tl.countP fun x => !decide (Rch (circ c n c.length) x x)) = tl.length := by
    rw [List.countP_eq_length]
    intro x hx
    have hxn := h.lt (List.mem_append_right _ hx)
    have hxc := h.apart hx
    have : ¬ Rch (circ c n c.length) x x := by
      rintro ⟨s, hs, k, e⟩
      by_cases hc : s ∈ c
      · obtain ⟨t, ht, rfl⟩ := in_getD hc
        rw [h.it_on ht] at e
        exact hxc (e ▸ getD_in (Nat.mod_lt _ (by omega)))
      · rw [h.it_off (by omega) hc] at e
        omega
    rw [decide_eq_false this]
    rfl
  rw [e2]
  by_cases hL : c = []
  · rw [hL] at pl ⊢
    show 0 + tl.length + max 1 0 = n + 1
    have : ([] : List Nat).length = 0 := rfl
    omega
  · obtain ⟨m, hm, hl⟩ := leastN c hL
    have e1 : (c.countP fun x => !decide (Rch (circ c n c.length) x x)) = 1 := by
      refine count_one (m := m) (List.nodup_append.mp h.nd).1 hm fun x hx => ?_
      have hxn := h.lt (List.mem_append_left _ hx)
      by_cases e : x = m
      · subst e
        have : ¬ Rch (circ c n c.length) x x := by
          rintro ⟨s, hs, k, e⟩
          have hc : s ∉ c := fun hc => by
            have := hl s hc
            omega
          rw [h.it_off (by omega) hc] at e
          omega
        rw [decide_eq_false this]
        exact ⟨fun _ => rfl, fun _ => rfl⟩
      · have : Rch (circ c n c.length) x x := by
          obtain ⟨t, ht, et⟩ := in_getD hm
          obtain ⟨u, hu, eu⟩ := in_getD hx
          have := hl x hx
          refine ⟨m, by omega, u + c.length - t, ?_⟩
          rw [← et, h.it_on ht, show t + (u + c.length - t) = u + c.length by omega, Nat.add_mod_right, Nat.mod_eq_of_lt hu, eu]
        rw [decide_eq_true this]
        exact ⟨fun h => Bool.noConfusion h, fun h => (e h).elim⟩
    rw [e1]
    have : 0 < c.length := List.length_pos_iff.mpr hL
    omega
theorem Circ.sign {q : Int} {n : Nat} {c tl : List Nat} {ss : List Int} (h : Circ q n c tl ss) : sgnX q (circ c n c.length) ss = if (max 1 c.length - 1 + twos ss % 2) % 2 = 1 then -1 else 1 := by
  have hc := h.cyc
  unfold sgnX
  rw [circ_len]
  have tw : (if q = 3 then ((ss.countP fun s => decide (s = 2) : Nat) : Int) else 0) = (twos ss : Int) := by
    by_cases c3 : q = 3
    · rw [if_pos c3]
      rfl
    · have : q = 2 := by have := h.q0; have := h.q1; omega
      subst this
      rw [if_neg c3, twos_two h.isX]
      rfl
  rw [tw]
  by_cases o : (max 1 c.length - 1 + twos ss % 2) % 2 = 1
  · rw [if_pos o, if_neg (by omega)]
  · rw [if_neg o, if_pos (by omega)]
theorem pow_isX {q : Int} {n : Nat} {x : XX} (h : IsX q n x.1 x.2) : ∀ k, IsX q n (powX q x k).1 (powX q x k).2
  | 0 => h
  | k + 1 => (pow_isX h k).then_ h
theorem manyN_pos (c : List Nat) (ss : List Int) : 1 ≤ manyN c ss := by
  unfold manyN
  exact Nat.mul_pos (by omega) (by omega)
theorem twos_sum : ∀ {ss : List Int}, (∀ s ∈ ss, s = 1 ∨ s = 2) → ss.sum = (ss.length : Int) + twos ss
  | [], _ => rfl
  | s :: r, h => by
    have ih := twos_sum (ss := r) fun x hx => h x (List.mem_cons_of_mem _ hx)
    have : twos (s :: r) = twos r + if s = 2 then 1 else 0 := by
      unfold twos
      rw [List.countP_cons]
      by_cases e : s = 2 <;> simp [e]
    rw [List.sum_cons, List.length_cons, this, ih]
    rcases h s (by simp) with rfl | rfl
    · simp
      omega
    · simp
      omega
end K31

namespace K31
open PySem PySem.Spec PyProof.Rows L2 Evl Own
theorem eqvAll_ints : ∀ xs ys : List Int, PyData.eqvAll (xs.map PyData.int) (ys.map PyData.int) = decide (xs = ys)
  | [], [] => rfl
  | [], _ :: _ => rfl
  | _ :: _, [] => rfl
  | x :: xs, y :: ys => by
    show (PyData.eqv (.int x) (.int y) && PyData.eqvAll (xs.map PyData.int) (ys.map PyData.int)) = _
    rw [eqvAll_ints xs ys]
    have : PyData.eqv (.int x) (.int y) = decide (x = y) := by
      by_cases e : x = y <;> simp [PyData.eqv, e]
    rw [this]
    by_cases a : x = y <;> by_cases b : xs = ys <;> simp [a, b]
theorem nI_inj : ∀ {xs ys : List Nat}, nI xs = nI ys → xs = ys
  | [], [], _ => rfl
  | [], _ :: _, h => by cases h
  | _ :: _, [], h => by cases h
  | x :: xs, y :: ys, h => by
    injection h with h1 h2
    have h1' : (x : Int) = (y : Int) := h1
    rw [show x = y by omega, nI_inj h2]
/-- one pair is the other -/
theorem eq_pair {K : PySem.W.Frag} {H : Hp} {Q : VK} {e d : Addr} {x y : XX} (he : TpX K H e x.1 x.2) (hd : TpX K H d y.1 y.2) (q : Q (.bl (decide (x = y))) H) : rEqD K (.ref e) (.ref d) H Q := by
  obtain ⟨a, b, h1, h2, h3⟩ := he
  obtain ⟨a', b', g1, g2, g3⟩ := hd
  refine ⟨.tuple [.tuple ((nI x.1).map PyData.int), .tuple (x.2.map PyData.int)], .tuple [.tuple ((nI y.1).map PyData.int), .tuple (y.2.map PyData.int)], .tup h1.sq (.cons (.tup h2.sq (dp_ints _)) (.cons (.tup h3.sq (dp_ints _)) .nil)), .tup g1.sq (.cons (.tup g2.sq (dp_ints _)) (.cons (.tup g3.sq (dp_ints _)) .nil)), ?_, ?_, ?_⟩
  · simp [SeqAt.shaped, PyData.canLay0, PyData.canLayAll0, PyData.depth, PyData.depthAll, PySem.W.ke_canLayAll0, PySem.W.ke_depthAll]
  · simp [SeqAt.shaped, PyData.canLay0, PyData.canLayAll0, PyData.depth, PyData.depthAll, PySem.W.ke_canLayAll0, PySem.W.ke_depthAll]
  · have e : PyData.eqv (.tuple [.tuple ((nI x.1).map PyData.int), .tuple (x.2.map PyData.int)]) (.tuple [.tuple ((nI y.1).map PyData.int), .tuple (y.2.map PyData.int)]) = decide (x = y) := by
      show (PyData.eqvAll ((nI x.1).map PyData.int) ((nI y.1).map PyData.int) && (PyData.eqvAll (x.2.map PyData.int) (y.2.map PyData.int) && true)) = _
      rw [eqvAll_ints, eqvAll_ints, Bool.and_true]
      by_cases a : x = y
      · subst a
        simp
      · rw [decide_eq_false a]
        by_cases b : nI x.1 = nI y.1
        · by_cases c : x.2 = y.2
          · exact (a (Prod.ext (nI_inj b) c)).elim
          · simp [c]
        · simp [b]
    rw [e]
    exact q
theorem flat_nI (c : List Nat) : ((nI c).map V.int).all flatV = true := by
  rw [List.all_eq_true]
  intro v hv
  obtain ⟨z, _, rfl⟩ := List.mem_map.mp hv
  rfl
theorem inV_nI (i : Nat) (c : List Nat) : inV (.int (i : Int)) ((nI c).map V.int) = decide (i ∈ c) := by
  unfold inV
  by_cases h : i ∈ c
  · rw [decide_eq_true h, List.any_eq_true]
    refine ⟨.int (i : Int), List.mem_map.mpr ⟨(i : Int), List.mem_map.mpr ⟨i, h, rfl⟩, rfl⟩, ?_⟩
    simp [eqV]
  · rw [decide_eq_false h, List.any_eq_false]
    intro v hv
    obtain ⟨z, hz, rfl⟩ := List.mem_map.mp hv
    obtain ⟨j, hj, rfl⟩ := List.mem_map.mp hz
    have : j ≠ i := fun e => h (e ▸ hj)
    simp [eqV]
    omega
def spTurns (K : PySem.W.Frag) : Sp := fun vs H Q _ => ∃ (a l : Addr) (R : Hp) (q : Int) (n : Nat), vs = [.ref a, .int q, .int n] ∧ Wl 1 a l R H ∧ 2 ≤ q ∧ q ≤ 3 ∧ n ≤ 1000 ∧ ∀ H', Wl 1 a l R H' → Q (.bl true) H'
section
variable {P : Program} {w : World} {K : PySem.W.Frag} {mg : Str → Option Value} {base : Heap} {f : Addr} {fd : FuncData}
theorem ok__law_turns (F : FnP K "_law_turns" s__law_turns f fd) (Z : Zs mg) (G__law_any : Fn P w K mg base CX0 1 "_law_any" s__law_any ["draws", "bound"] (spAny 1)) (G__law_shuffled : Fn P w K mg base CX0 2 "_law_shuffled" s__law_shuffled ["draws", "things"] (spShuf K)) (G_behind : Fn P w K mg base CX0 1 "behind" s_behind ["letters", "first", "second"] (spBehind K)) (G_sign_of : Fn P w K mg base CX0 2 "sign_of" s_sign_of ["letters", "exchange"] (spSign K))
    (G__law_then : Fn P w K mg base CX0 1 "_law_then" s__law_then ["letters", "one", "other"] (spBehind K)) (G__law_circle : Fn P w K mg base CX0 1 "_law_circle" s__law_circle ["many", "circle"] (spCircle K)) (G__law_still : Fn P w K mg base CX0 1 "_law_still" s__law_still ["length"] (spUnitX K))
    (G__law_same : Fn P w K mg base CX0 5 "_law_same" s__law_same ["found", "due"] (spSame K 3)) : FnOk P w K mg base CX0 6 f fd ["draws", "letters", "length"] (spTurns K) := by
  refine F.ok sc__law_turns (fun vs H Q E h => ?_) (fun cdv A outer s H vs Q E hr h => ⟨_, PSs.nox (pss_cons (ps_set (i := 3) sc__law_turns.nd rfl (by first | exact Or.inl rfl | exact Or.inr rfl) (pe_slice (ksl_list (K := K)) (pe_callF G__law_shuffled (hr.mono (by decide)) rfl pass0 (pa_cons (pv 0) (pa_cons (pe_list_range Z.list Z.range (pv 2)) pa_nil))) po_none (po_some (pe_callF G__law_any (hr.mono (by decide)) rfl pass0 (pa_cons (pv 0) (pa_cons (pe_op op_add (pv 2) pe_int) pa_nil))))))
  (pss_cons (ps_setLc (i := 4) (own := [("at", 5)]) (g := (gName 5)) rfl sc__law_turns.nd rfl rfl (sw_true rfl rfl rfl (by decide +kernel)) (pi_range1 (by rfl) Z.range (pa_cons (pv 2) pa_nil)) (blkOk_by (own := [("at", 5)]) (N := ["draws", "letters", "length", "circle", "signs", "at", "one", "odd", "many", "sign", "now", "turn", "due"]) (sc := defScope s__law_turns) (by decide +kernel)) (fun _ _ _ _ _ => (pg_name (i := 5) sc__law_turns.nd rfl (Or.inl rfl))) (fun _ _ _ _ _ => pts_nil) (fun _ _ _ _ _ => (pe_ifExp (PW.pt (pw_and (pt_cmpR op_eq (pv 1) pe_int (nomark _)) (pw_and (pt_cmpR (ko_in (K := K)) (pv 5) (pv 3) (by rfl)) (pw_and1 (pt_cmpR op_eq (pe_callF G__law_any (hr.mono (by decide)) rfl pass0 (pa_cons (pv 0) (pa_cons pe_int pa_nil))) pe_int (nomark _)))))) pe_int pe_int)))
  (pss_cons (ps_set (i := 6) sc__law_turns.nd rfl (by first | exact Or.inl rfl | exact Or.inr rfl) (pe_tupF (pa_cons (pe_ix (kx_tup (K := K)) (pe_callF G__law_circle (hr.mono (by decide)) rfl pass0 (pa_cons (pv 2) (pa_cons (pv 3) pa_nil))) pe_int (fun _ _ => rfl)) (pa_cons (pe_callTy (kc_tuple (K := K)) (by rfl) Z.tuple (by decide +kernel) (pa_cons (pv 4) pa_nil)) pa_nil))))
  (pss_cons (ps_set (i := 7) sc__law_turns.nd rfl (by first | exact Or.inl rfl | exact Or.inr rfl) (pe_op op_mod (pe_callTy call_int1 (by rfl) Z.int (by decide +kernel) (pa_cons (pe_op op_sub (pe_callB (kc_sum (K := K) rfl) (by rfl) Z.sum (by decide +kernel) (pa_cons (pv 4) pa_nil)) (pv 2)) pa_nil)) pe_int))
  (pss_cons (ps_set (i := 8) sc__law_turns.nd rfl (by first | exact Or.inl rfl | exact Or.inr rfl) (pe_op op_mul (pe_callB (call_max2 rfl) (by rfl) Z.max (by decide +kernel) (pa_cons pe_int (pa_cons (pe_callB (kc_len (K := K)) (by rfl) Z.len PySem.boot_len (pa_cons (pv 3) pa_nil)) pa_nil))) (pe_op op_add pe_int (pv 7))))
  (pss_cons (ps_set (i := 9) sc__law_turns.nd rfl (by first | exact Or.inl rfl | exact Or.inr rfl) (pe_ifExp (pt_cmpR op_eq (pe_op op_mod (pe_callTy call_int1 (by rfl) Z.int (by decide +kernel) (pa_cons (pe_op op_add (pe_op op_sub (pe_callB (call_max2 rfl) (by rfl) Z.max (by decide +kernel) (pa_cons pe_int (pa_cons (pe_callB (kc_len (K := K)) (by rfl) Z.len PySem.boot_len (pa_cons (pv 3) pa_nil)) pa_nil))) pe_int) (pv 7)) pa_nil)) pe_int) pe_int (nomark _)) (pe_un un_neg pe_int) pe_int))
  (pss_cons (ps_if (pt_not (pt_val (pe_callF G__law_same (hr.mono (by decide)) rfl pass0 (pa_cons (pe_callF G_sign_of (hr.mono (by decide)) rfl pass0 (pa_cons (pv 1) (pa_cons (pv 6) pa_nil))) (pa_cons (pv 9) pa_nil))))) (pss_one (ps_ret pe_bl)) pss_nil)
  (pss_cons (ps_set (i := 10) sc__law_turns.nd rfl (by first | exact Or.inl rfl | exact Or.inr rfl) (pv 6))
  (pss_cons (ps_for PassesOwn.never rfl (pi_range1 (by rfl) Z.range (pa_cons (pe_op op_sub (pv 8) pe_int) pa_nil)) (pg_name (i := 11) sc__law_turns.nd rfl (by first | exact Or.inl rfl | exact Or.inr rfl)) (pss_cons (ps_set (i := 12) sc__law_turns.nd rfl (by first | exact Or.inl rfl | exact Or.inr rfl) (pe_callF G__law_then (hr.mono (by decide)) rfl pass0 (pa_cons (pv 1) (pa_cons (pv 10) (pa_cons (pv 6) pa_nil)))))
  (pss_cons (ps_if (PW.pt (pw_or (pt_cmpR (ko_eq (K := K) hr.units) (pv 10) (pe_callF G__law_still (hr.mono (by decide)) rfl pass0 (pa_cons (pv 2) pa_nil)) (nomark _)) (pw_or1 (pt_not (pt_val (pe_callF G__law_same (hr.mono (by decide)) rfl pass0 (pa_cons (pe_callF G_behind (hr.mono (by decide)) rfl pass0 (pa_cons (pv 1) (pa_cons (pv 10) (pa_cons (pv 6) pa_nil)))) (pa_cons (pv 12) pa_nil)))))))) (pss_one (ps_ret pe_bl)) pss_nil)
  (pss_one (ps_set (i := 10) sc__law_turns.nd rfl (by first | exact Or.inl rfl | exact Or.inr rfl) (pv 12))))))
  (pss_one (ps_ret (pe_cmpR (ko_eq (K := K) hr.units) (pv 10) (pe_callF G__law_still (hr.mono (by decide)) rfl pass0 (pa_cons (pv 2) pa_nil)) (nomark _))))))))))))), ?_⟩)
  · obtain ⟨a, l, R, q, n, rfl, _⟩ := h
    rfl
  · obtain ⟨a, l, R, q, n, rfl, hw, q0, q1, few, k⟩ := h
    refine ⟨_, rfl, _, rfl, _, rfl, rg_ok (by omega), fun r hr1 => ?_⟩
    rw [rgV_nI]
    have w1 := hw.new (o := .lst ((nI (List.range n)).map V.int)) hr1
    have eR1 := Ex.new (o := .lst ((nI (List.range n)).map V.int)) (hw.free hr1)
    refine ⟨a, l, _, r, _, rfl, w1, sq_of upd_same, by rw [List.length_map, nI_len, List.length_range]; exact few, fun ys pm g R2 H2 _ e2 w2 hg => ?_⟩
    obtain ⟨ps, rfl, pm'⟩ := perm_nI pm
    have eR2 := eR1.trans e2
    have w2' := w2.weak eR2
    refine ⟨_, rfl, _, rfl, _, _, rfl, rfl, a, l, R2, (n : Int) + 1, rfl, w2, by omega, log_lt (by omega) (by omega), fun m H3 m0 m1 w3 => ?_⟩
    obtain ⟨m, rfl⟩ := Int.eq_ofNat_of_zero_le m0
    have pl : ps.length = n := by rw [pm'.length_eq, List.length_range]
    refine ⟨_, rfl, g, _, rfl, sq_of (w3.ex _ _ hg), fun c' hc' => ?_⟩
    rw [cut_to (by omega)]
    have R2c := w3.free hc'
    have eR3 := eR2.trans (Ex.new (o := .lst ((nI (ps.take m)).map V.int)) R2c)
    have w4 := w3.new (o := .lst ((nI (ps.take m)).map V.int)) hc'
    have hcc : upd R2 c' (.lst ((nI (ps.take m)).map V.int)) c' = some (.lst ((nI (ps.take m)).map V.int)) := upd_same
    generalize upd R2 c' (.lst ((nI (ps.take m)).map V.int)) = R4 at w4 eR3 hcc
    generalize upd H3 c' (.lst ((nI (ps.take m)).map V.int)) = H4 at w4 ⊢
    have cpm : (ps.take m ++ ps.drop m).Perm (List.range n) := by rw [List.take_append_drop]; exact pm'
    generalize ps.take m = c at w4 hcc cpm
    generalize ps.drop m = tl at cpm
    have cl : c.length ≤ n := by
      have := cpm.length_eq
      rw [List.length_append, List.length_range] at this
      omega
    have cin : ∀ x ∈ c, x < n := fun x hx => List.mem_range.mp (cpm.mem_iff.mp (List.mem_append_left _ hx))
    refine ⟨_, rfl, _, rfl, by omega, by omega, ?_⟩
    rw [show ((n : Nat) : Int).toNat = n by omega]
    refine lcW (fun i acc _ => ∃ ss : List Int, acc = ss.map V.int ∧ ss.length = i ∧ i ≤ n ∧ ∀ j, j < i → ss.getD j 0 = 1 ∨ (ss.getD j 0 = 2 ∧ q = 3 ∧ j ∈ c)) (walk_range (lo := 0)) w4 (fun D _ => ⟨[], rfl, rfl, by omega, fun j h => by omega⟩) (fun _ _ _ _ => trivial) (fun i acc Rd s => ?_)
      (fun i D acc Rd H1 z H2 hi ex w1 hD hacc s y K1 K0 k1 k0 => ?_) (fun D acc Rd H5 hD ex w5 hacc s => ?_)
    · obtain ⟨ss, rfl, h1, h2, _⟩ := s
      rw [List.length_map]
      omega
    · obtain ⟨rfl, rfl⟩ := y
      have e0 : (0 : Int) + (i : Int) = (i : Int) := by omega
      show gName _ (V.int ((0 : Int) + (i : Int))) _ _ _
      rw [e0]
      obtain ⟨ss, rfl, h1, h2, h3⟩ := s
      have put : ∀ (v : Int) (H6 : Hp), (v = 1 ∨ (v = 2 ∧ q = 3 ∧ i ∈ c)) → Wl 1 a l Rd H6 → K1 (.int v) H6 := fun v H6 hv w6 => by
        refine k1 _ Rd H6 ex w6 hacc ⟨ss ++ [v], by rw [List.map_append]; rfl, by rw [List.length_append, h1]; rfl, by omega, fun j hj => ?_⟩
        by_cases e : j = i
        · subst e
          have : (ss ++ [v]).getD j 0 = v := by
            rw [List.getD_eq_getElem?_getD, List.getElem?_append_right (by omega), h1, Nat.sub_self]
            rfl
          rw [this]
          exact hv
        · have : (ss ++ [v]).getD j 0 = ss.getD j 0 := by
            rw [List.getD_eq_getElem?_getD, List.getElem?_append_left (by omega), ← List.getD_eq_getElem?_getD]
          rw [this]
          exact h3 j (by omega)
      refine ⟨rfl, yes_go ⟨_, rfl, rfl, _, rfl, ?_⟩⟩
      rw [dec_int]
      by_cases c3 : q = 3
      · rw [c3]
        refine iteT ⟨_, rfl, _, rfl, c', _, rfl, .inl (sq_of (w1.ex _ _ (ex _ _ hcc))), rfl, flat_nI c, _, rfl, ?_⟩
        rw [if_neg (by decide), inV_nI]
        by_cases ci : i ∈ c
        · rw [decide_eq_true ci]
          refine iteT ⟨_, rfl, a, l, Rd, 2, rfl, w1, by decide, log_lt (by decide) (by decide), fun x H6 x0 x1 w6 => ⟨rfl, _, rfl, ?_⟩⟩
          rw [dec_int]
          by_cases cx : x = 0
          · rw [cx]
            exact iteT (put 2 _ (.inr ⟨rfl, c3, ci⟩) w6)
          · rw [beq_eq_false_iff_ne.mpr cx]
            exact iteF (put 1 _ (.inl rfl) w6)
        · rw [decide_eq_false ci]
          exact iteF (iteF (put 1 _ (.inl rfl) w1))
      · rw [beq_eq_false_iff_ne.mpr c3]
        exact iteF (iteF (put 1 _ (.inl rfl) w1))
    obtain ⟨ss, rfl, sl, _, sone⟩ := s
    have ci : Circ q n c tl ss := ⟨cpm, sl, sone, few, q0, q1⟩
    have hx := ci.isX
    have wR := fun (H' : Hp) (w' : Wl 1 a l Rd H') => (w'.weak ex).weak eR3
    have hcR := ex _ _ hcc
    have s12 : ∀ s ∈ ss, s = 1 ∨ s = 2 := fun s hs => by
      obtain ⟨j, hj, rfl⟩ := List.getElem_of_mem hs
      have := sone j (by omega)
      rw [List.getD_eq_getElem?_getD, List.getElem?_eq_getElem hj] at this
      rcases this with h | h
      · exact .inl h
      · exact .inr h.1
    have tsum := twos_sum s12
    -- one
    refine ⟨_, rfl, _, rfl, n, c', c, rfl, sq_of (w5.ex _ _ hcR), cin, cl, few, fun e0 H6 e6 he0 => ?_⟩
    obtain ⟨A0, B0, hh1, hh2, _⟩ := he0
    refine ⟨e0, _, 0, .ref A0, rfl, rfl, hh1.sq, rfl, _, rfl, D, _, rfl, .inl ⟨sq_of ((w5.keep e6).ex _ _ hacc), RetU.new (K := K) (H := H6) (fun B1 H7 e7 hB => ?_) (Ex.refl _)⟩⟩
    refine ⟨by show 2 ≤ sizeLine; decide, RetU.new (K := K) (H := H7) (fun e1 H8 e8 h8 => ?_) (Ex.refl _)⟩
    have tx : TpX K H8 e1 (circ c n c.length, ss).1 (circ c n c.length, ss).2 := ⟨A0, B1, h8, hh2.ex (e7.trans e8), hB.ex e8⟩
    have w8 := w5.keep (e6.trans (e7.trans e8))
    have mx : (if (c.length : Int) > 1 then (c.length : Int) else 1) = ((max 1 c.length : Nat) : Int) := by
      by_cases o : 1 < c.length
      · rw [if_pos (by omega), Nat.max_eq_right (by omega)]
      · rw [if_neg (by omega), Nat.max_eq_left (by omega)]
        rfl
    dsimp only
    -- odd
    refine asg_join (fun v H' => v = .int ((twos ss % 2 : Nat) : Int) ∧ H8 = H') ?_ (fun Qk hk => ?_)
    rotate_left
    · refine ⟨_, rfl, D, ss, rfl, sq_of (w8.ex _ _ hacc), _, rfl, _, _, rfl, rfl, .inl ⟨_, rfl, _, _, rfl, rfl, (show (0 : Int) < 2 by decide), hk _ _ ⟨?_, rfl⟩⟩⟩
      have : (ss.sum - (n : Int)) % 2 = ((twos ss % 2 : Nat) : Int) := by
        rw [tsum, sl]
        omega
      exact congrArg V.int this
    rintro v H' ⟨rfl, rfl⟩
    dsimp only
    refine asg_join (fun v H' => v = .int ((manyN c ss : Nat) : Int) ∧ H8 = H') ?_ (fun Qk hk => ?_)
    rotate_left
    · refine ⟨_, rfl, c', _, rfl, .inl (sq_of (w8.ex _ _ hcR)), 1, _, rfl, ?_⟩
      rw [List.length_map, nI_len, mx]
      refine ⟨_, rfl, _, _, rfl, rfl, _, _, rfl, rfl, .inl ⟨by omega, by omega⟩, hk _ _ ⟨?_, rfl⟩⟩
      unfold manyN
      congr 1
    rintro v H' ⟨rfl, rfl⟩
    dsimp only
    refine asg_join (fun v H' => v = .int (if (max 1 c.length - 1 + twos ss % 2) % 2 = 1 then -1 else 1) ∧ H8 = H') ?_ (fun Qk hk => ?_)
    rotate_left
    · refine ⟨_, rfl, c', _, rfl, .inl (sq_of (w8.ex _ _ hcR)), 1, _, rfl, ?_⟩
      rw [List.length_map, nI_len, mx]
      refine ⟨_, _, rfl, rfl, _, rfl, _, _, rfl, rfl, .inl ⟨_, rfl, _, _, rfl, rfl, (show (0 : Int) < 2 by decide), rfl, _, rfl, ?_⟩⟩
      rw [dec_int]
      have : (((max 1 c.length : Nat) : Int) - 1 + ((twos ss % 2 : Nat) : Int)) % 2 = (((max 1 c.length - 1 + twos ss % 2) % 2 : Nat) : Int) := by omega
      rw [this]
      by_cases o : (max 1 c.length - 1 + twos ss % 2) % 2 = 1
      · rw [if_pos o] at hk
        rw [o]
        exact iteT ⟨_, rfl, hk _ _ ⟨rfl, rfl⟩⟩
      · rw [if_neg o] at hk
        rw [beq_eq_false_iff_ne.mpr (by omega)]
        exact iteF (hk _ _ ⟨rfl, rfl⟩)
    rintro v H' ⟨rfl, rfl⟩
    refine ⟨_, rfl, _, rfl, q, n, e1, _, _, rfl, tx, hx, fun H9 e9 => ?_⟩
    rw [ci.sign]
    refine ⟨_, rfl, _, _, rfl, Sm.scal rfl _, fun H10 e10 => ⟨_, rfl, iteF ?_⟩⟩
    have w10 := w8.keep (e9.trans e10)
    have tx10 := tx.ex (e9.trans e10)
    have mp := manyN_pos c ss
    have mfew : manyN c ss ≤ 2000 := by
      unfold manyN
      have h1 : max 1 c.length ≤ 1000 := by omega
      have h2 : 1 + twos ss % 2 ≤ 2 := by omega
      exact Nat.mul_le_mul h1 h2
    refine ⟨_, rfl, _, rfl, _, _, rfl, rfl, _, rfl, by omega, by omega, ?_⟩
    rw [show (((manyN c ss : Nat) : Int) - 1).toNat = manyN c ss - 1 by omega]
    refine for_range (lo := 0) (n := manyN c ss - 1) (fun i σ H' => Ex H10 H' ∧ ∃ nw v1 v2, σ = [some (.ref a), some (.int q), some (.int (n : Int)), some (.ref c'), some (.ref D), none, some (.ref e1), some (.int ((twos ss % 2 : Nat) : Int)), some (.int ((manyN c ss : Nat) : Int)), some (.int (if (max 1 c.length - 1 + twos ss % 2) % 2 = 1 then -1 else 1)), some (.ref nw), v1, v2] ∧ TpX K H' nw (powX q (circ c n c.length, ss) i).1 (powX q (circ c n c.length, ss) i).2)
      ⟨Ex.refl _, e1, none, none, rfl, tx10⟩ (fun i σ H' hi z => ?_) (fun σ H' z => ?_)
    · obtain ⟨ex', nw, v1, v2, rfl, tn⟩ := z
      have ip := pow_isX (x := (circ c n c.length, ss)) hx i
      have ip1 := pow_isX (x := (circ c n c.length, ss)) hx (i + 1)
      have txx := tx10.ex ex'
      refine ⟨_, rfl, _, rfl, _, rfl, q, n, nw, e1, _, _, _, _, rfl, tn, ip, txx, hx, fun d H12 e12 hd => ?_⟩
      refine ⟨_, rfl, _, rfl, n, rfl, few, fun u H13 e13 hu => ?_⟩
      show rEqD K _ _ _ _
      refine eq_pair (x := powX q (circ c n c.length, ss) i) (y := unitX n) (tn.ex (e12.trans e13)) hu ⟨_, rfl, ?_⟩
      rw [decide_eq_false (ci.not_yet i (by omega))]
      refine iteF ⟨_, rfl, _, rfl, _, rfl, q, n, nw, e1, _, _, _, _, rfl, tn.ex (e12.trans e13), ip, txx.ex (e12.trans e13), hx, fun b H14 e14 hb => ?_⟩
      refine ⟨_, rfl, _, _, rfl, .pair hb (hd.ex (e13.trans e14)) (Nat.le_trans (Nat.le_of_eq ip1.pn) few) (Nat.le_trans (Nat.le_of_eq ip1.sn) few) 1, fun H15 e15 => ⟨_, rfl, iteF ?_⟩⟩
      exact ⟨_, rfl, ex'.trans (e12.trans (e13.trans (e14.trans e15))), d, _, _, rfl, hd.ex (e13.trans (e14.trans e15))⟩
    · obtain ⟨ex', nw, v1, v2, rfl, tn⟩ := z
      refine ⟨_, rfl, _, rfl, n, rfl, few, fun u H13 e13 hu => ?_⟩
      show rEqD K _ _ _ _
      refine eq_pair (x := powX q (circ c n c.length, ss) (manyN c ss - 1)) (y := unitX n) (tn.ex e13) hu ?_
      rw [decide_eq_true ci.at_last]
      exact k _ (wR _ (w10.keep (ex'.trans e13)))
end
end K31

namespace K31
open PySem PySem.Spec PyProof.Rows L2 Evl Own
theorem LstX.mut {K : PySem.W.Frag} {R : Hp} {q : Int} {n : Nat} {es : List Addr} {xs : List XX} {wr : Addr} {ys zs : List V} (l : LstX K R q n es xs) (hw : R wr = some (.lst ys)) : LstX K (upd R wr (.lst zs)) q n es xs :=
  ⟨l.len, l.few, fun i e x h1 h2 => ⟨(l.at_ i e x h1 h2).1.mut hw, (l.at_ i e x h1 h2).2⟩⟩
theorem LstX.push {K : PySem.W.Frag} {R : Hp} {q : Int} {n : Nat} {es : List Addr} {xs : List XX} {e : Addr} {x : XX} (l : LstX K R q n es xs) (t : TpX K R e x.1 x.2) (ix : IsX q n x.1 x.2) (few : xs.length + 1 ≤ 1000) : LstX K R q n (es ++ [e]) (xs ++ [x]) := by
  refine ⟨by rw [List.length_append, List.length_append, l.len]; rfl, by rw [List.length_append]; exact few, fun i a y h1 h2 => ?_⟩
  by_cases c : i < es.length
  · rw [List.getElem?_append_left c] at h1
    rw [List.getElem?_append_left (by rw [← l.len]; exact c)] at h2
    exact l.at_ i a y h1 h2
  · rw [List.getElem?_append_right (by omega)] at h1
    rw [List.getElem?_append_right (by rw [← l.len]; omega), ← l.len] at h2
    have : i - es.length = 0 := by
      have := (List.getElem?_eq_some_iff.mp h1).1
      simp at this
      omega
    rw [this] at h1 h2
    cases h1
    cases h2
    exact ⟨t, ix⟩
def spLaw (K : PySem.W.Frag) : Sp := fun vs H Q _ => ∃ (a : Addr) (ns : List Int), vs = [.ref a] ∧ SqL K H a (ns.map V.int) ∧ ∀ H', Q (.bl true) H'
section
variable {P : Program} {w : World} {K : PySem.W.Frag} {mg : Str → Option Value} {base : Heap} {f : Addr} {fd : FuncData}
theorem ok_law (F : FnP K "law" s_law f fd) (Z : Zs mg) (G__law_source : Fn P w K mg base CX0 1 "_law_source" s__law_source ["script", "salt"] (spDeal 1 K)) (G__law_any : Fn P w K mg base CX0 1 "_law_any" s__law_any ["draws", "bound"] (spAny 1)) (G__law_of : Fn P w K mg base CX0 2 "_law_of" s__law_of ["draws", "some"] (spOf 1 K))
    (G__law_length : Fn P w K mg base CX0 2 "_law_length" s__law_length ["draws", "letters"] spLength) (G__law_exchange : Fn P w K mg base CX0 3 "_law_exchange" s__law_exchange ["draws", "letters", "length"] (spExch K)) (G__law_rows : Fn P w K mg base CX0 6 "_law_rows" s__law_rows ["draws", "letters", "length", "exchanges"] (spRows K))
    (G__law_halves : Fn P w K mg base CX0 6 "_law_halves" s__law_halves ["draws", "letters", "length", "exchanges"] (spRows K)) (G__law_backs : Fn P w K mg base CX0 6 "_law_backs" s__law_backs ["letters", "length", "one"] (spBacks K)) (G__law_turns : Fn P w K mg base CX0 6 "_law_turns" s__law_turns ["draws", "letters", "length"] (spTurns K)) : FnOk P w K mg base CX0 7 f fd ["script"] (spLaw K) := by
  refine F.ok sc_law (fun vs H Q E h => ?_) (fun cdv A outer s H vs Q E hr h => ⟨_, PSs.nox (pss_cons (ps_set (i := 1) sc_law.nd rfl (by first | exact Or.inl rfl | exact Or.inr rfl) (pe_callF G__law_source (hr.mono (by decide)) rfl pass0 (pa_cons (pv 0) (pa_cons pe_int pa_nil))))
  (pss_cons (ps_for PassesOwn.never rfl (pi_list (pe_lst (pa_cons pe_int (pa_cons pe_int pa_nil)))) (pg_name (i := 2) sc_law.nd rfl (by first | exact Or.inl rfl | exact Or.inr rfl)) (pss_one (ps_for PassesOwn.never rfl (pi_list (pe_lst (pa_cons (pe_callF G__law_length (hr.mono (by decide)) rfl pass0 (pa_cons (pv 1) (pa_cons (pv 2) pa_nil))) (pa_cons (pe_callF G__law_length (hr.mono (by decide)) rfl pass0 (pa_cons (pv 1) (pa_cons (pv 2) pa_nil))) pa_nil)))) (pg_name (i := 3) sc_law.nd rfl (by first | exact Or.inl rfl | exact Or.inr rfl)) (pss_cons (ps_setLc (i := 4) (own := [("at", 5)]) (g := (gName 5)) rfl sc_law.nd rfl rfl (sw_true rfl rfl rfl (by decide +kernel)) (pi_range1 (by rfl) Z.range (pa_cons (pe_op op_add pe_int (pe_callF G__law_any (hr.mono (by decide)) rfl pass0 (pa_cons (pv 1) (pa_cons (pe_callF G__law_of (hr.mono (by decide)) rfl pass0 (pa_cons (pv 1) (pa_cons (pe_lst (pa_cons pe_int (pa_cons pe_int pa_nil))) pa_nil))) pa_nil)))) pa_nil)) (blkOk_by (own := [("at", 5)]) (N := ["script", "draws", "letters", "length", "exchanges", "at"]) (sc := defScope s_law) (by decide +kernel)) (fun _ _ _ _ _ => (pg_name (i := 5) sc_law.nd rfl (Or.inl rfl))) (fun _ _ _ _ _ => pts_nil) (fun _ _ _ _ _ => (pe_callF G__law_exchange (hr.mono (by decide)) rfl pass0 (pa_cons (pv 1) (pa_cons (pv 2) (pa_cons (pv 3) pa_nil))))))
  (pss_cons (ps_if (PW.pt (pw_or (pt_not (pt_val (pe_callF G__law_rows (hr.mono (by decide)) rfl pass0 (pa_cons (pv 1) (pa_cons (pv 2) (pa_cons (pv 3) (pa_cons (pv 4) pa_nil))))))) (pw_or1 (pt_not (pt_val (pe_callF G__law_halves (hr.mono (by decide)) rfl pass0 (pa_cons (pv 1) (pa_cons (pv 2) (pa_cons (pv 3) (pa_cons (pv 4) pa_nil)))))))))) (pss_one (ps_ret pe_bl)) pss_nil)
  (pss_cons (ps_if (PW.pt (pw_or (pt_not (pt_val (pe_callF G__law_backs (hr.mono (by decide)) rfl pass0 (pa_cons (pv 2) (pa_cons (pv 3) (pa_cons (pe_ix (kx_list (K := K)) (pv 4) pe_int (fun _ _ => rfl)) pa_nil)))))) (pw_or1 (pt_not (pt_val (pe_callF G__law_turns (hr.mono (by decide)) rfl pass0 (pa_cons (pv 1) (pa_cons (pv 2) (pa_cons (pv 3) pa_nil))))))))) (pss_one (ps_ret pe_bl)) pss_nil)
  (pss_one (ps_if (pt_not (pt_val (pe_callF G__law_rows (hr.mono (by decide)) rfl pass0 (pa_cons (pv 1) (pa_cons (pv 2) (pa_cons (pv 3) (pa_cons (pe_slice (ksl_list (K := K)) (pv 4) po_none (po_some pe_int)) pa_nil))))))) (pss_one (ps_ret pe_bl)) pss_nil))))))))
  (pss_one (ps_ret pe_bl)))), ?_⟩)
  · obtain ⟨a, ns, rfl, _⟩ := h
    rfl
  · obtain ⟨a, ns, rfl, ha, k⟩ := h
    refine ⟨_, rfl, a, ns, 31, rfl, ha, by decide, by decide, fun d l H1 w1 => ?_⟩
    refine ⟨by decide, fun t ht => ?_⟩
    have w2 := w1.new (o := .lst [V.int 2, .int 3]) ht
    have ht2 : upd H t (.lst [V.int 2, .int 3]) t = some (.lst [V.int 2, .int 3]) := upd_same
    generalize upd H t (.lst [V.int 2, .int 3]) = R at w2 ht2
    generalize upd H1 t (.lst [V.int 2, .int 3]) = H2 at w2 ⊢
    refine ⟨t, rfl, ⟨_, sq_of (w2.ex _ _ ht2)⟩, for_list (xs := [V.int 2, .int 3]) (fun i σ H' => Wl 1 d l R H' ∧ ∃ v1 v2 v3, σ = [some (.ref a), some (.ref d), v1, v2, v3, none]) ⟨w2, none, none, none, rfl⟩ (fun i σ H' _ h => sq_of (h.1.ex _ _ ht2)) (fun i z σ H' hz h => ?_) (fun σ H' h => k _)⟩
    obtain ⟨w3, v1, v2, v3, rfl⟩ := h
    have hq : ∃ q : Int, z = .int q ∧ 2 ≤ q ∧ q ≤ 3 := by
      rcases i with _ | _ | i
      · cases hz
        exact ⟨2, rfl, by decide, by decide⟩
      · cases hz
        exact ⟨3, rfl, by decide, by decide⟩
      · cases hz
    obtain ⟨q, rfl, q0, q1⟩ := hq
    refine ⟨_, rfl, _, rfl, d, l, R, q, rfl, w3, fun n1 H4 hn1 w4 => ⟨_, rfl, _, rfl, d, l, R, q, rfl, w4, fun n2 H5 hn2 w5 => ⟨by show 2 ≤ sizeLine; decide, fun u hu => ?_⟩⟩⟩
    have w6 := w5.new (o := .lst [V.int (n1 : Int), .int (n2 : Int)]) hu
    have eR := Ex.new (o := .lst [V.int (n1 : Int), .int (n2 : Int)]) (w5.free hu)
    have hu2 : upd R u (.lst [V.int (n1 : Int), .int (n2 : Int)]) u = some (.lst [V.int (n1 : Int), .int (n2 : Int)]) := upd_same
    generalize upd R u (.lst [V.int (n1 : Int), .int (n2 : Int)]) = R2 at w6 eR hu2
    generalize upd H5 u (.lst [V.int (n1 : Int), .int (n2 : Int)]) = H6 at w6 ⊢
    refine ⟨u, rfl, ⟨_, sq_of (w6.ex _ _ hu2)⟩, for_list (xs := [V.int (n1 : Int), .int (n2 : Int)]) (fun i σ H' => Wl 1 d l R2 H' ∧ ∃ v2 v3, σ = [some (.ref a), some (.ref d), some (.int q), v2, v3, none]) ⟨w6, v2, v3, rfl⟩ (fun i σ H' _ h => sq_of (h.1.ex _ _ hu2)) (fun i z σ H' hz h => ?_) (fun σ H' h => ?_)⟩
    rotate_left
    · obtain ⟨w7, v2, v3, rfl⟩ := h
      exact ⟨w7.weak eR, _, _, _, rfl⟩
    obtain ⟨w7, v2, v3, rfl⟩ := h
    have hn : ∃ n : Nat, z = .int (n : Int) ∧ n ≤ 24 := by
      rcases i with _ | _ | i
      · cases hz
        exact ⟨n1, rfl, hn1⟩
      · cases hz
        exact ⟨n2, rfl, hn2⟩
      · cases hz
    obtain ⟨n, rfl, n24⟩ := hn
    refine ⟨_, rfl, _, rfl, by decide, fun t3 ht3 => ?_⟩
    have w8 := w7.new (o := .lst [V.int 3, .int 20]) ht3
    refine ⟨d, l, t3, _, [V.int 3, .int 20], rfl, w8, sq_of upd_same, by decide, by decide, fun v H8 hv w9' => ?_⟩
    have w9 := w9'.weak (Ex.new (w7.free ht3))
    have hb : ∃ b : Int, v = .int b ∧ 0 < b ∧ b ≤ 20 := by
      rcases List.mem_cons.mp hv with rfl | hv
      · exact ⟨3, rfl, by decide, by decide⟩
      rcases List.mem_cons.mp hv with rfl | hv
      · exact ⟨20, rfl, by decide, by decide⟩
      · cases hv
    obtain ⟨b, rfl, b0, b1⟩ := hb
    refine ⟨d, l, R2, b, rfl, w9, b0, log_lt b0 (by omega), fun x H9 x0 x1 w10 => ⟨_, _, rfl, rfl, _, rfl, by omega, by omega, ?_⟩⟩
    have hN : (1 + x).toNat ≤ 1000 ∧ 0 < (1 + x).toNat := by omega
    generalize (1 + x).toNat = N at hN
    refine lcW (fun i acc Rd => ∃ (es : List Addr) (xs : List XX), acc = es.map V.ref ∧ LstX K Rd q n es xs ∧ es.length = i ∧ i ≤ N) (walk_range (lo := 0)) w10 (fun D hD => ⟨[], [], rfl, ⟨rfl, by decide, fun i e x h => by cases h⟩, rfl, by omega⟩) (fun _ _ _ _ => trivial) (fun i acc Rd s => ?_)
      (fun i D acc Rd H1 z H2 hi ex w1 hD hacc s y K1 K0 k1 k0 => ?_) (fun D acc Rd H5 hD ex w11 hacc s => ?_)
    · obtain ⟨es, xs, rfl, _, h1, h2⟩ := s
      rw [List.length_map]
      omega
    · obtain ⟨rfl, rfl⟩ := y
      obtain ⟨es, xs, rfl, lx, h1, h2⟩ := s
      refine ⟨rfl, yes_go ⟨_, rfl, _, rfl, _, rfl, d, l, Rd, q, n, rfl, w1, q0, q1, by omega, fun ps ss ix e R5 H5 e5 w5 t5 => ?_⟩⟩
      have hD5 := e5 _ _ hacc
      refine k1 _ R5 H5 (ex.trans e5) w5 hD5 ⟨es ++ [e], xs ++ [(ps, ss)], by rw [List.map_append]; rfl, ?_, by rw [List.length_append, h1]; rfl, by omega⟩
      exact ((lx.ex e5).push (x := (ps, ss)) t5 ix (by rw [← lx.len]; omega)).mut hD5
    · obtain ⟨es, xs, rfl, lx, h1, h2⟩ := s
      have few : n ≤ 1000 := by omega
      have sD : SqL K Rd D (es.map V.ref) := sq_of hacc
      refine ⟨_, rfl, _, rfl, _, rfl, _, rfl, d, l, Rd, q, n, D, es, xs, rfl, w11, sD, lx, q0, q1, few, fun H12 w12 => ⟨_, rfl, iteF ?_⟩⟩
      refine ⟨_, rfl, _, rfl, _, rfl, _, rfl, d, l, Rd, q, n, D, es, xs, rfl, w12, sD, lx, q0, q1, few, fun H13 w13 => ⟨_, rfl, iteF ?_⟩⟩
      have he0 : (es.map V.ref)[0]? = some (.ref (es[0]'(by omega))) := by
        rw [List.getElem?_map, List.getElem?_eq_getElem (by omega)]
        rfl
      obtain ⟨e0, x0, ee, he, hx, tx, ix⟩ := (lx.ex w13.ex).get he0
      refine ⟨_, rfl, _, rfl, _, rfl, D, _, 0, _, rfl, rfl, ex_l w13.ex sD, atI_nat (j := 0) he0, ?_⟩
      rw [ee]
      refine ⟨q, n, e0, x0, rfl, tx, ix, fun H14 e14 => ⟨_, rfl, iteF ?_⟩⟩
      have w14 := w13.keep e14
      refine ⟨_, rfl, _, rfl, _, rfl, d, l, Rd, q, n, rfl, w14, q0, q1, few, fun H15 w15 => ⟨_, rfl, iteF ?_⟩⟩
      refine ⟨_, rfl, _, rfl, _, rfl, _, rfl, _, rfl, D, _, rfl, ex_l w15.ex sD, fun c hc => ?_⟩
      have cut : cutV (es.map V.ref) none (some 2) = (es.take 2).map V.ref := cutR_to' (k := 2)
      rw [cut]
      have w16 := w15.new (o := .lst ((es.take 2).map V.ref)) hc
      have e16 := Ex.new (o := .lst ((es.take 2).map V.ref)) (w15.free hc)
      refine ⟨d, l, _, q, n, c, es.take 2, xs.take 2, rfl, w16, sq_of upd_same, (lx.ex e16).take 2, q0, q1, few, fun H17 w17 => ⟨_, rfl, iteF ?_⟩⟩
      exact ⟨(w17.weak e16).weak ex, _, _, rfl⟩
end
end K31

set_option maxHeartbeats 0
namespace K31
open PySem PySem.Spec PyProof.Rows L2 Own
/-! ### the head: facts by names, the run -/
def d_exchanged_row : He.DefD := ⟨("exchanged_row", none), "exchanged_row", "exchanged_row", defArgs s_exchanged_row, defBody s_exchanged_row, defScope s_exchanged_row, [], []⟩
def d_unit_exchange : He.DefD := ⟨("unit_exchange", none), "unit_exchange", "unit_exchange", defArgs s_unit_exchange, defBody s_unit_exchange, defScope s_unit_exchange, [], []⟩
def d_behind : He.DefD := ⟨("behind", none), "behind", "behind", defArgs s_behind, defBody s_behind, defScope s_behind, [], []⟩
def d_back : He.DefD := ⟨("back", none), "back", "back", defArgs s_back, defBody s_back, defScope s_back, [], []⟩
def d_cycles_in : He.DefD := ⟨("cycles_in", none), "cycles_in", "cycles_in", defArgs s_cycles_in, defBody s_cycles_in, defScope s_cycles_in, [], []⟩
def d_sign_of : He.DefD := ⟨("sign_of", none), "sign_of", "sign_of", defArgs s_sign_of, defBody s_sign_of, defScope s_sign_of, [], []⟩
def d__law_source : He.DefD := ⟨("_law_source", none), "_law_source", "_law_source", defArgs s__law_source, defBody s__law_source, defScope s__law_source, [], []⟩
def d__law_any : He.DefD := ⟨("_law_any", none), "_law_any", "_law_any", defArgs s__law_any, defBody s__law_any, defScope s__law_any, [], []⟩
def d__law_of : He.DefD := ⟨("_law_of", none), "_law_of", "_law_of", defArgs s__law_of, defBody s__law_of, defScope s__law_of, [], []⟩
def d__law_shuffled : He.DefD := ⟨("_law_shuffled", none), "_law_shuffled", "_law_shuffled", defArgs s__law_shuffled, defBody s__law_shuffled, defScope s__law_shuffled, [], []⟩
def d__law_same : He.DefD := ⟨("_law_same", none), "_law_same", "_law_same", defArgs s__law_same, defBody s__law_same, defScope s__law_same, [], []⟩
def d__law_top : He.DefD := ⟨("_law_top", none), "_law_top", "_law_top", defArgs s__law_top, defBody s__law_top, defScope s__law_top, [], []⟩
def d__law_length : He.DefD := ⟨("_law_length", none), "_law_length", "_law_length", defArgs s__law_length, defBody s__law_length, defScope s__law_length, [], []⟩
def d__law_exchange : He.DefD := ⟨("_law_exchange", none), "_law_exchange", "_law_exchange", defArgs s__law_exchange, defBody s__law_exchange, defScope s__law_exchange, [], []⟩
def d__law_led : He.DefD := ⟨("_law_led", none), "_law_led", "_law_led", defArgs s__law_led, defBody s__law_led, defScope s__law_led, [], []⟩
def d__law_then : He.DefD := ⟨("_law_then", none), "_law_then", "_law_then", defArgs s__law_then, defBody s__law_then, defScope s__law_then, [], []⟩
def d__law_undone : He.DefD := ⟨("_law_undone", none), "_law_undone", "_law_undone", defArgs s__law_undone, defBody s__law_undone, defScope s__law_undone, [], []⟩
def d__law_still : He.DefD := ⟨("_law_still", none), "_law_still", "_law_still", defArgs s__law_still, defBody s__law_still, defScope s__law_still, [], []⟩
def d__law_sign : He.DefD := ⟨("_law_sign", none), "_law_sign", "_law_sign", defArgs s__law_sign, defBody s__law_sign, defScope s__law_sign, [], []⟩
def d__law_row : He.DefD := ⟨("_law_row", none), "_law_row", "_law_row", defArgs s__law_row, defBody s__law_row, defScope s__law_row, [], []⟩
def d__law_circle : He.DefD := ⟨("_law_circle", none), "_law_circle", "_law_circle", defArgs s__law_circle, defBody s__law_circle, defScope s__law_circle, [], []⟩
def d__law_all : He.DefD := ⟨("_law_all", none), "_law_all", "_law_all", defArgs s__law_all, defBody s__law_all, defScope s__law_all, [], []⟩
def d__law_rows : He.DefD := ⟨("_law_rows", none), "_law_rows", "_law_rows", defArgs s__law_rows, defBody s__law_rows, defScope s__law_rows, [], []⟩
def d__law_halves : He.DefD := ⟨("_law_halves", none), "_law_halves", "_law_halves", defArgs s__law_halves, defBody s__law_halves, defScope s__law_halves, [], []⟩
def d__law_backs : He.DefD := ⟨("_law_backs", none), "_law_backs", "_law_backs", defArgs s__law_backs, defBody s__law_backs, defScope s__law_backs, [], []⟩
def d__law_turns : He.DefD := ⟨("_law_turns", none), "_law_turns", "_law_turns", defArgs s__law_turns, defBody s__law_turns, defScope s__law_turns, [], []⟩
def d_law : He.DefD := ⟨("law", none), "law", "law", defArgs s_law, defBody s_law, defScope s_law, [], []⟩
def fnL : List He.DefD := [d_exchanged_row, d_unit_exchange, d_behind, d_back, d_cycles_in, d_sign_of, d__law_source, d__law_any, d__law_of, d__law_shuffled, d__law_same, d__law_top, d__law_length, d__law_exchange, d__law_led, d__law_then, d__law_undone, d__law_still, d__law_sign, d__law_row, d__law_circle, d__law_all, d__law_rows, d__law_halves, d__law_backs, d__law_turns, d_law]
def faL : List He.Fa := [.glo "exchanged_row", .glo "unit_exchange", .glo "behind", .glo "back", .glo "cycles_in", .glo "sign_of", .glo "_law_source", .glo "_law_any", .glo "_law_of", .glo "_law_shuffled", .glo "_law_same", .glo "_law_top", .glo "_law_length", .glo "_law_exchange", .glo "_law_led", .glo "_law_then", .glo "_law_undone", .glo "_law_still", .glo "_law_sign", .glo "_law_row", .glo "_law_circle", .glo "_law_all", .glo "_law_rows", .glo "_law_halves", .glo "_law_backs", .glo "_law_turns", .glo "law", .free "abs", .free "bool", .free "int", .free "isinstance", .free "len", .free "list", .free "max", .free "range", .free "str", .free "sum", .free "tuple"]
def exL : List ExD := []
abbrev RR : PySem.W.OpenRow := PySem.W.OpenLaw.row PySem.Challenge.rw_ownmirrors_k31_exchanges_one_behind_anot
abbrev PR : Program := PySem.Challenge.pw_ownmirrors_k31_exchanges_one_behind_anot
abbrev fileS : Str := PR.main.file
abbrev hk : PySem.W.Hook := hookE fileS 5 faL fnL exL
def ob (s : PySem.W.SharedT) : AlE := obsEG fileS 5 faL fnL exL (HandSHeadRun.getT s)
theorem ob_eq (s : PySem.W.SharedT) : ob s = hk.obs s.abs := obsEG_eq (HandSHeadRun.getT_eq s)
def looseL : List Str := ["exchanged_row", "unit_exchange", "behind", "back", "cycles_in", "sign_of", "_law_source", "_law_any", "_law_of", "_law_shuffled", "_law_same", "_law_top", "_law_length", "_law_exchange", "_law_led", "_law_then", "_law_undone", "_law_still", "_law_sign", "_law_row", "_law_circle", "_law_all", "_law_rows", "_law_halves", "_law_backs", "_law_turns"]
theorem run (w : World) : HandSHeadRun.RunEq RR (PySem.W.view RR.prog [28]) hk ob 4000 looseL w := by
  intro os
  kernel_rfl
theorem facts {w : World} {K : PySem.W.Frag} {h : Heap} {mg : Str → Option Value} {f : Addr} (X : K.In h) (G : h.Ns mainGlobals mg) (hfa : mg ("law" : Str) = some (.ref f)) (c : SaysE fileS faL fnL exL K) :
    ∃ fd : FuncData, (∀ (s : Shared) (v : Value), BindsTo s fd ⟨[v], []⟩ [("script", v)]) ∧ ∀ base : Heap, K.In base → base.Ns mainGlobals mg → FnOk PR w K mg base CX0 7 f fd ["script"] (spLaw K) := by
  obtain ⟨fd_exchanged_row, F_exchanged_row⟩ := c.saysD.def_ 0 (d := d_exchanged_row) rfl
  have m_exchanged_row : mg "exchanged_row" = some (.ref (He.ga K "exchanged_row")) := He.glo_ok X G (c.saysD.fact 0 (f := .glo "exchanged_row") rfl)
  have b_exchanged_row : Binds K fd_exchanged_row ["letters", "exchange", "row"] [] := FunD.bindsN F_exchanged_row fun _ _ _ _ _ _ us hl => match us, hl with | [_, _, _], _ => rfl
  obtain ⟨fd_unit_exchange, F_unit_exchange⟩ := c.saysD.def_ 1 (d := d_unit_exchange) rfl
  have m_unit_exchange : mg "unit_exchange" = some (.ref (He.ga K "unit_exchange")) := He.glo_ok X G (c.saysD.fact 1 (f := .glo "unit_exchange") rfl)
  have b_unit_exchange : Binds K fd_unit_exchange ["length"] [] := FunD.bindsN F_unit_exchange fun _ _ _ _ _ _ us hl => match us, hl with | [_], _ => rfl
  obtain ⟨fd_behind, F_behind⟩ := c.saysD.def_ 2 (d := d_behind) rfl
  have m_behind : mg "behind" = some (.ref (He.ga K "behind")) := He.glo_ok X G (c.saysD.fact 2 (f := .glo "behind") rfl)
  have b_behind : Binds K fd_behind ["letters", "first", "second"] [] := FunD.bindsN F_behind fun _ _ _ _ _ _ us hl => match us, hl with | [_, _, _], _ => rfl
  obtain ⟨fd_back, F_back⟩ := c.saysD.def_ 3 (d := d_back) rfl
  have m_back : mg "back" = some (.ref (He.ga K "back")) := He.glo_ok X G (c.saysD.fact 3 (f := .glo "back") rfl)
  have b_back : Binds K fd_back ["letters", "exchange"] [] := FunD.bindsN F_back fun _ _ _ _ _ _ us hl => match us, hl with | [_, _], _ => rfl
  obtain ⟨fd_cycles_in, F_cycles_in⟩ := c.saysD.def_ 4 (d := d_cycles_in) rfl
  have m_cycles_in : mg "cycles_in" = some (.ref (He.ga K "cycles_in")) := He.glo_ok X G (c.saysD.fact 4 (f := .glo "cycles_in") rfl)
  have b_cycles_in : Binds K fd_cycles_in ["places"] [] := FunD.bindsN F_cycles_in fun _ _ _ _ _ _ us hl => match us, hl with | [_], _ => rfl
  obtain ⟨fd_sign_of, F_sign_of⟩ := c.saysD.def_ 5 (d := d_sign_of) rfl
  have m_sign_of : mg "sign_of" = some (.ref (He.ga K "sign_of")) := He.glo_ok X G (c.saysD.fact 5 (f := .glo "sign_of") rfl)
  have b_sign_of : Binds K fd_sign_of ["letters", "exchange"] [] := FunD.bindsN F_sign_of fun _ _ _ _ _ _ us hl => match us, hl with | [_, _], _ => rfl
  obtain ⟨fd__law_source, F__law_source⟩ := c.saysD.def_ 6 (d := d__law_source) rfl
  have m__law_source : mg "_law_source" = some (.ref (He.ga K "_law_source")) := He.glo_ok X G (c.saysD.fact 6 (f := .glo "_law_source") rfl)
  have b__law_source : Binds K fd__law_source ["script", "salt"] [] := FunD.bindsN F__law_source fun _ _ _ _ _ _ us hl => match us, hl with | [_, _], _ => rfl
  obtain ⟨fd__law_any, F__law_any⟩ := c.saysD.def_ 7 (d := d__law_any) rfl
  have m__law_any : mg "_law_any" = some (.ref (He.ga K "_law_any")) := He.glo_ok X G (c.saysD.fact 7 (f := .glo "_law_any") rfl)
  have b__law_any : Binds K fd__law_any ["draws", "bound"] [] := FunD.bindsN F__law_any fun _ _ _ _ _ _ us hl => match us, hl with | [_, _], _ => rfl
  obtain ⟨fd__law_of, F__law_of⟩ := c.saysD.def_ 8 (d := d__law_of) rfl
  have m__law_of : mg "_law_of" = some (.ref (He.ga K "_law_of")) := He.glo_ok X G (c.saysD.fact 8 (f := .glo "_law_of") rfl)
  have b__law_of : Binds K fd__law_of ["draws", "some"] [] := FunD.bindsN F__law_of fun _ _ _ _ _ _ us hl => match us, hl with | [_, _], _ => rfl
  obtain ⟨fd__law_shuffled, F__law_shuffled⟩ := c.saysD.def_ 9 (d := d__law_shuffled) rfl
  have m__law_shuffled : mg "_law_shuffled" = some (.ref (He.ga K "_law_shuffled")) := He.glo_ok X G (c.saysD.fact 9 (f := .glo "_law_shuffled") rfl)
  have b__law_shuffled : Binds K fd__law_shuffled ["draws", "things"] [] := FunD.bindsN F__law_shuffled fun _ _ _ _ _ _ us hl => match us, hl with | [_, _], _ => rfl
  obtain ⟨fd__law_same, F__law_same⟩ := c.saysD.def_ 10 (d := d__law_same) rfl
  have m__law_same : mg "_law_same" = some (.ref (He.ga K "_law_same")) := He.glo_ok X G (c.saysD.fact 10 (f := .glo "_law_same") rfl)
  have b__law_same : Binds K fd__law_same ["found", "due"] [] := FunD.bindsN F__law_same fun _ _ _ _ _ _ us hl => match us, hl with | [_, _], _ => rfl
  obtain ⟨fd__law_top, F__law_top⟩ := c.saysD.def_ 11 (d := d__law_top) rfl
  have m__law_top : mg "_law_top" = some (.ref (He.ga K "_law_top")) := He.glo_ok X G (c.saysD.fact 11 (f := .glo "_law_top") rfl)
  have b__law_top : Binds K fd__law_top ["letters"] [] := FunD.bindsN F__law_top fun _ _ _ _ _ _ us hl => match us, hl with | [_], _ => rfl
  obtain ⟨fd__law_length, F__law_length⟩ := c.saysD.def_ 12 (d := d__law_length) rfl
  have m__law_length : mg "_law_length" = some (.ref (He.ga K "_law_length")) := He.glo_ok X G (c.saysD.fact 12 (f := .glo "_law_length") rfl)
  have b__law_length : Binds K fd__law_length ["draws", "letters"] [] := FunD.bindsN F__law_length fun _ _ _ _ _ _ us hl => match us, hl with | [_, _], _ => rfl
  obtain ⟨fd__law_exchange, F__law_exchange⟩ := c.saysD.def_ 13 (d := d__law_exchange) rfl
  have m__law_exchange : mg "_law_exchange" = some (.ref (He.ga K "_law_exchange")) := He.glo_ok X G (c.saysD.fact 13 (f := .glo "_law_exchange") rfl)
  have b__law_exchange : Binds K fd__law_exchange ["draws", "letters", "length"] [] := FunD.bindsN F__law_exchange fun _ _ _ _ _ _ us hl => match us, hl with | [_, _, _], _ => rfl
  obtain ⟨fd__law_led, F__law_led⟩ := c.saysD.def_ 14 (d := d__law_led) rfl
  have m__law_led : mg "_law_led" = some (.ref (He.ga K "_law_led")) := He.glo_ok X G (c.saysD.fact 14 (f := .glo "_law_led") rfl)
  have b__law_led : Binds K fd__law_led ["letters", "exchange", "row"] [] := FunD.bindsN F__law_led fun _ _ _ _ _ _ us hl => match us, hl with | [_, _, _], _ => rfl
  obtain ⟨fd__law_then, F__law_then⟩ := c.saysD.def_ 15 (d := d__law_then) rfl
  have m__law_then : mg "_law_then" = some (.ref (He.ga K "_law_then")) := He.glo_ok X G (c.saysD.fact 15 (f := .glo "_law_then") rfl)
  have b__law_then : Binds K fd__law_then ["letters", "one", "other"] [] := FunD.bindsN F__law_then fun _ _ _ _ _ _ us hl => match us, hl with | [_, _, _], _ => rfl
  obtain ⟨fd__law_undone, F__law_undone⟩ := c.saysD.def_ 16 (d := d__law_undone) rfl
  have m__law_undone : mg "_law_undone" = some (.ref (He.ga K "_law_undone")) := He.glo_ok X G (c.saysD.fact 16 (f := .glo "_law_undone") rfl)
  have b__law_undone : Binds K fd__law_undone ["exchange"] [] := FunD.bindsN F__law_undone fun _ _ _ _ _ _ us hl => match us, hl with | [_], _ => rfl
  obtain ⟨fd__law_still, F__law_still⟩ := c.saysD.def_ 17 (d := d__law_still) rfl
  have m__law_still : mg "_law_still" = some (.ref (He.ga K "_law_still")) := He.glo_ok X G (c.saysD.fact 17 (f := .glo "_law_still") rfl)
  have b__law_still : Binds K fd__law_still ["length"] [] := FunD.bindsN F__law_still fun _ _ _ _ _ _ us hl => match us, hl with | [_], _ => rfl
  obtain ⟨fd__law_sign, F__law_sign⟩ := c.saysD.def_ 18 (d := d__law_sign) rfl
  have m__law_sign : mg "_law_sign" = some (.ref (He.ga K "_law_sign")) := He.glo_ok X G (c.saysD.fact 18 (f := .glo "_law_sign") rfl)
  have b__law_sign : Binds K fd__law_sign ["exchange"] [] := FunD.bindsN F__law_sign fun _ _ _ _ _ _ us hl => match us, hl with | [_], _ => rfl
  obtain ⟨fd__law_row, F__law_row⟩ := c.saysD.def_ 19 (d := d__law_row) rfl
  have m__law_row : mg "_law_row" = some (.ref (He.ga K "_law_row")) := He.glo_ok X G (c.saysD.fact 19 (f := .glo "_law_row") rfl)
  have b__law_row : Binds K fd__law_row ["draws", "letters", "length"] [] := FunD.bindsN F__law_row fun _ _ _ _ _ _ us hl => match us, hl with | [_, _, _], _ => rfl
  obtain ⟨fd__law_circle, F__law_circle⟩ := c.saysD.def_ 20 (d := d__law_circle) rfl
  have m__law_circle : mg "_law_circle" = some (.ref (He.ga K "_law_circle")) := He.glo_ok X G (c.saysD.fact 20 (f := .glo "_law_circle") rfl)
  have b__law_circle : Binds K fd__law_circle ["many", "circle"] [] := FunD.bindsN F__law_circle fun _ _ _ _ _ _ us hl => match us, hl with | [_, _], _ => rfl
  obtain ⟨fd__law_all, F__law_all⟩ := c.saysD.def_ 21 (d := d__law_all) rfl
  have m__law_all : mg "_law_all" = some (.ref (He.ga K "_law_all")) := He.glo_ok X G (c.saysD.fact 21 (f := .glo "_law_all") rfl)
  have b__law_all : Binds K fd__law_all ["letters", "length", "exchanges"] [] := FunD.bindsN F__law_all fun _ _ _ _ _ _ us hl => match us, hl with | [_, _, _], _ => rfl
  obtain ⟨fd__law_rows, F__law_rows⟩ := c.saysD.def_ 22 (d := d__law_rows) rfl
  have m__law_rows : mg "_law_rows" = some (.ref (He.ga K "_law_rows")) := He.glo_ok X G (c.saysD.fact 22 (f := .glo "_law_rows") rfl)
  have b__law_rows : Binds K fd__law_rows ["draws", "letters", "length", "exchanges"] [] := FunD.bindsN F__law_rows fun _ _ _ _ _ _ us hl => match us, hl with | [_, _, _, _], _ => rfl
  obtain ⟨fd__law_halves, F__law_halves⟩ := c.saysD.def_ 23 (d := d__law_halves) rfl
  have m__law_halves : mg "_law_halves" = some (.ref (He.ga K "_law_halves")) := He.glo_ok X G (c.saysD.fact 23 (f := .glo "_law_halves") rfl)
  have b__law_halves : Binds K fd__law_halves ["draws", "letters", "length", "exchanges"] [] := FunD.bindsN F__law_halves fun _ _ _ _ _ _ us hl => match us, hl with | [_, _, _, _], _ => rfl
  obtain ⟨fd__law_backs, F__law_backs⟩ := c.saysD.def_ 24 (d := d__law_backs) rfl
  have m__law_backs : mg "_law_backs" = some (.ref (He.ga K "_law_backs")) := He.glo_ok X G (c.saysD.fact 24 (f := .glo "_law_backs") rfl)
  have b__law_backs : Binds K fd__law_backs ["letters", "length", "one"] [] := FunD.bindsN F__law_backs fun _ _ _ _ _ _ us hl => match us, hl with | [_, _, _], _ => rfl
  obtain ⟨fd__law_turns, F__law_turns⟩ := c.saysD.def_ 25 (d := d__law_turns) rfl
  have m__law_turns : mg "_law_turns" = some (.ref (He.ga K "_law_turns")) := He.glo_ok X G (c.saysD.fact 25 (f := .glo "_law_turns") rfl)
  have b__law_turns : Binds K fd__law_turns ["draws", "letters", "length"] [] := FunD.bindsN F__law_turns fun _ _ _ _ _ _ us hl => match us, hl with | [_, _, _], _ => rfl
  obtain ⟨fd_law, F_law⟩ := c.saysD.def_ 26 (d := d_law) rfl
  have m_law : mg "law" = some (.ref (He.ga K "law")) := He.glo_ok X G (c.saysD.fact 26 (f := .glo "law") rfl)
  have b_law : Binds K fd_law ["script"] [] := FunD.bindsN F_law fun _ _ _ _ _ _ us hl => match us, hl with | [_], _ => rfl
  have Z : Zs mg := ⟨He.free_ok X G (c.saysD.fact 27 (f := .free "abs") rfl), He.free_ok X G (c.saysD.fact 28 (f := .free "bool") rfl), He.free_ok X G (c.saysD.fact 29 (f := .free "int") rfl), He.free_ok X G (c.saysD.fact 30 (f := .free "isinstance") rfl), He.free_ok X G (c.saysD.fact 31 (f := .free "len") rfl), He.free_ok X G (c.saysD.fact 32 (f := .free "list") rfl), He.free_ok X G (c.saysD.fact 33 (f := .free "max") rfl), He.free_ok X G (c.saysD.fact 34 (f := .free "range") rfl), He.free_ok X G (c.saysD.fact 35 (f := .free "str") rfl), He.free_ok X G (c.saysD.fact 36 (f := .free "sum") rfl), He.free_ok X G (c.saysD.fact 37 (f := .free "tuple") rfl)⟩
  have e := hfa.symm.trans m_law
  cases e
  have b := FunD.bindsA (ps := ["script"]) F_law fun _ _ _ _ _ _ us hl => match us, hl with | [_], _ => rfl
  refine ⟨fd_law, fun s v => b s [v] rfl, fun base _ _ => ?_⟩
  have G_exchanged_row : Fn PR w K mg base CX0 1 "exchanged_row" s_exchanged_row ["letters", "exchange", "row"] (spLed K) := ⟨_, _, m_exchanged_row, F_exchanged_row, b_exchanged_row, ok_exchanged_row F_exchanged_row Z⟩
  have G_unit_exchange : Fn PR w K mg base CX0 1 "unit_exchange" s_unit_exchange ["length"] (spUnitX K) := ⟨_, _, m_unit_exchange, F_unit_exchange, b_unit_exchange, ok_unit_exchange F_unit_exchange Z⟩
  have G_behind : Fn PR w K mg base CX0 1 "behind" s_behind ["letters", "first", "second"] (spBehind K) := ⟨_, _, m_behind, F_behind, b_behind, ok_behind F_behind Z⟩
  have G_back : Fn PR w K mg base CX0 1 "back" s_back ["letters", "exchange"] (spBack K) := ⟨_, _, m_back, F_back, b_back, ok_back F_back Z⟩
  have G_cycles_in : Fn PR w K mg base CX0 1 "cycles_in" s_cycles_in ["places"] (spCyc K) := ⟨_, _, m_cycles_in, F_cycles_in, b_cycles_in, ok_cycles_in F_cycles_in Z⟩
  have G_sign_of : Fn PR w K mg base CX0 2 "sign_of" s_sign_of ["letters", "exchange"] (spSign K) := ⟨_, _, m_sign_of, F_sign_of, b_sign_of, ok_sign_of F_sign_of Z G_cycles_in⟩
  have G__law_source : Fn PR w K mg base CX0 1 "_law_source" s__law_source ["script", "salt"] (spDeal 1 K) := ⟨_, _, m__law_source, F__law_source, b__law_source, ok__law_source F__law_source Z⟩
  have G__law_any : Fn PR w K mg base CX0 1 "_law_any" s__law_any ["draws", "bound"] (spAny 1) := ⟨_, _, m__law_any, F__law_any, b__law_any, ok__law_any F__law_any Z⟩
  have G__law_of : Fn PR w K mg base CX0 2 "_law_of" s__law_of ["draws", "some"] (spOf 1 K) := ⟨_, _, m__law_of, F__law_of, b__law_of, ok__law_of F__law_of Z G__law_any⟩
  have G__law_shuffled : Fn PR w K mg base CX0 2 "_law_shuffled" s__law_shuffled ["draws", "things"] (spShuf K) := ⟨_, _, m__law_shuffled, F__law_shuffled, b__law_shuffled, ok__law_shuffled F__law_shuffled Z G__law_any⟩
  have G__law_same : Fn PR w K mg base CX0 5 "_law_same" s__law_same ["found", "due"] (spSame K 3) := ⟨_, _, m__law_same, F__law_same, b__law_same, ok__law_same F__law_same b__law_same m__law_same Z 3⟩
  have G__law_top : Fn PR w K mg base CX0 1 "_law_top" s__law_top ["letters"] spTop := ⟨_, _, m__law_top, F__law_top, b__law_top, ok__law_top F__law_top Z⟩
  have G__law_length : Fn PR w K mg base CX0 2 "_law_length" s__law_length ["draws", "letters"] spLength := ⟨_, _, m__law_length, F__law_length, b__law_length, ok__law_length F__law_length Z G__law_any G__law_top⟩
  have G__law_exchange : Fn PR w K mg base CX0 3 "_law_exchange" s__law_exchange ["draws", "letters", "length"] (spExch K) := ⟨_, _, m__law_exchange, F__law_exchange, b__law_exchange, ok__law_exchange F__law_exchange Z G__law_any G__law_shuffled⟩
  have G__law_led : Fn PR w K mg base CX0 1 "_law_led" s__law_led ["letters", "exchange", "row"] (spLed K) := ⟨_, _, m__law_led, F__law_led, b__law_led, ok__law_led F__law_led Z⟩
  have G__law_then : Fn PR w K mg base CX0 1 "_law_then" s__law_then ["letters", "one", "other"] (spBehind K) := ⟨_, _, m__law_then, F__law_then, b__law_then, ok__law_then F__law_then Z⟩
  have G__law_undone : Fn PR w K mg base CX0 1 "_law_undone" s__law_undone ["exchange"] (spUndone K) := ⟨_, _, m__law_undone, F__law_undone, b__law_undone, ok__law_undone F__law_undone Z⟩
  have G__law_still : Fn PR w K mg base CX0 1 "_law_still" s__law_still ["length"] (spUnitX K) := ⟨_, _, m__law_still, F__law_still, b__law_still, ok__law_still F__law_still Z⟩
  have G__law_sign : Fn PR w K mg base CX0 1 "_law_sign" s__law_sign ["exchange"] (spLSign K) := ⟨_, _, m__law_sign, F__law_sign, b__law_sign, ok__law_sign F__law_sign Z⟩
  have G__law_row : Fn PR w K mg base CX0 2 "_law_row" s__law_row ["draws", "letters", "length"] (spRowL K) := ⟨_, _, m__law_row, F__law_row, b__law_row, ok__law_row F__law_row Z G__law_any⟩
  have G__law_circle : Fn PR w K mg base CX0 1 "_law_circle" s__law_circle ["many", "circle"] (spCircle K) := ⟨_, _, m__law_circle, F__law_circle, b__law_circle, ok__law_circle F__law_circle Z⟩
  have G__law_all : Fn PR w K mg base CX0 2 "_law_all" s__law_all ["letters", "length", "exchanges"] (spAll K) := ⟨_, _, m__law_all, F__law_all, b__law_all, ok__law_all F__law_all Z G__law_still G__law_then⟩
  have G__law_rows : Fn PR w K mg base CX0 6 "_law_rows" s__law_rows ["draws", "letters", "length", "exchanges"] (spRows K) := ⟨_, _, m__law_rows, F__law_rows, b__law_rows, ok__law_rows F__law_rows Z G_exchanged_row G__law_row G__law_led G__law_all G__law_same⟩
  have G__law_halves : Fn PR w K mg base CX0 6 "_law_halves" s__law_halves ["draws", "letters", "length", "exchanges"] (spRows K) := ⟨_, _, m__law_halves, F__law_halves, b__law_halves, ok__law_halves F__law_halves Z G__law_any G_behind G_sign_of G__law_then G__law_undone G__law_sign G__law_all G__law_same⟩
  have G__law_backs : Fn PR w K mg base CX0 6 "_law_backs" s__law_backs ["letters", "length", "one"] (spBacks K) := ⟨_, _, m__law_backs, F__law_backs, b__law_backs, ok__law_backs F__law_backs Z G_unit_exchange G_behind G_back G__law_undone G__law_still G__law_same⟩
  have G__law_turns : Fn PR w K mg base CX0 6 "_law_turns" s__law_turns ["draws", "letters", "length"] (spTurns K) := ⟨_, _, m__law_turns, F__law_turns, b__law_turns, ok__law_turns F__law_turns Z G__law_any G__law_shuffled G_behind G_sign_of G__law_then G__law_circle G__law_still G__law_same⟩
  exact ok_law F_law Z G__law_source G__law_any G__law_of G__law_length G__law_exchange G__law_rows G__law_halves G__law_backs G__law_turns
end K31
open PySem PySem.W PySem.Calls PyProof.Rows
theorem PySem.Challenge.cw_ownmirrors_k31_exchanges_one_behind_anot_holds : PySem.Challenge.rw_ownmirrors_k31_exchanges_one_behind_anot.Holds := by
  w_on; o_law
  refine HandSHeadRun.head_any (r := OpenLaw.row PySem.Challenge.rw_ownmirrors_k31_exchanges_one_behind_anot) (q := view (OpenLaw.row PySem.Challenge.rw_ownmirrors_k31_exchanges_one_behind_anot).prog [28]) (H := K31.hk) (ob := K31.ob) (M := 4000) (loose := K31.looseL) (d := HandSHeadRun.topDef (OpenLaw.row PySem.Challenge.rw_ownmirrors_k31_exchanges_one_behind_anot).prog 28) (kwd := []) K31.ob_eq
    (by kernel_rfl) (fun s => by kernel_rfl) K31.run (by kernel_rfl) (by kernel_rfl) (by kernel_rfl) (by rfl) (by first | assumption | decide +kernel) (by decide +kernel) ⟨rfl, rfl, rfl, rfl, rfl, by decide +kernel⟩ ?hw ?hc
  case hw => w_witness2
  case hc =>
    refine L2.walk_ofE (l := PySem.Challenge.rw_ownmirrors_k31_exchanges_one_behind_anot) (n := 63) (k := 7) (x := "script") (CX := L2.CX0) rfl (by decide) (by kernel_rfl) ⟨rfl, by decide, by decide⟩ ?F (fun _ _ _ _ z => z)
    intro w mg fa h Y G hmg0
    obtain ⟨K, KX, c⟩ := Y
    have hmg : mg ("law" : PySem.Str) = some (.ref fa) := by
      have e : (HandSHeadRun.topDef (OpenLaw.row PySem.Challenge.rw_ownmirrors_k31_exchanges_one_behind_anot).prog 28).name = ("law" : PySem.Str) := by kernel_rfl
      rw [← e]
      exact hmg0
    obtain ⟨fd, hb, hF⟩ := K31.facts (w := w) KX G hmg c
    exact ⟨K, fd, K31.spLaw K, KX, hb, fun H a ns hl _ hS => ⟨a, ns, rfl, hS, fun _ => rfl⟩, hF⟩
